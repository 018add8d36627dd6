import PyProof.Rows.All
import Wide.All
import OpenK.AllK
import Wide.FinOn
import HandS.ForMost
import HandS.ForExc
import HandS.Conv
import HandS.More
import HandS.IsInst
import HandS.TupLe
import HandS.TupAny
import HandS.Deep
import HandS.SortInts
import HandS.SortRule
import KE.GoesMore
import KE.GoesEnum
import HandS.Style
import HandS.TupMul
import HandS.Star
import HandS.Remove
import HandS.SetFor
import HandS.Strs
import HandS.WordsDict
import HandS.Zip
import PyProof.WalkInts
import PyProof.SeqI3
import KE.KDictDisplayH
import KE.KIndexOf
import HandS.TupSets
import HandS.NoneIn
import KE.KBits
import HandS.NamedTupSort
import KE.LtData
import KE.GoesZip
import PyProof.EqKinds
import PySem.Challenge.RW_whateverothers_k53_whole_least_covers_ju
set_option Elab.async false
set_option linter.all false
set_option maxRecDepth 100000
/-! A layer of by-value readings over HandS: every construct is read as a plain function on data. -/
namespace Zm
open PySem PySem.Spec PyProof.Rows L2

/-- a value: data held by value, or the place of a thing that may still change -/
inductive Val where
  | d (x : PyData)
  | obj (i : Nat)
  /-- the law's own script -/
  | scr (ns : List Int)
  /-- a def of the text -/
  | fnc (x : Str)
  /-- a pair of a datum and a place, a datum and a def -/
  | prO (k : PyData) (i : Nat)
  | prF (k : PyData) (x : Str)
  /-- a thing of an own class that is fixed -/
  | ri (C : Str) (fs : List (Str × PyData))
/-- what stands at a place -/
inductive MO where
  | frz (x : PyData)
  | lst (vs : List Val)
  | dct (kvs : List (PyData × Val))
  | dcT (kvs : List (List Key × Val))
  | ins (C : Str) (fs : List (Str × Val))
abbrev Mm := List MO
abbrev Sl := List (Option Val)
structure Exc where
  cls : Str
  fs : Option (List (Str × PyData))
inductive Out (α : Type) where
  | ok (x : α) (M : Mm)
  | er (e : Exc) (M : Mm)
  | bad

def keyD : Key → PyData
  | .inl i => .int i
  | .inr x => .str x

/-- a ghost: where the places stand, and which addresses will never be written again -/
structure Gh where
  φ : List Addr
  F : Addr → Prop

mutual
inductive RV (K : PySem.W.Frag) (F : Addr → Prop) (H : Hp) : V → PyData → Prop
  | non : RV K F H .non .none
  | bl (b : Bool) : RV K F H (.bl b) (.bool b)
  | int (i : Int) : RV K F H (.int i) (.int i)
  | str (x : Str) : RV K F H (.str x) (.str x)
  | tup {a : Addr} {xs : List V} {ds : List PyData} : H a = some (.tup xs) → RVs K F H xs ds → RV K F H (.ref a) (.tuple ds)
  | lst {a : Addr} {xs : List V} {ds : List PyData} : F a → H a = some (.lst xs) → RVs K F H xs ds → RV K F H (.ref a) (.list ds)
  | dct {a : Addr} {kvs : List (Key × V)} {ds : List (PyData × PyData)} : F a → H a = some (.dK kvs) → RKs K F H kvs ds → RV K F H (.ref a) (.dict ds)
inductive RVs (K : PySem.W.Frag) (F : Addr → Prop) (H : Hp) : List V → List PyData → Prop
  | nil : RVs K F H [] []
  | cons {v : V} {vs : List V} {d : PyData} {ds : List PyData} : RV K F H v d → RVs K F H vs ds → RVs K F H (v :: vs) (d :: ds)
inductive RKs (K : PySem.W.Frag) (F : Addr → Prop) (H : Hp) : List (Key × V) → List (PyData × PyData) → Prop
  | nil : RKs K F H [] []
  | cons {k : Key} {v : V} {vs : List (Key × V)} {d : PyData} {ds : List (PyData × PyData)} : RV K F H v d → RKs K F H vs ds → RKs K F H ((k, v) :: vs) ((keyD k, d) :: ds)
end

/-- later: more places, nothing that is fixed has changed -/
structure Ext0 (G : Gh) (H : Hp) (G' : Gh) (H' : Hp) : Prop where
  φ : ∃ more, G'.φ = G.φ ++ more
  tup : ∀ a xs, H a = some (.tup xs) → H' a = some (.tup xs)
  frz : ∀ a o u, H a = some (.frz o u) → H' a = some (.frz o u)
  fix : ∀ a, G.F a → G'.F a ∧ H' a = H a
theorem Ext0.refl {G : Gh} {H : Hp} : Ext0 G H G H := ⟨⟨[], by simp⟩, fun _ _ h => h, fun _ _ _ h => h, fun _ h => ⟨h, rfl⟩⟩
theorem Ext0.trans {G G1 G2 : Gh} {H H1 H2 : Hp} (a : Ext0 G H G1 H1) (b : Ext0 G1 H1 G2 H2) : Ext0 G H G2 H2 := by
  obtain ⟨m1, e1⟩ := a.φ
  obtain ⟨m2, e2⟩ := b.φ
  exact ⟨⟨m1 ++ m2, by rw [e2, e1, List.append_assoc]⟩, fun c xs h => b.tup c xs (a.tup c xs h), fun c o u h => b.frz c o u (a.frz c o u h),
    fun c h => ⟨(b.fix c (a.fix c h).1).1, by rw [(b.fix c (a.fix c h).1).2, (a.fix c h).2]⟩⟩
section
variable {K : PySem.W.Frag} {mg : Str → Option Value} {G G' : Gh} {H H' : Hp}
theorem SqT.ext0 (e : Ext0 G H G' H') {a : Addr} {xs : List V} (h : SqT K H a xs) : SqT K H' a xs := by
  rcases h with (h | ⟨o, h⟩) | h
  · exact .inl (.inl (e.tup _ _ h))
  · exact .inl (.inr ⟨o, e.frz _ _ _ h⟩)
  · exact .inr h
mutual
theorem RV.ext0 (e : Ext0 G H G' H') : ∀ (d : PyData) (v : V), RV K G.F H v d → RV K G'.F H' v d
  | .none, _, h => by cases h; exact .non
  | .bool b, _, h => by cases h; exact .bl b
  | .int i, _, h => by cases h; exact .int i
  | .str x, _, h => by cases h; exact .str x
  | .tuple ds, _, h => by cases h with | tup h1 h2 => exact .tup (e.tup _ _ h1) (RVs.ext0 e ds _ h2)
  | .list ds, _, h => by cases h with | lst h0 h1 h2 => exact .lst (e.fix _ h0).1 (by rw [(e.fix _ h0).2]; exact h1) (RVs.ext0 e ds _ h2)
  | .dict ds, _, h => by
    cases h with
    | dct h1 h2 h3 => exact .dct (e.fix _ h1).1 (by rw [(e.fix _ h1).2]; exact h2) (RKs.ext0 e ds _ h3)
theorem RVs.ext0 (e : Ext0 G H G' H') : ∀ (ds : List PyData) (vs : List V), RVs K G.F H vs ds → RVs K G'.F H' vs ds
  | [], _, h => by cases h; exact .nil
  | d :: ds, _, h => by cases h with | cons h1 h2 => exact .cons (RV.ext0 e d _ h1) (RVs.ext0 e ds _ h2)
theorem RKs.ext0 (e : Ext0 G H G' H') : ∀ (ds : List (PyData × PyData)) (vs : List (Key × V)), RKs K G.F H vs ds → RKs K G'.F H' vs ds
  | [], _, h => by cases h; exact .nil
  | (_, d) :: ds, _, h => by cases h with | cons h1 h2 => exact .cons (RV.ext0 e d _ h1) (RKs.ext0 e ds _ h2)
end
theorem RVs.len {F : Addr → Prop} : ∀ {ds : List PyData} {vs : List V}, RVs K F H vs ds → vs.length = ds.length
  | [], _, h => by cases h; rfl
  | d :: ds, _, h => by cases h with | cons h1 h2 => simp [RVs.len h2]
theorem RVs.get {F : Addr → Prop} : ∀ {ds : List PyData} {vs : List V} {i : Nat} {d : PyData}, RVs K F H vs ds → ds[i]? = some d → ∃ v, vs[i]? = some v ∧ RV K F H v d
  | [], _, i, d, h, e => by simp at e
  | d :: ds, _, 0, d', h, e => by cases h with | cons h1 h2 => simp at e; subst e; exact ⟨_, rfl, h1⟩
  | d :: ds, _, i + 1, d', h, e => by
    cases h with
    | cons h1 h2 =>
      obtain ⟨v, e1, e2⟩ := RVs.get h2 (by simpa using e)
      exact ⟨v, by simpa using e1, e2⟩
theorem RVs.append {F : Addr → Prop} : ∀ {ds es : List PyData} {vs ws : List V}, RVs K F H vs ds → RVs K F H ws es → RVs K F H (vs ++ ws) (ds ++ es)
  | [], _, _, _, h, g => by cases h; exact g
  | d :: ds, _, _, _, h, g => by cases h with | cons h1 h2 => exact .cons h1 (RVs.append h2 g)
theorem RVs.take {F : Addr → Prop} : ∀ {ds : List PyData} {vs : List V} (n : Nat), RVs K F H vs ds → RVs K F H (vs.take n) (ds.take n)
  | _, _, 0, h => by simpa using RVs.nil
  | [], _, n + 1, h => by cases h; exact .nil
  | d :: ds, _, n + 1, h => by cases h with | cons h1 h2 => exact .cons h1 (RVs.take n h2)
theorem RVs.drop {F : Addr → Prop} : ∀ {ds : List PyData} {vs : List V} (n : Nat), RVs K F H vs ds → RVs K F H (vs.drop n) (ds.drop n)
  | _, _, 0, h => h
  | [], _, n + 1, h => by cases h; exact .nil
  | d :: ds, _, n + 1, h => by cases h with | cons h1 h2 => exact RVs.drop n h2

/-- the script: it is read, never written -/
def Scr (K : PySem.W.Frag) (H : Hp) (a : Addr) (xs : List V) : Prop :=
  (∃ o, H a = some (.frz o (.lst xs))) ∨
    ∃ (o : Obj) (its : Array Value) (n : Nat), K.lookup a = some o ∧ o.cls = .type "list" ∧ o.dict = none ∧ o.data = .seq its n ∧ its.size ≤ sizeLine ∧ Vals xs its.toList
theorem Scr.ext0 (e : Ext0 G H G' H') {a : Addr} {xs : List V} (h : Scr K H a xs) : Scr K H' a xs := by
  rcases h with ⟨o, h⟩ | h
  · exact .inl ⟨o, e.frz _ _ _ h⟩
  · exact .inr h
theorem Scr.sql {a : Addr} {xs : List V} (h : Scr K H a xs) : SqL K H a xs := by
  rcases h with ⟨o, h⟩ | h
  · exact .inl (.inr ⟨o, h⟩)
  · exact .inr h
/-- values -/
def RW (K : PySem.W.Frag) (mg : Str → Option Value) (G : Gh) (H : Hp) (x : V) : Val → Prop
  | .d y => RV K G.F H x y
  | .obj i => ∃ a, x = .ref a ∧ G.φ[i]? = some a
  | .scr ns => ∃ a, x = .ref a ∧ Scr K H a (ns.map V.int)
  | .fnc n => ∃ a, x = .ref a ∧ mg n = some (.ref a)
  | .prO k i => ∃ a u b, x = .ref a ∧ H a = some (.tup [u, .ref b]) ∧ RV K G.F H u k ∧ G.φ[i]? = some b
  | .prF k n => ∃ a u b, x = .ref a ∧ H a = some (.tup [u, .ref b]) ∧ RV K G.F H u k ∧ mg n = some (.ref b)
  | .ri C fs => ∃ a c dx ys, x = .ref a ∧ G.F a ∧ mg C = some (.ref c) ∧ H a = some (.ins c dx ys) ∧ Paired (fun (y : Str × V) (f : Str × PyData) => y.1 = f.1 ∧ RV K G.F H y.2 f.2) ys fs
theorem RW.ext0 (e : Ext0 G H G' H') {x : V} {v : Val} (h : RW K mg G H x v) : RW K mg G' H' x v := by
  cases v with
  | d y => exact RV.ext0 e y x h
  | obj i =>
    obtain ⟨a, h1, h2⟩ := h
    obtain ⟨m, em⟩ := e.φ
    refine ⟨a, h1, ?_⟩
    rw [em, List.getElem?_append_left]
    · exact h2
    · exact (List.getElem?_eq_some_iff.mp h2).1
  | scr ns => exact let ⟨a, h1, h2⟩ := h; ⟨a, h1, Scr.ext0 e h2⟩
  | fnc n => exact h
  | prO k i =>
    obtain ⟨a, u, b, h1, h2, h3, h4⟩ := h
    obtain ⟨m, em⟩ := e.φ
    exact ⟨a, u, b, h1, e.tup _ _ h2, RV.ext0 e k u h3, by rw [em, List.getElem?_append_left (List.getElem?_eq_some_iff.mp h4).1]; exact h4⟩
  | prF k n => exact let ⟨a, u, b, h1, h2, h3, h4⟩ := h; ⟨a, u, b, h1, e.tup _ _ h2, RV.ext0 e k u h3, h4⟩
  | ri C fs => exact let ⟨a, c, dx, ys, h1, h2, h3, h4, h5⟩ := h; ⟨a, c, dx, ys, h1, (e.fix _ h2).1, h3, by rw [(e.fix _ h2).2]; exact h4, Paired.mapP h5 fun _ _ q => ⟨q.1, RV.ext0 e _ _ q.2⟩⟩
abbrev RWs (K : PySem.W.Frag) (mg : Str → Option Value) (G : Gh) (H : Hp) : List V → List Val → Prop := Paired (RW K mg G H)
theorem RWs.ext0 (e : Ext0 G H G' H') {xs : List V} {vs : List Val} (h : RWs K mg G H xs vs) : RWs K mg G' H' xs vs := Paired.mapP h fun _ _ q => RW.ext0 e q
theorem RVs.rws : ∀ {ds : List PyData} {vs : List V}, RVs K G.F H vs ds → RWs K mg G H vs (ds.map Val.d)
  | [], _, h => by cases h; exact .nil
  | d :: ds, _, h => by cases h with | cons h1 h2 => exact .cons h1 (RVs.rws h2)
/-- keys of a dict -/
def RKey (k : PyData) (x : Key) : Prop := k = keyD x
/-- an object at a place -/
def RO (K : PySem.W.Frag) (mg : Str → Option Value) (G : Gh) (H : Hp) (a : Addr) : MO → Prop
  | .frz x => RV K G.F H (.ref a) x
  | .lst vs => ¬ G.F a ∧ ∃ xs, H a = some (.lst xs) ∧ RWs K mg G H xs vs
  | .dct kvs => ¬ G.F a ∧ ∃ ys, H a = some (.dK ys) ∧ Paired (fun (y : Key × V) (k : PyData × Val) => k.1 = keyD y.1 ∧ RW K mg G H y.2 k.2) ys kvs
  | .dcT kvs => ¬ G.F a ∧ ∃ ys, H a = some (.dT ys) ∧ Paired (fun (y : List Key × V) (k : List Key × Val) => y.1 = k.1 ∧ RW K mg G H y.2 k.2) ys kvs
  | .ins C fs => ¬ G.F a ∧ ∃ c dx ys, mg C = some (.ref c) ∧ H a = some (.ins c dx ys) ∧ Paired (fun (y : Str × V) (f : Str × Val) => y.1 = f.1 ∧ RW K mg G H y.2 f.2) ys fs
/-- the store is held -/
structure SimM (K : PySem.W.Frag) (mg : Str → Option Value) (G : Gh) (M : Mm) (H : Hp) : Prop where
  len : G.φ.length = M.length
  nd : G.φ.Nodup
  obj : ∀ (i : Nat) (a : Addr) (o : MO), G.φ[i]? = some a → (M : List MO)[i]? = some o → RO K mg G H a o
  there : ∀ a ∈ G.φ, H a ≠ none
  fthere : ∀ a, G.F a → H a ≠ none
  sys : ∃ o u, H sysModules = some (.frz o u)
/-- the names are held -/
structure SimS (K : PySem.W.Frag) (mg : Str → Option Value) (G : Gh) (s : Sl) (σ : L2.St) (H : Hp) : Prop where
  len : σ.length = s.length
  at_ : ∀ (i : Nat) (v : Val), s[i]? = some (some v) → ∃ x, σ[i]? = some (some x) ∧ RW K mg G H x v
theorem SimS.ext0 (e : Ext0 G H G' H') {s : Sl} {σ : L2.St} (h : SimS K mg G s σ H) : SimS K mg G' s σ H' :=
  ⟨h.len, fun i v q => let ⟨x, a, b⟩ := h.at_ i v q; ⟨x, a, RW.ext0 e b⟩⟩
theorem SimS.set {s : Sl} {σ : L2.St} {i : Nat} {x : V} {v : Val} (h : SimS K mg G s σ H) (r : RW K mg G H x v) : SimS K mg G (s.set i (some v)) (σ.set i (some x)) H := by
  refine ⟨by simp [h.len], fun j u q => ?_⟩
  by_cases hj : i = j
  · subst hj
    by_cases hl : i < s.length
    · rw [List.getElem?_set_self hl] at q
      cases q
      exact ⟨x, List.getElem?_set_self (by rw [h.len]; exact hl), r⟩
    · have : (s.set i (some v))[i]? = none := List.getElem?_eq_none_iff.mpr (by rw [List.length_set]; omega)
      rw [this] at q; cases q
  · rw [List.getElem?_set_ne hj] at q
    obtain ⟨y, a, b⟩ := h.at_ j u q
    exact ⟨y, by rw [List.getElem?_set_ne hj]; exact a, b⟩
end

/-- later: nothing but the things at places has changed, places and what is fixed are new things or were places -/
structure Ext (G : Gh) (H : Hp) (G' : Gh) (H' : Hp) : Prop extends Ext0 G H G' H' where
  keep : ∀ a, H a ≠ none → a ∉ G.φ → H' a = H a
  φnew : ∀ a, a ∈ G'.φ → a ∈ G.φ ∨ H a = none
  Fnew : ∀ a, G'.F a → G.F a ∨ H a = none ∨ a ∈ G.φ
theorem Ext.refl {G : Gh} {H : Hp} : Ext G H G H := ⟨.refl, fun _ _ _ => rfl, fun _ h => .inl h, fun _ h => .inl h⟩
theorem Ext.trans {G G1 G2 : Gh} {H H1 H2 : Hp} (a : Ext G H G1 H1) (b : Ext G1 H1 G2 H2) : Ext G H G2 H2 := by
  have nn : ∀ c, H1 c = none → H c = none ∨ c ∈ G.φ := fun c h => by
    by_cases hc : c ∈ G.φ
    · exact .inr hc
    · refine .inl ?_
      cases q : H c with
      | none => rfl
      | some o => rw [a.keep c (by rw [q]; simp) hc, q] at h; cases h
  refine ⟨a.toExt0.trans b.toExt0, fun c h1 h2 => ?_, fun c h => ?_, fun c h => ?_⟩
  · have e1 := a.keep c h1 h2
    rw [b.keep c (by rw [e1]; exact h1) (fun h => (a.φnew c h).elim h2 h1), e1]
  · rcases b.φnew c h with h | h
    · exact a.φnew c h
    · exact (nn c h).symm
  · rcases b.Fnew c h with h | h | h
    · exact a.Fnew c h
    · exact .inr (nn c h)
    · exact .inr ((a.φnew c h).symm)
section
variable {K : PySem.W.Frag} {mg : Str → Option Value} {G G' : Gh} {H H' : Hp}
theorem SqT.ext (e : Ext G H G' H') {a : Addr} {xs : List V} (h : SqT K H a xs) : SqT K H' a xs := SqT.ext0 e.toExt0 h
theorem Scr.ext (e : Ext G H G' H') {a : Addr} {xs : List V} (h : Scr K H a xs) : Scr K H' a xs := Scr.ext0 e.toExt0 h
theorem RV.ext (e : Ext G H G' H') (d : PyData) (v : V) (h : RV K G.F H v d) : RV K G'.F H' v d := RV.ext0 e.toExt0 d v h
theorem RVs.ext (e : Ext G H G' H') (d : List PyData) (v : List V) (h : RVs K G.F H v d) : RVs K G'.F H' v d := RVs.ext0 e.toExt0 d v h
theorem RKs.ext (e : Ext G H G' H') (d : List (PyData × PyData)) (v : List (Key × V)) (h : RKs K G.F H v d) : RKs K G'.F H' v d := RKs.ext0 e.toExt0 d v h
theorem RW.ext (e : Ext G H G' H') {x : V} {v : Val} (h : RW K mg G H x v) : RW K mg G' H' x v := RW.ext0 e.toExt0 h
theorem RWs.ext (e : Ext G H G' H') {xs : List V} {vs : List Val} (h : RWs K mg G H xs vs) : RWs K mg G' H' xs vs := RWs.ext0 e.toExt0 h
theorem SimS.ext (e : Ext G H G' H') {s : Sl} {σ : L2.St} (h : SimS K mg G s σ H) : SimS K mg G' s σ H' := SimS.ext0 e.toExt0 h
end
end Zm
namespace Zm
open PySem PySem.Spec PyProof.Rows L2

abbrev EM := Sl → Mm → Out Val
abbrev AM := Sl → Mm → Out (List Val)
abbrev TM := Sl → Mm → Out Bool
/-- what a block comes to -/
inductive SO where
  | nx (s : Sl) (M : Mm)
  | rt (v : Val) (M : Mm)
  | bk (s : Sl) (M : Mm)
  | ct (s : Sl) (M : Mm)
  | er (e : Exc) (s : Sl) (M : Mm)
  | bad
abbrev SM := Sl → Mm → SO

/-- an exception in the air -/
def RX (K : PySem.W.Frag) (mg : Str → Option Value) (G : Gh) (H : Hp) (e : Exc) (c : Value) (d : Option Addr) : Prop :=
  ∃ a, mg e.cls = some (.ref a) ∧ c = .ref a ∧ match e.fs with
    | none => d = none
    | some fs => ∃ da xs, d = some da ∧ H da = some (.xd xs) ∧ Paired (fun (y : Str × V) (f : Str × PyData) => y.1 = f.1 ∧ RV K G.F H y.2 f.2) xs fs
/-- the wish behind an outcome -/
def Post {α β : Type} (K : PySem.W.Frag) (mg : Str → Option Value) (W : WX) (G : Gh) (σ : L2.St) (H : Hp) (R : Gh → Hp → β → α → Prop) (Q : β → Hp → Prop) : Out α → Prop
  | .ok v M' => ∀ G' H' x, Ext G H G' H' → SimM K mg G' M' H' → R G' H' x v → Q x H'
  | .er e M' => ∀ G' H' c d, Ext G H G' H' → SimM K mg G' M' H' → RX K mg G' H' e c d → W c d σ H'
  | .bad => False
section
variable {α β γ δ : Type} {K : PySem.W.Frag} {mg : Str → Option Value} {W : WX} {G G1 : Gh} {σ : L2.St} {H H1 : Hp}
theorem Post.ext {R : Gh → Hp → β → α → Prop} {Q : β → Hp → Prop} {o : Out α} (e : Ext G H G1 H1) (h : Post K mg W G σ H R Q o) : Post K mg W G1 σ H1 R Q o := by
  cases o with
  | ok v M => exact fun G' H' x e' => h G' H' x (e.trans e')
  | er x M => exact fun G' H' c d e' => h G' H' c d (e.trans e')
  | bad => exact h
def Out.bind (o : Out α) (f : α → Mm → Out γ) : Out γ :=
  match o with
  | .ok v M => f v M
  | .er e M => .er e M
  | .bad => .bad
/-- first o, then the rest -/
theorem Post.bind {R : Gh → Hp → β → α → Prop} {R2 : Gh → Hp → δ → γ → Prop} {Q : β → Hp → Prop} {Q2 : δ → Hp → Prop} {o : Out α} {f : α → Mm → Out γ} (h : Post K mg W G σ H R2 Q2 (o.bind f))
    (k : ∀ v M' G' H' x, Ext G H G' H' → SimM K mg G' M' H' → R G' H' x v → Post K mg W G' σ H' R2 Q2 (f v M') → Q x H') : Post K mg W G σ H R Q o := by
  cases o with
  | ok v M => exact fun G' H' x e s r => k v M G' H' x e s r (Post.ext e h)
  | er x M => exact h
  | bad => exact h
end
section
variable (K : PySem.W.Frag) (mg : Str → Option Value) (W : WX)
def TEm (m : EM) : TE := fun σ H Q => ∃ G s M, SimM K mg G M H ∧ SimS K mg G s σ H ∧ Post K mg W G σ H (fun G' H' x v => RW K mg G' H' x v) Q (m s M)
def TAm (m : AM) : TA := fun σ H Q => ∃ G s M, SimM K mg G M H ∧ SimS K mg G s σ H ∧ Post K mg W G σ H (fun G' H' x v => RWs K mg G' H' x v) Q (m s M)
def TTm (m : TM) : TT := fun σ H Q => ∃ G s M, SimM K mg G M H ∧ SimS K mg G s σ H ∧ Post K mg W G σ H (fun _ _ x v => x = v) Q (m s M)
def PostS (G : Gh) (H : Hp) (E : Ends) : SO → Prop
  | .nx s M => ∀ G' H' σ', Ext G H G' H' → SimM K mg G' M H' → SimS K mg G' s σ' H' → E.nx σ' H'
  | .bk s M => ∀ G' H' σ', Ext G H G' H' → SimM K mg G' M H' → SimS K mg G' s σ' H' → E.bk σ' H'
  | .ct s M => ∀ G' H' σ', Ext G H G' H' → SimM K mg G' M H' → SimS K mg G' s σ' H' → E.ct σ' H'
  | .rt v M => ∀ G' H' x, Ext G H G' H' → SimM K mg G' M H' → RW K mg G' H' x v → E.rt x H'
  | .er e s M => ∀ G' H' σ' c d, Ext G H G' H' → SimM K mg G' M H' → SimS K mg G' s σ' H' → RX K mg G' H' e c d → W c d σ' H'
  | .bad => False
def TSm (m : SM) : TS := fun E σ H => ∃ G s M, SimM K mg G M H ∧ SimS K mg G s σ H ∧ PostS K mg W G H E (m s M)
end
theorem PostS.ext {K : PySem.W.Frag} {mg : Str → Option Value} {W : WX} {G G1 : Gh} {H H1 : Hp} {E : Ends} {o : SO} (e : Ext G H G1 H1) (h : PostS K mg W G H E o) : PostS K mg W G1 H1 E o := by
  cases o with
  | nx s M => exact fun G' H' σ' e' => h G' H' σ' (e.trans e')
  | bk s M => exact fun G' H' σ' e' => h G' H' σ' (e.trans e')
  | ct s M => exact fun G' H' σ' e' => h G' H' σ' (e.trans e')
  | rt v M => exact fun G' H' x e' => h G' H' x (e.trans e')
  | er x s M => exact fun G' H' σ' c d e' => h G' H' σ' c d (e.trans e')
  | bad => exact h

structure SE (X : Cx) (W : WX) (e : Expr) (m : EM) : Prop where
  pe : PE X e (TEm X.K X.mg W m)
structure SA (X : Cx) (W : WX) (e : List Expr) (m : AM) : Prop where
  pa : PA X e (TAm X.K X.mg W m)
structure ST (X : Cx) (W : WX) (e : Expr) (m : TM) : Prop where
  pt : PT X e (TTm X.K X.mg W m)
structure SW (X : Cx) (W : WX) (e : Expr) (m : TM) : Prop where
  pw : PW X e (TTm X.K X.mg W m)
structure SS (X : Cx) (W : WX) (e : Stmt) (m : SM) : Prop where
  ps : PS X e (TSm X.K X.mg W m)
structure SSs (X : Cx) (W : WX) (e : List Stmt) (m : SM) : Prop where
  pss : PSs X e (TSm X.K X.mg W m)
section
variable {X : Cx} {W : WX}
theorem peImp {e : Expr} {t t' : TE} (h : PE X e t) (i : ∀ σ H Q, t' σ H Q → t σ H Q) : PE X e t' := ⟨fun pins s σ H Q I q => h.run pins s σ H Q I (i _ _ _ q)⟩
theorem paImp {e : List Expr} {t t' : TA} (h : PA X e t) (i : ∀ σ H Q, t' σ H Q → t σ H Q) : PA X e t' := ⟨fun pos pins s σ H Q I q => h.run pos pins s σ H Q I (i _ _ _ q)⟩
theorem ptImp {e : Expr} {t t' : TT} (h : PT X e t) (i : ∀ σ H Q, t' σ H Q → t σ H Q) : PT X e t' := ⟨fun pins s σ H Q I q => h.run pins s σ H Q I (i _ _ _ q)⟩
theorem pwImp {e : Expr} {t t' : TT} (h : PW X e t) (i : ∀ σ H Q, t' σ H Q → t σ H Q) : PW X e t' := ⟨fun wh pins s σ H Q I q => h.run wh pins s σ H Q I (i _ _ _ q)⟩
theorem psImp {e : Stmt} {t t' : TS} (h : PS X e t) (i : ∀ D σ H, t' D σ H → t D σ H) : PS X e t' := ⟨fun pins s σ H D I q => h.run pins s σ H D I (i _ _ _ q)⟩
theorem pssImp {e : List Stmt} {t t' : TS} (h : PSs X e t) (i : ∀ D σ H, t' D σ H → t D σ H) : PSs X e t' := ⟨fun pins s σ H D I q => h.run pins s σ H D I (i _ _ _ q)⟩

/-! ### names and constants -/
/-- a place whose thing is fixed is its data -/
def rd (v : Val) (M : Mm) : Val := match v with
  | .obj i => match M[i]? with
    | some (.frz x) => .d x
    | _ => .obj i
  | v => v
theorem rd_ok {K : PySem.W.Frag} {mg : Str → Option Value} {G : Gh} {H : Hp} {M : Mm} {x : V} {v : Val} (S : SimM K mg G M H) (r : RW K mg G H x v) : RW K mg G H x (rd v M) := by
  cases v with
  | d y => exact r
  | scr ns => exact r
  | fnc _ => exact r
  | prO _ _ => exact r
  | prF _ _ => exact r
  | ri _ _ => exact r
  | obj i =>
    show RW K mg G H x (match M[i]? with | some (.frz x) => Val.d x | _ => Val.obj i)
    split
    · rename_i y e
      obtain ⟨a, rfl, h⟩ := r
      exact S.obj i a _ h e
    · exact r
def mVar (i : Nat) : EM := fun s M => match s[i]? with
  | some (some v) => .ok (rd v M) M
  | _ => .bad
theorem se_var {i : Nat} {e : Expr} (h : PE X e (tVar i)) : SE X W e (mVar i) := by
  refine ⟨peImp h fun σ H Q ⟨G, s, M, S, N, p⟩ => ?_⟩
  unfold mVar at p
  split at p
  · rename_i v e
    obtain ⟨x, a, b⟩ := N.at_ i v e
    exact ⟨x, a, p G H x .refl S (rd_ok S b)⟩
  · exact p.elim
def mC (x : PyData) : EM := fun _ M => .ok (.d x) M
theorem se_c {e : Expr} {v : V} {x : PyData} (h : PE X e (tC v)) (r : ∀ F H, RV X.K F H v x) : SE X W e (mC x) :=
  ⟨peImp h fun σ H Q ⟨G, s, M, S, N, p⟩ => p G H v .refl S (r G.F H)⟩
theorem se_int {i : Int} {j pos} : SE X W (.Constant (.int i) j pos) (mC (.int i)) := se_c pe_int fun _ _ => .int i
theorem se_bl {b j pos} : SE X W (.Constant (.bool b) j pos) (mC (.bool b)) := se_c pe_bl fun _ _ => .bl b
theorem se_str {x j pos} : SE X W (.Constant (.str x) j pos) (mC (.str x)) := se_c pe_str fun _ _ => .str x

/-! ### operators -/
def mOp (f : Val → Val → Mm → Out Val) (a b : EM) : EM := fun s M => (a s M).bind fun x M1 => (b s M1).bind fun y M2 => f x y M2
/-- a plain function of the values, right for the reading r -/
def OpZ (X : Cx) (r : R2) (f : Val → Val → Mm → Out Val) : Prop := ∀ (W : WX) (G : Gh) (M : Mm) (σ : L2.St) (H : Hp) (Q : VK) (x y : V) (v w : Val), SimM X.K X.mg G M H → RW X.K X.mg G H x v → RW X.K X.mg G H y w →
  Post X.K X.mg W G σ H (fun G' H' x v => RW X.K X.mg G' H' x v) Q (f v w M) → r x y H Q
theorem TEm.op {ta tb : EM} {f : Val → Val → Mm → Out Val} {r : R2} (z : OpZ X r f) {σ : L2.St} {H : Hp} {Q : VK} (h : TEm X.K X.mg W (mOp f ta tb) σ H Q) : tOp r (TEm X.K X.mg W ta) (TEm X.K X.mg W tb) σ H Q := by
  obtain ⟨G, s, M, S, N, p⟩ := h
  refine ⟨G, s, M, S, N, Post.bind p fun v M1 G1 H1 x e1 S1 r1 p1 => ?_⟩
  refine ⟨G1, s, M1, S1, N.ext e1, Post.bind p1 fun w M2 G2 H2 y e2 S2 r2 p2 => ?_⟩
  exact z W G2 M2 σ H2 Q x y v w S2 (RW.ext e2 r1) r2 p2
theorem se_op {op : Operator} {r : R2} {f : Val → Val → Mm → Out Val} {a b : Expr} {ma mb : EM} {pos : Pos} (ho : OpR X (binaryOp op) r) (z : OpZ X r f) (ha : SE X W a ma) (hb : SE X W b mb) : SE X W (.BinOp a op b pos) (mOp f ma mb) :=
  ⟨peImp (pe_op ho ha.pe hb.pe) fun _ _ _ h => TEm.op z h⟩
theorem se_cmp {op : CmpOp} {r : R2} {f : Val → Val → Mm → Out Val} {a b : Expr} {ma mb : EM} {pos : Pos} (ho : OpR X (compareOp op) r) (z : OpZ X r f) (ha : SE X W a ma) (hb : SE X W b mb) (hm : behindInMarks op b = false) :
    SE X W (.Compare a [op] [b] pos) (mOp f ma mb) :=
  ⟨peImp (pe_cmpR ho ha.pe hb.pe hm) fun _ _ _ h => TEm.op z h⟩
/-- a bool as a test -/
def mT (m : EM) : TM := fun s M => (m s M).bind fun v M1 => match v with
  | .d (.bool b) => .ok b M1
  | _ => .bad
theorem TTm.of {m : EM} {σ : L2.St} {H : Hp} {Q : Bool → Hp → Prop} (h : TTm X.K X.mg W (mT m) σ H Q) : tB (TEm X.K X.mg W m) σ H Q := by
  obtain ⟨G, s, M, S, N, p⟩ := h
  refine ⟨G, s, M, S, N, Post.bind p fun v M1 G1 H1 x e1 S1 r1 p1 => ?_⟩
  split at p1
  · rename_i b
    have r1 : RV X.K G1.F H1 x (.bool b) := r1
    cases r1
    exact ⟨b, rfl, p1 G1 H1 b .refl S1 rfl⟩
  · exact p1.elim
theorem st_val {e : Expr} {m : EM} (h : SE X W e m) (he : ∀ whole, isTrue e X.env whole = (do let v ← whole; standAt e.pos; holding [v] (truthy v)) := by intro _; rfl) : ST X W e (mT m) :=
  ⟨ptImp (pt_val h.pe he) fun _ _ _ h => TTm.of h⟩
theorem st_cmp {op : CmpOp} {r : R2} {f : Val → Val → Mm → Out Val} {a b : Expr} {ma mb : EM} {pos : Pos} (ho : OpR X (compareOp op) r) (z : OpZ X r f) (ha : SE X W a ma) (hb : SE X W b mb) (hm : behindInMarks op b = false) :
    ST X W (.Compare a [op] [b] pos) (mT (mOp f ma mb)) := by
  refine ⟨ptImp (pt_cmpR ho ha.pe hb.pe hm) fun σ H Q h => ?_⟩
  have h2 := TTm.of h
  obtain ⟨G, s, M, S, N, p⟩ := h2
  exact TEm.op z ⟨G, s, M, S, N, p⟩
def mTAnd (a b : TM) : TM := fun s M => (a s M).bind fun c M1 => if c = true then b s M1 else .ok false M1
def mTOr (a b : TM) : TM := fun s M => (a s M).bind fun c M1 => if c = true then .ok true M1 else b s M1
def mTNot (a : TM) : TM := fun s M => (a s M).bind fun c M1 => .ok (!c) M1
theorem sw_and1 {a : Expr} {pos : Pos} {m : TM} (h : ST X W a m) : SW X W (.BoolOp .And [a] pos) m := ⟨pw_and1 h.pt⟩
theorem sw_or1 {a : Expr} {pos : Pos} {m : TM} (h : ST X W a m) : SW X W (.BoolOp .Or [a] pos) m := ⟨pw_or1 h.pt⟩
theorem sw_and {a b : Expr} {rest : List Expr} {pos : Pos} {ma mb : TM} (ha : ST X W a ma) (hb : SW X W (.BoolOp .And (b :: rest) pos) mb) : SW X W (.BoolOp .And (a :: b :: rest) pos) (mTAnd ma mb) := by
  refine ⟨pwImp (pw_and ha.pt hb.pw) fun σ H Q ⟨G, s, M, S, N, p⟩ => ?_⟩
  refine ⟨G, s, M, S, N, Post.bind p fun c M1 G1 H1 x e1 S1 r1 p1 => ?_⟩
  subst r1
  cases x with
  | true => exact ⟨G1, s, M1, S1, N.ext e1, p1⟩
  | false => exact p1 G1 H1 _ .refl S1 rfl
theorem sw_or {a b : Expr} {rest : List Expr} {pos : Pos} {ma mb : TM} (ha : ST X W a ma) (hb : SW X W (.BoolOp .Or (b :: rest) pos) mb) : SW X W (.BoolOp .Or (a :: b :: rest) pos) (mTOr ma mb) := by
  refine ⟨pwImp (pw_or ha.pt hb.pw) fun σ H Q ⟨G, s, M, S, N, p⟩ => ?_⟩
  refine ⟨G, s, M, S, N, Post.bind p fun c M1 G1 H1 x e1 S1 r1 p1 => ?_⟩
  subst r1
  cases x with
  | true => exact p1 G1 H1 _ .refl S1 rfl
  | false => exact ⟨G1, s, M1, S1, N.ext e1, p1⟩
theorem SW.st {e : Expr} {m : TM} (h : SW X W e m) : ST X W e m := ⟨h.pw.pt⟩
theorem st_not {a : Expr} {pos : Pos} {m : TM} (h : ST X W a m) : ST X W (.UnaryOp .Not a pos) (mTNot m) := by
  refine ⟨ptImp (pt_not h.pt) fun σ H Q ⟨G, s, M, S, N, p⟩ => ?_⟩
  refine ⟨G, s, M, S, N, Post.bind p fun c M1 G1 H1 x e1 S1 r1 p1 => ?_⟩
  subst r1
  exact p1 G1 H1 _ .refl S1 rfl
/-- and, or, not as values -/
def mAnd (a b : EM) : EM := fun s M => (mT a s M).bind fun c M1 => if c = true then b s M1 else .ok (.d (.bool false)) M1
def mOr (a b : EM) : EM := fun s M => (mT a s M).bind fun c M1 => if c = true then .ok (.d (.bool true)) M1 else b s M1
def mNot (a : EM) : EM := fun s M => (mT a s M).bind fun c M1 => .ok (.d (.bool (!c))) M1
theorem se_one {op} {a : Expr} {pos : Pos} {m : EM} (h : SE X W a m) : SE X W (.BoolOp op [a] pos) m := ⟨pe_one h.pe⟩
theorem TB.first {m : EM} {k : Bool → Mm → Out Val} {G : Gh} {s : Sl} {M : Mm} {σ : L2.St} {H : Hp} {Q : VK} {R : Bool → Hp → Prop} (S : SimM X.K X.mg G M H) (N : SimS X.K X.mg G s σ H)
    (p : Post X.K X.mg W G σ H (fun G' H' x v => RW X.K X.mg G' H' x v) Q ((mT m s M).bind k))
    (hk : ∀ c M1 G1 H1, SimM X.K X.mg G1 M1 H1 → SimS X.K X.mg G1 s σ H1 → Post X.K X.mg W G1 σ H1 (fun G' H' x v => RW X.K X.mg G' H' x v) Q (k c M1) → R c H1) : TEm X.K X.mg W m σ H fun x H1 => ∃ c, x = .bl c ∧ R c H1 := by
  have h : TTm X.K X.mg W (mT m) σ H R := ⟨G, s, M, S, N, Post.bind p fun c M1 G1 H1 x e1 S1 r1 p1 => by subst r1; exact hk x M1 G1 H1 S1 (N.ext e1) p1⟩
  exact TTm.of h
theorem se_and {a b : Expr} {rest : List Expr} {pos : Pos} {ma mb : EM} (ha : SE X W a ma) (hb : SE X W (.BoolOp .And (b :: rest) pos) mb) : SE X W (.BoolOp .And (a :: b :: rest) pos) (mAnd ma mb) := by
  refine ⟨peImp (pe_and ha.pe hb.pe) fun σ H Q ⟨G, s, M, S, N, p⟩ => TB.first S N p fun c M1 G1 H1 S1 N1 p1 => ?_⟩
  cases c with
  | true => exact ⟨G1, s, M1, S1, N1, p1⟩
  | false => exact p1 G1 H1 _ .refl S1 (RV.bl false)
theorem se_or {a b : Expr} {rest : List Expr} {pos : Pos} {ma mb : EM} (ha : SE X W a ma) (hb : SE X W (.BoolOp .Or (b :: rest) pos) mb) : SE X W (.BoolOp .Or (a :: b :: rest) pos) (mOr ma mb) := by
  refine ⟨peImp (pe_or ha.pe hb.pe) fun σ H Q ⟨G, s, M, S, N, p⟩ => TB.first S N p fun c M1 G1 H1 S1 N1 p1 => ?_⟩
  cases c with
  | true => exact p1 G1 H1 _ .refl S1 (RV.bl true)
  | false => exact ⟨G1, s, M1, S1, N1, p1⟩
def mIf (c : TM) (a b : EM) : EM := fun s M => (c s M).bind fun k M1 => if k = true then a s M1 else b s M1
theorem se_if {c a b : Expr} {pos : Pos} {mc : TM} {ma mb : EM} (hc : ST X W c mc) (ha : SE X W a ma) (hb : SE X W b mb) : SE X W (.IfExp c a b pos) (mIf mc ma mb) := by
  refine ⟨peImp (pe_ifExp hc.pt ha.pe hb.pe) fun σ H Q ⟨G, s, M, S, N, p⟩ => ?_⟩
  refine ⟨G, s, M, S, N, Post.bind p fun c M1 G1 H1 x e1 S1 r1 p1 => ?_⟩
  subst r1
  cases x with
  | true => exact ⟨G1, s, M1, S1, N.ext e1, p1⟩
  | false => exact ⟨G1, s, M1, S1, N.ext e1, p1⟩

/-! ### argument lists, displays -/
def mNil : AM := fun _ M => .ok [] M
def mCons (a : EM) (r : AM) : AM := fun s M => (a s M).bind fun x M1 => (r s M1).bind fun xs M2 => .ok (x :: xs) M2
theorem sa_nil : SA X W [] mNil := ⟨paImp pa_nil fun σ H Q ⟨G, s, M, S, N, p⟩ => p G H [] .refl S .nil⟩
theorem sa_cons {e : Expr} {es : List Expr} {m : EM} {ms : AM} (ha : SE X W e m) (hr : SA X W es ms) (hs : starEach (e :: es) X.env = (false, eval e X.env) :: starEach es X.env := by rfl) : SA X W (e :: es) (mCons m ms) := by
  refine ⟨paImp (pa_cons ha.pe hr.pa hs) fun σ H Q ⟨G, s, M, S, N, p⟩ => ?_⟩
  refine ⟨G, s, M, S, N, Post.bind p fun v M1 G1 H1 x e1 S1 r1 p1 => ?_⟩
  refine ⟨G1, s, M1, S1, N.ext e1, Post.bind p1 fun w M2 G2 H2 y e2 S2 r2 p2 => ?_⟩
  exact p2 G2 H2 _ .refl S2 (.cons (RW.ext e2 r1) r2)
end
end Zm
namespace Zm
open PySem PySem.Spec PyProof.Rows L2

/-! ### the store grows, is written, is fixed -/
section
variable {K : PySem.W.Frag} {mg : Str → Option Value} {G G' : Gh} {H H' : Hp} {M : Mm}
theorem RO.keep (e : Ext0 G H G' H') {a : Addr} {o : MO} (ha : H' a = H a) (hF : ¬ G.F a → ¬ G'.F a) (h : RO K mg G H a o) : RO K mg G' H' a o := by
  cases o with
  | frz x => exact RV.ext0 e x _ h
  | lst vs =>
    obtain ⟨h1, xs, h2, h3⟩ := h
    exact ⟨hF h1, xs, by rw [ha]; exact h2, RWs.ext0 e h3⟩
  | dct kvs =>
    obtain ⟨h1, ys, h2, h3⟩ := h
    exact ⟨hF h1, ys, by rw [ha]; exact h2, Paired.mapP h3 fun _ _ q => ⟨q.1, RW.ext0 e q.2⟩⟩
  | dcT kvs =>
    obtain ⟨h1, ys, h2, h3⟩ := h
    exact ⟨hF h1, ys, by rw [ha]; exact h2, Paired.mapP h3 fun _ _ q => ⟨q.1, RW.ext0 e q.2⟩⟩
  | ins C fs =>
    obtain ⟨h1, c, dx, ys, h0, h2, h3⟩ := h
    exact ⟨hF h1, c, dx, ys, h0, by rw [ha]; exact h2, Paired.mapP h3 fun _ _ q => ⟨q.1, RW.ext0 e q.2⟩⟩
theorem SimM.grow (S : SimM K mg G M H) (e : Ext0 G H G' H') (hφ : G'.φ = G.φ) (ha : ∀ a ∈ G.φ, H' a = H a) (hF : ∀ a ∈ G.φ, ¬ G.F a → ¬ G'.F a) (hT : ∀ a, G'.F a → H' a ≠ none) : SimM K mg G' M H' where
  len := by rw [hφ]; exact S.len
  nd := by rw [hφ]; exact S.nd
  obj := fun i a o h1 h2 => by
    rw [hφ] at h1
    have m : a ∈ G.φ := List.mem_of_getElem? h1
    exact RO.keep e (ha a m) (hF a m) (S.obj i a o h1 h2)
  there := fun a h => by
    rw [hφ] at h
    rw [ha a h]
    exact S.there a h
  fthere := hT
  sys := let ⟨o, u, h⟩ := S.sys; ⟨o, u, e.frz _ _ _ h⟩
theorem SimM.newne (S : SimM K mg G M H) {p : Addr} (hp : H p = none) : p ∉ G.φ := fun h => S.there p h hp
theorem ne_fresh {p a : Addr} (hp : H p = none) (h : H a ≠ none) : a ≠ p := fun e => h (e ▸ hp)
theorem ext_upd {p : Addr} {o : HO} (hp : H p = none) (hG : ∀ a, G.F a → H a ≠ none) : Ext G H G (upd H p o) := by
  refine ⟨⟨⟨[], by simp⟩, fun a xs h => by rw [upd_ne (ne_of_none h hp)]; exact h, fun a o u h => by rw [upd_ne (ne_of_none h hp)]; exact h,
    fun a h => ⟨h, upd_ne (ne_fresh hp (hG a h))⟩⟩, fun a h _ => upd_ne (ne_fresh hp h), fun a h => .inl h, fun a h => .inl h⟩
/-- something new that no place holds: a tuple, an iterator -/
theorem SimM.lay (S : SimM K mg G M H) {p : Addr} {o : HO} (hp : H p = none) : SimM K mg G M (upd H p o) ∧ Ext G H G (upd H p o) := by
  have e := ext_upd (o := o) hp S.fthere
  refine ⟨S.grow e.toExt0 rfl (fun a h => upd_ne (ne_fresh hp (S.there a h))) (fun _ _ h => h) fun a h => ?_, e⟩
  rw [(e.fix a h).2]
  exact S.fthere a h
/-- .. that is fixed from now on -/
def Gh.fix (G : Gh) (p : Addr) : Gh := ⟨G.φ, fun a => a = p ∨ G.F a⟩
theorem SimM.layF (S : SimM K mg G M H) {p : Addr} {o : HO} (hp : H p = none) : SimM K mg (G.fix p) M (upd H p o) ∧ Ext G H (G.fix p) (upd H p o) := by
  have e0 := ext_upd (o := o) hp S.fthere
  have e : Ext G H (G.fix p) (upd H p o) := ⟨⟨e0.φ, e0.tup, e0.frz, fun a h => ⟨.inr h, (e0.fix a h).2⟩⟩, e0.keep, e0.φnew, fun a h => h.elim (fun z => .inr (.inl (z ▸ hp))) .inl⟩
  refine ⟨S.grow e.toExt0 rfl (fun a h => upd_ne (ne_fresh hp (S.there a h))) (fun a m h z => ?_) fun a h => ?_, e⟩
  · rcases z with z | z
    · exact S.there a m (z ▸ hp)
    · exact h z
  · rcases h with h | h
    · subst h; rw [upd_same]; simp
    · rw [(e0.fix a h).2]; exact S.fthere a h
/-- .. at a place of its own -/
def Gh.push (G : Gh) (p : Addr) : Gh := ⟨G.φ ++ [p], G.F⟩
theorem ext_push0 {p : Addr} (e : Ext0 G H G H') : Ext0 G H (G.push p) H' := ⟨⟨[p], rfl⟩, e.tup, e.frz, e.fix⟩
theorem ext_push {p : Addr} (hp : H p = none) (e : Ext G H G H') : Ext G H (G.push p) H' := ⟨ext_push0 e.toExt0, e.keep, fun a h => (List.mem_append.mp h).imp id fun h => by
  have : a = p := by simpa using h
  rw [this]; exact hp, e.Fnew⟩
theorem SimM.push (S : SimM K mg G M H) {p : Addr} (hp : p ∉ G.φ) {o : MO} (ht : H p ≠ none) (r : RO K mg (G.push p) H p o) : SimM K mg (G.push p) (M ++ [o]) H where
  len := by simp [Gh.push, S.len]
  nd := by
    show (G.φ ++ [p]).Nodup
    rw [List.nodup_append]
    refine ⟨S.nd, by simp, fun a h b h2 => ?_⟩
    have : b = p := by simpa using h2
    subst this
    exact fun z => hp (z ▸ h)
  obj := fun i a q h1 h2 => by
    have h1 : (G.φ ++ [p])[i]? = some a := h1
    by_cases hi : i < G.φ.length
    · rw [List.getElem?_append_left hi] at h1
      rw [List.getElem?_append_left (by rw [← S.len]; exact hi)] at h2
      exact RO.keep (ext_push0 .refl) rfl (fun h => h) (S.obj i a q h1 h2)
    · have hi' : i = G.φ.length := by
        have := (List.getElem?_eq_some_iff.mp h1).1
        rw [List.length_append] at this
        simp at this
        omega
      subst hi'
      have e1 : p = a := by simpa using h1
      rw [S.len] at h2
      have e2 : o = q := by simpa using h2
      rw [← e1, ← e2]
      exact r
  there := fun a h => by
    rcases List.mem_append.mp h with h | h
    · exact S.there a h
    · have : a = p := by simpa using h
      rw [this]
      exact ht
  fthere := S.fthere
  sys := S.sys
theorem SimM.pushL (S : SimM K mg G M H) {p : Addr} (hp : H p = none) {xs : List V} {vs : List Val} (r : RWs K mg G H xs vs) :
    SimM K mg (G.push p) (M ++ [.lst vs]) (upd H p (.lst xs)) ∧ Ext G H (G.push p) (upd H p (.lst xs)) ∧ RW K mg (G.push p) (upd H p (.lst xs)) (.ref p) (.obj M.length) := by
  obtain ⟨S1, e1⟩ := S.lay (o := .lst xs) hp
  have e2 : Ext G H (G.push p) (upd H p (.lst xs)) := ext_push hp e1
  refine ⟨S1.push (S.newne hp) (by rw [upd_same]; simp) ⟨fun z => S.fthere p z hp, xs, upd_same, RWs.ext e2 r⟩, e2, p, rfl, ?_⟩
  show (G.φ ++ [p])[M.length]? = some p
  rw [← S.len]
  simp
/-- the thing at a place is changed -/
theorem SimM.write (S : SimM K mg G M H) {i : Nat} {a : Addr} {u : HO} {o : MO} (hi : G.φ[i]? = some a) (hF : ¬ G.F a) (hm : ∀ xs, H a ≠ some (.tup xs)) (hz : ∀ q v, H a ≠ some (.frz q v))
    (r : Ext G H G (upd H a u) → RO K mg G (upd H a u) a o) : SimM K mg G (M.set i o) (upd H a u) ∧ Ext G H G (upd H a u) := by
  have e : Ext G H G (upd H a u) := ⟨⟨⟨[], by simp⟩, fun b xs h => by
      rw [upd_ne (show b ≠ a from fun z => hm xs (by rw [← z]; exact h))]; exact h, fun b q v h => by
      rw [upd_ne (show b ≠ a from fun z => hz q v (by rw [← z]; exact h))]; exact h,
    fun b h => ⟨h, upd_ne fun z => hF (z ▸ h)⟩⟩, fun b _ h => upd_ne fun z => h (z ▸ List.mem_of_getElem? hi), fun b h => .inl h, fun b h => .inl h⟩
  refine ⟨⟨by rw [List.length_set]; exact S.len, S.nd, fun j b q h1 h2 => ?_, fun b h => ?_, fun b h => ?_, let ⟨o, u, h⟩ := S.sys; ⟨o, u, e.frz _ _ _ h⟩⟩, e⟩
  · by_cases hj : i = j
    · subst hj
      rw [hi] at h1
      cases h1
      have hl : i < M.length := by rw [← S.len]; exact (List.getElem?_eq_some_iff.mp hi).1
      rw [List.getElem?_set_self hl] at h2
      cases h2
      exact r e
    · rw [List.getElem?_set_ne hj] at h2
      have hb : b ≠ a := fun z => by
        subst z
        exact hj ((List.getElem?_inj (List.getElem?_eq_some_iff.mp hi).1 S.nd).mp (hi.trans h1.symm))
      exact RO.keep e.toExt0 (upd_ne hb) (fun h => h) (S.obj j b q h1 h2)
  · by_cases z : b = a
    · rw [z, upd_same]; simp
    · rw [upd_ne z]; exact S.there b h
  · rw [(e.fix b h).2]; exact S.fthere b h
theorem ext_fix {a : Addr} (h : a ∈ G.φ) : Ext G H (G.fix a) H := ⟨⟨⟨[], by simp [Gh.fix]⟩, fun _ _ h => h, fun _ _ _ h => h, fun b h => ⟨.inr h, rfl⟩⟩, fun _ _ _ => rfl, fun b h => .inl h, fun b z => z.elim (fun z => .inr (.inr (z ▸ h))) .inl⟩
/-- the thing at a place is fixed -/
theorem SimM.freeze (S : SimM K mg G M H) {i : Nat} {a : Addr} {x : PyData} (hi : G.φ[i]? = some a) (hF : ¬ G.F a) (r : RV K (G.fix a).F H (.ref a) x) : SimM K mg (G.fix a) (M.set i (.frz x)) H ∧ Ext G H (G.fix a) H := by
  have e : Ext G H (G.fix a) H := ext_fix (List.mem_of_getElem? hi)
  refine ⟨⟨by rw [List.length_set]; exact S.len, S.nd, fun j b q h1 h2 => ?_, fun b h => S.there b h, fun b h => ?_, S.sys⟩, e⟩
  · by_cases hj : i = j
    · subst hj
      have h1 : G.φ[i]? = some b := h1
      rw [hi] at h1
      cases h1
      have hl : i < M.length := by rw [← S.len]; exact (List.getElem?_eq_some_iff.mp hi).1
      rw [List.getElem?_set_self hl] at h2
      cases h2
      exact r
    · rw [List.getElem?_set_ne hj] at h2
      have h1 : G.φ[j]? = some b := h1
      have hb : b ≠ a := fun z => by
        subst z
        exact hj ((List.getElem?_inj (List.getElem?_eq_some_iff.mp hi).1 S.nd).mp (hi.trans h1.symm))
      exact RO.keep e.toExt0 rfl (fun h z => z.elim hb h) (S.obj j b q h1 h2)
  · rcases h with h | h
    · subst h; exact S.there _ (List.mem_of_getElem? hi)
    · exact S.fthere b h
end

/-- all by value -/
def allD : List Val → Option (List PyData)
  | [] => some []
  | .d x :: r => (allD r).map (x :: ·)
  | _ :: _ => none
theorem allD_ok {K : PySem.W.Frag} {G : Gh} {H : Hp} : ∀ {vs : List Val} {ds : List PyData} {xs : List V}, allD vs = some ds → RWs K mg G H xs vs → RVs K G.F H xs ds
  | [], ds, xs, e, r => by cases r; cases e; exact .nil
  | .d x :: vs, ds, xs, e, r => by
    cases r with
    | cons r1 r2 =>
      unfold allD at e
      cases q : allD vs with
      | none => rw [q] at e; cases e
      | some es =>
        rw [q] at e
        cases e
        exact .cons r1 (allD_ok q r2)
  | .obj _ :: _, _, _, e, _ => by cases e
  | .scr _ :: _, _, _, e, _ => by cases e
  | .fnc _ :: _, _, _, e, _ => by cases e
  | .prO _ _ :: _, _, _, e, _ => by cases e
  | .prF _ _ :: _, _, _, e, _ => by cases e
  | .ri _ _ :: _, _, _, e, _ => by cases e
theorem allD_map : ∀ (ds : List PyData), allD (ds.map Val.d) = some ds
  | [] => rfl
  | d :: ds => by simp [allD, allD_map ds]
theorem Paired.len {α β : Type} {F : α → β → Prop} : ∀ {l : List α} {m : List β}, Paired F l m → l.length = m.length
  | _, _, .nil => rfl
  | _, _, .cons _ t => by simp [Paired.len t]
def fitsL (n : Nat) : Bool := decide (n ≤ 16777216)
theorem fitsL_ok {n : Nat} (h : fitsL n = true) : n ≤ sizeLine := of_decide_eq_true h
section
variable {X : Cx} {W : WX}
def mTup (a : AM) : EM := fun s M => (a s M).bind fun vs M1 => match allD vs with
  | some ds => if fitsL ds.length then .ok (.d (.tuple ds)) M1 else .bad
  | none => .bad
theorem se_tup {es : List Expr} {pos : Pos} {x1} {m : AM} (h : SA X W es m) : SE X W (.Tuple es x1 pos) (mTup m) := by
  refine ⟨peImp (pe_tup h.pa) fun σ H Q ⟨G, s, M, S, N, p⟩ => ⟨G, s, M, S, N, Post.bind p fun vs M1 G1 H1 xs e1 S1 r1 p1 => ?_⟩⟩
  split at p1
  · rename_i ds ed
    split at p1
    · rename_i hf
      have rv := allD_ok ed r1
      refine ⟨by rw [rv.len]; exact fitsL_ok hf, fun q hq => ?_⟩
      obtain ⟨S2, e2⟩ := S1.lay (o := .tup xs) hq
      exact p1 G1 _ _ e2 S2 (RV.tup upd_same (RVs.ext e2 _ _ rv))
    · exact p1.elim
  · exact p1.elim
/-- a list by value -/
def mLst (a : AM) : EM := fun s M => (a s M).bind fun vs M1 => match allD vs with
  | some ds => if fitsL ds.length then .ok (.d (.list ds)) M1 else .bad
  | none => .bad
theorem se_lst {es : List Expr} {pos : Pos} {m : AM} (h : SA X W es m) : SE X W (.List es pos) (mLst m) := by
  refine ⟨peImp (pe_lst h.pa) fun σ H Q ⟨G, s, M, S, N, p⟩ => ⟨G, s, M, S, N, Post.bind p fun vs M1 G1 H1 xs e1 S1 r1 p1 => ?_⟩⟩
  split at p1
  · rename_i ds ed
    split at p1
    · rename_i hf
      have rv := allD_ok ed r1
      refine ⟨by rw [rv.len]; exact fitsL_ok hf, fun q hq => ?_⟩
      obtain ⟨S2, e2⟩ := S1.layF (o := .lst xs) hq
      exact p1 _ _ _ e2 S2 (RV.lst (.inl rfl) upd_same (RVs.ext e2 _ _ rv))
    · exact p1.elim
  · exact p1.elim
/-- a list at a place of its own -/
def mNew (a : AM) : EM := fun s M => (a s M).bind fun vs M1 => if fitsL vs.length then .ok (.obj M1.length) (M1 ++ [.lst vs]) else .bad
theorem se_new {es : List Expr} {pos : Pos} {m : AM} (h : SA X W es m) : SE X W (.List es pos) (mNew m) := by
  refine ⟨peImp (pe_lst h.pa) fun σ H Q ⟨G, s, M, S, N, p⟩ => ⟨G, s, M, S, N, Post.bind p fun vs M1 G1 H1 xs e1 S1 r1 p1 => ?_⟩⟩
  split at p1
  · rename_i hf
    refine ⟨by rw [Paired.len r1]; exact fitsL_ok hf, fun q hq => ?_⟩
    obtain ⟨S2, e2, r2⟩ := S1.pushL hq r1
    exact p1 _ _ _ e2 S2 r2
  · exact p1.elim
/-- from now on by value (nothing happens in Python) -/
def fzL (vs : List Val) (M : Mm) : Option (List PyData) := allD (vs.map (rd · M))
def mFrz (m : EM) : EM := fun s M => (m s M).bind fun v M1 => match v with
  | .obj i => match M1[i]? with
    | some (.frz x) => .ok (.d x) M1
    | some (.lst vs) => match fzL vs M1 with
      | some ds => .ok (.d (.list ds)) (M1.set i (.frz (.list ds)))
      | none => .bad
    | _ => .bad
  | v => .ok v M1
theorem rws_rd {K : PySem.W.Frag} {mg : Str → Option Value} {G : Gh} {H : Hp} {M : Mm} (S : SimM K mg G M H) : ∀ {xs : List V} {vs : List Val}, RWs K mg G H xs vs → RWs K mg G H xs (vs.map (rd · M))
  | _, _, .nil => .nil
  | _, _, .cons h t => .cons (rd_ok S h) (rws_rd S t)
/-! ### blocks -/
def SO.seq (o : SO) (f : SM) : SO := match o with
  | .nx s M => f s M
  | o => o
def Out.bindS {α : Type} (o : Out α) (s : Sl) (f : α → Mm → SO) : SO := match o with
  | .ok v M => f v M
  | .er e M => .er e s M
  | .bad => .bad
theorem PostS.bind {α β : Type} {K : PySem.W.Frag} {mg : Str → Option Value} {G : Gh} {σ : L2.St} {H : Hp} {R : Gh → Hp → β → α → Prop} {Q : β → Hp → Prop} {E : Ends} {o : Out α} {s : Sl} {f : α → Mm → SO} (N : SimS K mg G s σ H)
    (h : PostS K mg W G H E (o.bindS s f)) (k : ∀ v M' G' H' x, Ext G H G' H' → SimM K mg G' M' H' → R G' H' x v → PostS K mg W G' H' E (f v M') → Q x H') : Post K mg W G σ H R Q o := by
  cases o with
  | ok v M => exact fun G' H' x e S r => k v M G' H' x e S r (PostS.ext e h)
  | er x M => exact fun G' H' c d e S r => h G' H' σ c d e S (N.ext e) r
  | bad => exact h
def sNil : SM := fun s M => .nx s M
def sSeq (a b : SM) : SM := fun s M => (a s M).seq b
theorem sss_nil : SSs X W [] sNil := ⟨pssImp pss_nil fun D σ H ⟨G, s, M, S, N, p⟩ => p G H σ .refl S N⟩
theorem sss_cons {st : Stmt} {rest : List Stmt} {a b : SM} (h : SS X W st a) (h2 : SSs X W rest b) : SSs X W (st :: rest) (sSeq a b) := by
  refine ⟨pssImp (pss_cons h.ps h2.pss) fun D σ H ⟨G, s, M, S, N, p⟩ => ⟨G, s, M, S, N, ?_⟩⟩
  have p : PostS X.K X.mg W G H D ((a s M).seq b) := p
  cases e : a s M with
  | nx s1 M1 =>
    rw [e] at p
    exact fun G' H' σ' e' S' N' => ⟨G', s1, M1, S', N', PostS.ext e' p⟩
  | rt v M1 => rw [e] at p; exact p
  | bk s1 M1 => rw [e] at p; exact p
  | ct s1 M1 => rw [e] at p; exact p
  | er x s1 M1 => rw [e] at p; exact p
  | bad => rw [e] at p; exact p
theorem sss_one {st : Stmt} {a : SM} (h : SS X W st a) : SSs X W [st] a := ⟨pss_one h.ps⟩
def sBrk : SM := fun s M => .bk s M
def sCnt : SM := fun s M => .ct s M
theorem ss_break {pos : Pos} : SS X W (.Break pos) sBrk := ⟨psImp ps_break fun D σ H ⟨G, s, M, S, N, p⟩ => p G H σ .refl S N⟩
def sDrop (m : EM) : SM := fun s M => (m s M).bindS s fun _ M1 => .nx s M1
theorem ss_expr {e : Expr} {pos : Pos} {m : EM} (h : SE X W e m) (hs : swapsWith e none pos.line X.env = pure false := by rfl) : SS X W (.Expr e pos) (sDrop m) :=
  ⟨psImp (ps_expr h.pe hs) fun D σ H ⟨G, s, M, S, N, p⟩ => ⟨G, s, M, S, N, PostS.bind N p fun v M1 G1 H1 x e1 S1 r1 p1 => p1 G1 H1 σ .refl S1 (N.ext e1)⟩⟩
def sRet (m : EM) : SM := fun s M => (m s M).bindS s fun v M1 => .rt v M1
theorem ss_ret {e : Expr} {pos : Pos} {m : EM} (h : SE X W e m) : SS X W (.Return (some e) pos) (sRet m) :=
  ⟨psImp (ps_ret h.pe) fun D σ H ⟨G, s, M, S, N, p⟩ => ⟨G, s, M, S, N, PostS.bind N p fun v M1 G1 H1 x e1 S1 r1 p1 => p1 G1 H1 x .refl S1 r1⟩⟩
def sRetN : SM := fun s M => .rt (.d .none) M
def sIf (c : TM) (a b : SM) : SM := fun s M => (c s M).bindS s fun k M1 => if k = true then a s M1 else b s M1
theorem ss_if {c : Expr} {a b : List Stmt} {pos : Pos} {mc : TM} {ma mb : SM} (hc : ST X W c mc) (ha : SSs X W a ma) (hb : SSs X W b mb) : SS X W (.If c a b pos) (sIf mc ma mb) := by
  refine ⟨psImp (ps_if hc.pt ha.pss hb.pss) fun D σ H ⟨G, s, M, S, N, p⟩ => ⟨G, s, M, S, N, PostS.bind N p fun v M1 G1 H1 x e1 S1 r1 p1 => ?_⟩⟩
  subst r1
  cases x with
  | true => exact ⟨G1, s, M1, S1, N.ext e1, p1⟩
  | false => exact ⟨G1, s, M1, S1, N.ext e1, p1⟩

/-! ### targets -/
abbrev GM := Val → Sl → Mm → Option (Sl × Mm)
abbrev GMs := List Val → Sl → Mm → Option (Sl × Mm)
def PostG (K : PySem.W.Frag) (mg : Str → Option Value) (G : Gh) (H : Hp) (Q : L2.St → Hp → Prop) : Option (Sl × Mm) → Prop
  | some (s', M') => ∀ G' H' σ', Ext G H G' H' → SimM K mg G' M' H' → SimS K mg G' s' σ' H' → Q σ' H'
  | none => False
theorem PostG.ext {K : PySem.W.Frag} {mg : Str → Option Value} {G G1 : Gh} {H H1 : Hp} {Q : L2.St → Hp → Prop} {o : Option (Sl × Mm)} (e : Ext G H G1 H1) (h : PostG K mg G H Q o) : PostG K mg G1 H1 Q o := by
  cases o with
  | none => exact h
  | some p => exact fun G' H' σ' e' => h G' H' σ' (e.trans e')
def TGm (K : PySem.W.Frag) (mg : Str → Option Value) (g : GM) : TG := fun x σ H Q => ∃ G s M v, SimM K mg G M H ∧ SimS K mg G s σ H ∧ RW K mg G H x v ∧ PostG K mg G H Q (g v s M)
def TGms (K : PySem.W.Frag) (mg : Str → Option Value) (g : GMs) : TGs := fun xs σ H Q => ∃ G s M vs, SimM K mg G M H ∧ SimS K mg G s σ H ∧ RWs K mg G H xs vs ∧ PostG K mg G H Q (g vs s M)
structure SG (X : Cx) (e : Expr) (m : GM) : Prop where
  pg : PG X e (TGm X.K X.mg m)
structure SGs (X : Cx) (e : List Expr) (m : GMs) : Prop where
  pgs : PGs X e (TGms X.K X.mg m)
theorem pgImp {e : Expr} {t t' : TG} (h : PG X e t) (i : ∀ v σ H Q, t' v σ H Q → t v σ H Q) : PG X e t' := ⟨fun pins s σ H v u Q I r q => h.run pins s σ H v u Q I r (i _ _ _ _ q)⟩
theorem pgsImp {e : List Expr} {t t' : TGs} (h : PGs X e t) (i : ∀ v σ H Q, t' v σ H Q → t v σ H Q) : PGs X e t' := ⟨fun pins s σ H v u Q I r q => h.run pins s σ H v u Q I r (i _ _ _ _ q)⟩
def gN (i : Nat) : GM := fun v s M => some (s.set i (some v), M)
theorem sg_name {i : Nat} {e : Expr} (h : PG X e (gName i)) : SG X e (gN i) :=
  ⟨pgImp h fun x σ H Q ⟨G, s, M, v, S, N, r, p⟩ => p G H _ .refl S (N.set r)⟩
def gsNil : GMs := fun vs s M => match vs with
  | [] => some (s, M)
  | _ => none
def gsCons (g : GM) (r : GMs) : GMs := fun vs s M => match vs with
  | v :: vs => (g v s M).bind fun p => r vs p.1 p.2
  | _ => none
theorem sgs_nil : SGs X [] gsNil := by
  refine ⟨pgsImp pgs_nil fun xs σ H Q ⟨G, s, M, vs, S, N, r, p⟩ => ?_⟩
  cases r with
  | nil => exact ⟨rfl, p G H σ .refl S N⟩
  | cons r1 r2 => exact p.elim
theorem sgs_cons {e : Expr} {es : List Expr} {g : GM} {gs : GMs} (h : SG X e g) (h2 : SGs X es gs) (hs : (assignEach (e :: es) X.env).map (·.2) = assign e X.env :: (assignEach es X.env).map (·.2) := by rfl) : SGs X (e :: es) (gsCons g gs) := by
  refine ⟨pgsImp (pgs_cons h.pg h2.pgs hs) fun xs σ H Q ⟨G, s, M, vs, S, N, r, p⟩ => ?_⟩
  cases r with
  | nil => exact p.elim
  | @cons x v xs vs r1 r2 =>
    refine ⟨x, xs, rfl, G, s, M, v, S, N, r1, ?_⟩
    have p : PostG X.K X.mg G H Q ((g v s M).bind fun p => gs vs p.1 p.2) := p
    cases e : g v s M with
    | none => rw [e] at p; exact p.elim
    | some q =>
      rw [e] at p
      exact fun G' H' σ' e' S' N' => ⟨G', q.1, q.2, vs, S', N', RWs.ext e' r2, PostG.ext e' p⟩
/-- a, b = a tuple -/
def gT (n : Nat) (g : GMs) : GM := fun v s M => match v with
  | .d (.tuple ds) => if ds.length = n then g (ds.map .d) s M else none
  | _ => none
theorem sg_tup {es : List Expr} {k : Nat} {pos : Pos} {g : GMs} {n : Nat} (hc : X.calm = true) (h : SGs X es g) (hn : (assignEach es X.env).length = n := by rfl) (hst : (assignEach es X.env).findIdx? (·.1) = none := by rfl) : SG X (.Tuple es k pos) (gT n g) := by
  refine ⟨pgImp (pg_tup hc h.pgs hn hst) fun x σ H Q ⟨G, s, M, v, S, N, r, p⟩ => ?_⟩
  unfold gT at p
  split at p
  · rename_i ds
    split at p
    · rename_i hl
      have r : RV X.K G.F H x (.tuple ds) := r
      cases r with
      | tup h1 h2 => exact ⟨_, _, rfl, SqT.of h1, by rw [h2.len]; exact hl, G, s, M, _, S, N, RVs.rws h2, p⟩
    · exact p.elim
  · exact p.elim

/-! ### assignments -/
def Out.asg (o : Out Val) (s : Sl) (g : GM) : SO := o.bindS s fun v M1 => match g v s M1 with
  | some (s', M') => .nx s' M'
  | none => .bad
def sAsg (m : EM) (g : GM) : SM := fun s M => (m s M).asg s g
theorem PostG.of {G : Gh} {H : Hp} {D : Ends} {o : Option (Sl × Mm)} (p : PostS X.K X.mg W G H D (match o with
  | some (s', M') => .nx s' M'
  | none => .bad)) : PostG X.K X.mg G H D.nx o := by
  cases o with
  | none => exact p
  | some q => exact p
theorem TSm.asg {m : EM} {g : GM} {D : Ends} {σ : L2.St} {H : Hp} (h : TSm X.K X.mg W (sAsg m g) D σ H) : tAsg (TEm X.K X.mg W m) (TGm X.K X.mg g) D σ H := by
  obtain ⟨G, s, M, S, N, p⟩ := h
  exact ⟨G, s, M, S, N, PostS.bind N p fun v M1 G1 H1 x e1 S1 r1 p1 => ⟨G1, s, M1, v, S1, N.ext e1, r1, PostG.of p1⟩⟩
theorem ss_asg {tg e : Expr} {m : EM} {g : GM} {pos : Pos} (he : SE X W e m) (hg : SG X tg g) (hs : swapsWithSole [tg] e pos.line X.env = pure false := by rfl) (hw : swappedStores [tg] e X.env = pure none := by rfl)
    (h1 : (assignEach [tg] X.env).map (·.2) = [assign tg X.env] := by rfl) : SS X W (.Assign [tg] e pos) (sAsg m g) :=
  ⟨psImp (ps_asg he.pe hg.pg hs hw h1) fun _ _ _ h => TSm.asg h⟩
/-- name = e, by the layer's own rule for the statement -/
theorem ss_setR {i : Nat} {st : Stmt} {m : EM} (h : PS X st (tAsg (TEm X.K X.mg W m) (gName i))) : SS X W st (sAsg m (gN i)) := by
  refine ⟨psImp h fun D σ H ⟨G, s, M, S, N, p⟩ => ⟨G, s, M, S, N, PostS.bind N p fun v M1 G1 H1 x e1 S1 r1 p1 => ?_⟩⟩
  exact p1 G1 H1 _ .refl S1 ((N.ext e1).set r1)
theorem ss_set {i : Nat} {x : Str} {e : Expr} {m : EM} {pos pos' : Pos} (hN : X.N.Nodup) (hi : X.N[i]? = some x) (hx : Loc X.env.scope x) (he : SE X W e m) (hs : swapsWith e (some (.Name x pos')) pos.line X.env = pure false := by rfl)
    (hf : X.fn x = true ∨ X.env.scope.names.lookup x = some .local := by first | exact .inl rfl | exact .inr rfl | assumption) : SS X W (.Assign [.Name x pos'] e pos) (sAsg m (gN i)) := ss_setR (ps_set hN hi hx he.pe hs hf)
/-- a, b = x, y -/
def sPar (is : List Nat) (a : AM) : SM := fun s M => (a s M).bindS s fun vs M1 => if vs.length = is.length then .nx ((is.zip vs).foldl (fun s p => s.set p.1 (some p.2)) s) M1 else .bad
theorem ss_par {i j : Nat} {st : Stmt} {ma : AM} (h : PS X st (tPar i j (TAm X.K X.mg W ma))) : SS X W st (sPar [i, j] ma) := by
  refine ⟨psImp h fun D σ H ⟨G, s, M, S, N, p⟩ => ⟨G, s, M, S, N, PostS.bind N p fun v M1 G1 H1 x e1 S1 r1 p1 => ?_⟩⟩
  split at p1
  · rename_i hl
    cases r1 with
    | nil => cases hl
    | cons r1 r2 =>
      cases r2 with
      | nil => cases hl
      | cons r2 r3 =>
        cases r3 with
        | cons _ _ => simp at hl
        | nil => exact ⟨_, _, rfl, p1 G1 H1 _ .refl S1 (((N.ext e1).set r1).set r2)⟩
  · exact p1.elim
theorem ss_par3 {i j l : Nat} {st : Stmt} {ma : AM} (h : PS X st (fun D σ H => TAm X.K X.mg W ma σ H fun vs H1 => ∃ u v w, vs = [u, v, w] ∧ D.nx (((σ.set i (some u)).set j (some v)).set l (some w)) H1)) : SS X W st (sPar [i, j, l] ma) := by
  refine ⟨psImp h fun D σ H ⟨G, s, M, S, N, p⟩ => ⟨G, s, M, S, N, PostS.bind N p fun v M1 G1 H1 x e1 S1 r1 p1 => ?_⟩⟩
  split at p1
  · rename_i hl
    cases r1 with
    | nil => cases hl
    | cons r1 r2 =>
      cases r2 with
      | nil => cases hl
      | cons r2 r3 =>
        cases r3 with
        | nil => cases hl
        | cons r3 r4 =>
          cases r4 with
          | cons _ _ => simp at hl
          | nil => exact ⟨_, _, _, rfl, p1 G1 H1 _ .refl S1 ((((N.ext e1).set r1).set r2).set r3)⟩
  · exact p1.elim
end
end Zm
namespace Zm
open PySem PySem.Spec PyProof.Rows L2

/-! ### what is walked -/
/-- J goes over vs, whatever has come behind -/
def Goes (K : PySem.W.Frag) (mg : Str → Option Value) (G : Gh) (H : Hp) (J : It) (vs : List Val) : Prop :=
  ∀ G' H', Ext G H G' H' → (∀ i, i < vs.length → J.go i H') ∧ J.stop vs.length H' ∧
    ∀ i v, vs[i]? = some v → ∀ M', SimM K mg G' M' H' → ∀ x H'', J.yld i H' x H'' → ∃ G'', Ext G' H' G'' H'' ∧ SimM K mg G'' M' H'' ∧ RW K mg G'' H'' x v
def TIm (K : PySem.W.Frag) (mg : Str → Option Value) (W : WX) (m : AM) : TI := fun σ H R => ∃ G s M, SimM K mg G M H ∧ SimS K mg G s σ H ∧ Post K mg W G σ H (fun G' H' J vs => Goes K mg G' H' J vs) R (m s M)
structure SI (X : Cx) (W : WX) (tg e : Expr) (m : AM) : Prop where
  pi : PI X tg e (TIm X.K X.mg W m)
theorem piImp {X : Cx} {tg e : Expr} {t t' : TI} (h : PI X tg e t) (i : ∀ σ H Q, t' σ H Q → t σ H Q) : PI X tg e t' := ⟨fun pins s σ H Q I q => h.run pins s σ H Q I (i _ _ _ q)⟩
theorem piOr {X : Cx} {tg e : Expr} {t t' : TI} (h : PI X tg e t) (h' : PI X tg e t') : PI X tg e (fun σ H R => t σ H R ∨ t' σ H R) := ⟨fun pins s σ H Q I q => q.elim (h.run pins s σ H Q I) (h'.run pins s σ H Q I)⟩
section
variable {X : Cx} {W : WX}
/-- the items of a list or a tuple held by value -/
def itK (v : Val) (M1 : Mm) : Out (List Val) := match v with
  | .d (.list ds) => .ok (ds.map .d) M1
  | .d (.tuple ds) => .ok (ds.map .d) M1
  | .scr ns => .ok (ns.map fun n => .d (.int n)) M1
  | _ => .bad
def mIt (m : EM) : AM := fun s M => (m s M).bind itK
end

/-! ### loops -/
def forL (g : GM) (b : SM) : List Val → SM
  | [], s, M => .nx s M
  | v :: vs, s, M => match g v s M with
    | some (s1, M1) => match b s1 M1 with
      | .nx s2 M2 => forL g b vs s2 M2
      | .ct s2 M2 => forL g b vs s2 M2
      | .bk s2 M2 => .nx s2 M2
      | o => o
    | none => .bad
def sFor (it : AM) (g : GM) (b : SM) : SM := fun s M => (it s M).bindS s fun vs M1 => forL g b vs s M1
section
variable {X : Cx} {W : WX}
theorem ss_for {tg iter : Expr} {body : List Stmt} {pos : Pos} {m : AM} {g : GM} {b : SM} (hp : PassesOwn (model X.prog X.w) X.A X.env X.xe) (hc : X.calm = true) (hi : SI X W tg iter m) (hg : SG X tg g) (hb : SSs X W body b)
    (hs : ∀ x, foldedSetIterable iter X.env x = pure x := by intro _; rfl) : SS X W (.For tg iter body [] pos) (sFor m g b) := by
  refine ⟨psImp (ps_for hp hc hi.pi hg.pg hb.pss hs) fun D σ H ⟨G, s, M, S, N, p⟩ => ⟨G, s, M, S, N, PostS.bind N p fun vs M1 G1 H1 J e1 S1 g1 p1 => ?_⟩⟩
  refine ⟨fun i m σ' H' => i + m = vs.length ∧ ∃ G' s' M', Ext G1 H1 G' H' ∧ SimM X.K X.mg G' M' H' ∧ SimS X.K X.mg G' s' σ' H' ∧ PostS X.K X.mg W G' H' D (forL g b (vs.drop i) s' M'),
    ⟨vs.length, by omega, G1, s, M1, .refl, S1, N.ext e1, p1⟩, ?_⟩
  rintro i m σ' H' ⟨hm, G', s', M', e', S', N', p'⟩
  obtain ⟨q1, q2, q3⟩ := g1 G' H' e'
  by_cases hl : i < vs.length
  · refine .inr ⟨q1 i hl, fun σ'' H'' => ∃ G'' s'' M'', Ext G1 H1 G'' H'' ∧ SimM X.K X.mg G'' M'' H'' ∧ SimS X.K X.mg G'' s'' σ'' H'' ∧ PostS X.K X.mg W G'' H'' D (forL g b (vs.drop (i + 1)) s'' M''), fun σ'' H'' h => ⟨m - 1, by omega, by omega, h⟩, fun x H'' y => ?_⟩
    have ev : vs[i]? = some vs[i] := List.getElem?_eq_getElem hl
    obtain ⟨G2, e2, S2, r2⟩ := q3 i _ ev M' S' x H'' y
    rw [List.drop_eq_getElem_cons hl] at p'
    unfold forL at p'
    refine ⟨G2, s', M', vs[i], S2, N'.ext e2, r2, ?_⟩
    cases eg : g vs[i] s' M' with
    | none => rw [eg] at p'; exact p'.elim
    | some q =>
      obtain ⟨s1, M1'⟩ := q
      rw [eg] at p'
      dsimp only at p'
      refine fun G3 H3 σ3 e3 S3 N3 => ⟨G3, s1, M1', S3, N3, ?_⟩
      have eAll : Ext G' H' G3 H3 := e2.trans e3
      cases eb : b s1 M1' with
      | nx s2 M2 =>
        rw [eb] at p'
        exact fun G4 H4 σ4 e4 S4 N4 => ⟨G4, s2, M2, (e'.trans eAll).trans e4, S4, N4, PostS.ext (eAll.trans e4) p'⟩
      | ct s2 M2 =>
        rw [eb] at p'
        exact fun G4 H4 σ4 e4 S4 N4 => ⟨G4, s2, M2, (e'.trans eAll).trans e4, S4, N4, PostS.ext (eAll.trans e4) p'⟩
      | bk s2 M2 => rw [eb] at p'; exact fun G4 H4 σ4 e4 => p' G4 H4 σ4 (eAll.trans e4)
      | rt v M2 => rw [eb] at p'; exact fun G4 H4 x e4 => p' G4 H4 x (eAll.trans e4)
      | er x s2 M2 => rw [eb] at p'; exact fun G4 H4 σ4 c d e4 => p' G4 H4 σ4 c d (eAll.trans e4)
      | bad => rw [eb] at p'; exact p'.elim
  · have hi' : i = vs.length := by omega
    rw [hi', List.drop_length] at p'
    exact .inl ⟨hi' ▸ q2, p' G' H' σ' .refl S' N'⟩
/-- at most n turns -/
def whN (c : TM) (b : SM) : Nat → SM
  | 0, _, _ => .bad
  | n + 1, s, M => (c s M).bindS s fun k M1 => if k = true then
      match b s M1 with
      | .nx s2 M2 => whN c b n s2 M2
      | .ct s2 M2 => whN c b n s2 M2
      | .bk s2 M2 => .nx s2 M2
      | o => o
    else .nx s M1
open Classical in
noncomputable def sWhile (c : TM) (b : SM) : SM := fun s M => if h : ∃ n, whN c b n s M ≠ .bad then whN c b (Classical.choose h) s M else .bad
theorem ss_while {c : Expr} {body : List Stmt} {pos : Pos} {mc : TM} {b : SM} (hp : PassesOwn (model X.prog X.w) X.A X.env X.xe) (hc : ST X W c mc) (hb : SSs X W body b) : SS X W (.While c body [] pos) (sWhile mc b) := by
  refine ⟨psImp (ps_while hp hc.pt hb.pss) fun D σ H ⟨G, s, M, S, N, p⟩ => ?_⟩
  obtain ⟨n0, p⟩ : ∃ n, PostS X.K X.mg W G H D (whN mc b n s M) := by
    unfold sWhile at p
    split at p
    · exact ⟨_, p⟩
    · exact p.elim
  refine ⟨fun n σ' H' => ∃ G' s' M', SimM X.K X.mg G' M' H' ∧ SimS X.K X.mg G' s' σ' H' ∧ PostS X.K X.mg W G' H' D (whN mc b n s' M'), ⟨n0, G, s, M, S, N, p⟩, ?_⟩
  rintro n σ' H' ⟨G', s', M', S', N', p'⟩
  cases n with
  | zero => exact p'.elim
  | succ n =>
    unfold whN at p'
    refine ⟨G', s', M', S', N', PostS.bind N' p' fun k M1 G1 H1 x e1 S1 r1 p1 => ?_⟩
    subst r1
    cases x with
    | false => exact p1 G1 H1 _ .refl S1 (N'.ext e1)
    | true =>
      rw [if_pos rfl] at p1 ⊢
      refine ⟨fun σ'' H'' => ∃ G'' s'' M'', SimM X.K X.mg G'' M'' H'' ∧ SimS X.K X.mg G'' s'' σ'' H'' ∧ PostS X.K X.mg W G'' H'' D (whN mc b n s'' M''), fun σ'' H'' h => ⟨n, by omega, h⟩, G1, s', M1, S1, N'.ext e1, ?_⟩
      cases eb : b s' M1 with
      | nx s2 M2 => rw [eb] at p1; exact fun G4 H4 σ4 e4 S4 N4 => ⟨G4, s2, M2, S4, N4, PostS.ext e4 p1⟩
      | ct s2 M2 => rw [eb] at p1; exact fun G4 H4 σ4 e4 S4 N4 => ⟨G4, s2, M2, S4, N4, PostS.ext e4 p1⟩
      | bk s2 M2 => rw [eb] at p1; exact p1
      | rt v M2 => rw [eb] at p1; exact p1
      | er x s2 M2 => rw [eb] at p1; exact p1
      | bad => rw [eb] at p1; exact p1.elim
end

/-! ### defs -/
abbrev Den := List Val → Mm → Out Val
def SpZ (K : PySem.W.Frag) (mg : Str → Option Value) (den : Den) : Sp := fun vs H Q E => ∃ G ws M, SimM K mg G M H ∧ RWs K mg G H vs ws ∧ Post K mg (fun c d _ H' => E c d H') G [] H (fun G' H' x v => RW K mg G' H' x v) Q (den ws M)
structure FnZ (P : Program) (w : World) (K : PySem.W.Frag) (mg : Str → Option Value) (base : Heap) (k : Nat) (f : Addr) (fd : FuncData) (ps : List Str) (den : Den) : Prop where
  run : ∀ (A : Around) (outer : List Env) (s : Shared) (H : Hp) (args : Args) (us : List Value) (vs : List V) (Q : VK) (E : XK), Room k A → A.guards = some [] → Env0 P w K mg base A outer s H → BindsTo s fd args (ps.zip us) → Vals vs us →
    vs.length = ps.length → SpZ K mg den vs H Q E → codeAny (model P w) A (.call (.ref f) args) (CR (L2.CX P w) outer P w H s Q E) s
theorem FnZ.mono {P : Program} {w : World} {K : PySem.W.Frag} {mg : Str → Option Value} {base : Heap} {j k : Nat} {f : Addr} {fd : FuncData} {ps : List Str} {den : Den} (F : FnZ P w K mg base j f fd ps den) (h : j ≤ k) : FnZ P w K mg base k f fd ps den :=
  ⟨fun A outer s H args us vs Q E hr => F.run A outer s H args us vs Q E (hr.mono h)⟩
/-- the names at the start -/
def slots0 (n : Nat) (vs : List Val) : Sl := vs.map some ++ List.replicate (n - vs.length) none
/-- a body, as a function of the arguments -/
def SO.out : SO → Out Val
  | .nx _ M => .ok (.d .none) M
  | .rt v M => .ok v M
  | .er e _ M => .er e M
  | _ => .bad
def body (n : Nat) (b : SM) : Den := fun vs M => (b (slots0 n vs) M).out
theorem simS0 {K : PySem.W.Frag} {G : Gh} {H : Hp} {N : List Str} {xs : List V} {vs : List Val} (r : RWs K mg G H xs vs) (h : xs.length ≤ N.length) : SimS K mg G (slots0 N.length vs) (L2.start N xs) H := by
  have hl := Paired.len r
  refine ⟨by simp [slots0, L2.start]; omega, fun i v e => ?_⟩
  unfold slots0 at e
  by_cases hi : i < vs.length
  · rw [List.getElem?_append_left (by simpa using hi)] at e
    have e2 : vs[i]? = some v := by
      rw [List.getElem?_map] at e
      cases q : vs[i]? with
      | none => rw [q] at e; cases e
      | some u => rw [q] at e; simpa using e
    obtain ⟨x, e3, e4⟩ : ∃ x, xs[i]? = some x ∧ RW K mg G H x v := by
      clear hi e h hl
      induction r generalizing i with
      | nil => simp at e2
      | cons h t ih =>
        cases i with
        | zero => simp at e2; subst e2; exact ⟨_, rfl, h⟩
        | succ i => simpa using ih i (by simpa using e2)
    refine ⟨x, ?_, e4⟩
    unfold L2.start
    rw [List.getElem?_append_left (by rw [List.length_map]; exact (List.getElem?_eq_some_iff.mp e3).1), List.getElem?_map, e3]
    rfl
  · rw [List.getElem?_append_right (by simpa using hi)] at e
    rw [List.getElem?_replicate] at e
    split at e <;> cases e
section
variable {P : Program} {w : World} {K : PySem.W.Frag} {mg : Str → Option Value} {base : Heap}
abbrev CxZ (P : Program) (w : World) (K : PySem.W.Frag) (mg : Str → Option Value) (base : Heap) (N : List Str) (qual : Str) (sc : Scope) (f : Addr) (cdv : Value) (A : Around) (outer : List Env) (s : Shared) (H : Hp) (E : XK) : Cx :=
  cxOf (L2.CX P w) P w K mg base N qual sc f cdv A outer s H E
theorem Fun.fnz {x qual : Str} {st : Stmt} {f : Addr} {fd : FuncData} {N ps : List Str} {k : Nat} {b : SM} (F : Fun K x qual st f fd) (S : FnScope N ps (defScope st)) (hps : ps.length ≤ N.length)
    (hbody : ∀ (cdv : Value) (A : Around) (outer : List Env) (s : Shared) (H : Hp) (E : XK), Room k (A.deeper (envOfC qual (defScope st) s.heap.objs.size f cdv)) → (CxZ P w K mg base N qual (defScope st) f cdv A outer s H E).A.guards = some [] →
      SSs (CxZ P w K mg base N qual (defScope st) f cdv A outer s H E) (fun c d _ H' => E c d H') (defBody st) b) : FnZ P w K mg base (k + 1) f fd ps (body N.length b) := by
  obtain ⟨oc, od, kV, doc, pm, an, cdv, ct, osl, rfl, lk, hcd⟩ := F.ex
  refine ⟨fun A outer s H args us vs Q E hr hG e0 hb r hlen hsp => ?_⟩
  let sp : Sp := fun vs' H' Q' E' => SpZ K mg (body N.length b) vs' H' Q' E' ∧ vs'.length = ps.length
  have key : ∀ (A' : Around), A'.guards = some [] → Room (k + 1) A' → Env0 P w K mg base A' outer s H → codeAny (model P w) A' (.call (.ref f) args) (CR (L2.CX P w) outer P w H s Q E) s := by
    intro A' hG' hr' e0'
    have KX : K.In s.heap := e0'.mod.kin.keeps fun b o e => (e0'.bs b o e).1
    have lim : s.heap.NoLimit := e0'.mod.nolimit.keeps fun b o e => (e0'.bs b o e).1
    have hkd : ∀ y ∈ ps.zip us, (defScope st).names.lookup y.1 = some .local ∨ ((defScope st).names.lookup y.1 = some .cell ∧ ((cellsFrom (s.heap.objs.size + 1) (defScope st).names []).lookup y.1).isSome = true) := by
      rintro ⟨n, v⟩ hy
      rcases S.par n (List.of_mem_zip hy).1 with q | q
      · exact Or.inl q
      · exact Or.inr ⟨q, PySem.W.cellsFrom_some _ _ _ (.inl q)⟩
    refine codeAny_call_function hr'.depth (KX _ _ lk) rfl S.co S.gen rfl (PySem.W.codeRec_of KX hcd) (hb _ _ _ _ ?_)
    refine wpAny_newFunctionEnv_cells S.kind hkd fun env he s1 xx => ?_
    subst he
    refine ⟨lim.keeps xx.toInCall.keep, codeAny_func ?_⟩
    have I : Inv (CxZ P w K mg base N qual (defScope st) f cdv A' outer s H E) [] (L2.start N vs) H s1 := inv_start S hr'.hd e0' hlen r xx
    have SB := hbody cdv A' outer s H E (hr'.deeper _) (by first | exact hG' | (simpa [cxOf, Around.deeper, Around.under, pushGuards, Code.guards] using hG'))
    obtain ⟨G, ws, M, Sm, rw_, hpost⟩ := hsp
    have rn := (SB.pss.run [] s1 (L2.start N vs) H { nx := fun _ H' => Q .non H', rt := Q } I ⟨G, _, M, Sm, simS0 rw_ (by omega), by
      unfold body at hpost
      cases q : b (slots0 N.length ws) M with
      | nx s2 M2 => rw [q] at hpost; exact fun G' H' σ' e' S' N' => hpost G' H' _ e' S' RV.non
      | rt v M2 => rw [q] at hpost; exact hpost
      | bk s2 M2 => rw [q] at hpost; exact hpost.elim
      | ct s2 M2 => rw [q] at hpost; exact hpost.elim
      | er x s2 M2 => rw [q] at hpost; exact fun G' H' σ' c d e' S' N' => hpost G' H' c d e' S'
      | bad => rw [q] at hpost; exact hpost.elim⟩)
    refine wpAny_mono rn (fun fl s' hs => ?_) fun e s' hs => hs
    have fin : ∀ {σ' : L2.St} {H' : Hp} {v : V} {u : Value}, Inv (CxZ P w K mg base N qual (defScope st) f cdv A' outer s H E) [] σ' H' s' → RelV v u → Q v H' → CE outer P w H s Q u s' := by
      intro σ' H' v u J rv q
      exact ⟨v, H', J.os, J.bare, J.base, J.hok, rv, q⟩
    cases fl with
    | next =>
      obtain ⟨σ', H', J, q⟩ := hs
      exact fin (v := V.non) (u := Value.none) J rfl q
    | ret u =>
      obtain ⟨v, σ', H', J, rv, q⟩ := hs
      exact fin J rv q
    | brk => exact False.elim (let ⟨_, _, _, q⟩ := hs; q)
    | cont => exact False.elim (let ⟨_, _, _, q⟩ := hs; q)
  exact key A hG hr e0
end
/-! ### calls -/
section
variable {X : Cx} {W : WX} {k : Nat} {f : Addr} {fd : FuncData} {ps : List Str} {den : Den} {x : Str} {p pos : Pos} {e : Expr} {es : List Expr} {ms mk : AM}
theorem run_z {pins : List (Addr × Obj)} {σ : L2.St} {H : Hp} {s : Shared} {Q : VK} {args : Args} {us : List Value} {vs : List V} (F : FnZ X.prog X.w X.K X.mg X.base k f fd ps den) (hr : Room k X.A) (hG : X.A.guards = some []) (tk : Takes X W)
    (hb : BindsTo s fd args (ps.zip us)) (hl : vs.length = ps.length) (I : Inv X pins σ H s) (r : Vals vs us) (h : SpZ X.K X.mg den vs H Q (fun c d H' => W c d σ H')) : codeAny (model X.prog X.w) X.A (.call (.ref f) args) (fun r s' => match r with
      | .ok (.ret u) => EP X pins σ Q u s'
      | .ok _ => False
      | .error e => X.xe e s') s := by
  refine codeAny_mono (F.run X.A X.stack s H args us vs Q _ hr hG I.env0 hb r hl h) fun r s' hq => ?_
  cases r with
  | error e => exact passAt tk σ pins H s e s' I hq
  | ok fl =>
    cases fl with
    | ret u => exact I.after hq
    | next => exact hq
    | brk => exact hq
    | cont => exact hq
def mCall (n : Nat) (den : Den) (ms : AM) : EM := fun s M => (ms s M).bind fun vs M1 => if vs.length = n then den vs M1 else .bad
theorem SpZ.of {G : Gh} {H : Hp} {M : Mm} {σ : L2.St} {vs : List V} {ws : List Val} {Q : VK} (S : SimM X.K X.mg G M H) (r : RWs X.K X.mg G H vs ws) (p : Post X.K X.mg W G σ H (fun G' H' x v => RW X.K X.mg G' H' x v) Q (den ws M)) :
    SpZ X.K X.mg den vs H Q (fun c d H' => W c d σ H') := by
  refine ⟨G, ws, M, S, r, ?_⟩
  cases q : den ws M with
  | ok v M' => rw [q] at p; exact p
  | er e M' => rw [q] at p; exact p
  | bad => rw [q] at p; exact p
theorem callZ {pins : List (Addr × Obj)} {σ : L2.St} {H : Hp} {s : Shared} {Q : VK} {us : List Value} {vs : List V} {kw : List (Str × Value)} {ws : List Value} (F : FnZ X.prog X.w X.K X.mg X.base k f fd ps den) (hr : Room k X.A) (hG : X.A.guards = some []) (tk : Takes X W)
    (b : BindsTo s fd ⟨us, kw⟩ (ps.zip ws)) (hl : vs.length = ps.length) (I : Inv X pins σ H s) (r : Vals vs ws) (q : SpZ X.K X.mg den vs H Q (fun c d H' => W c d σ H')) : wpAny (model X.prog X.w) X.A (call (.ref f) us kw) (EP X pins σ Q) X.xe s :=
  wpAny_call (codeAny_mono (run_z F hr hG tk b hl I r q) fun r s' hq => by
    cases r with
    | error e => exact hq
    | ok fl =>
      cases fl with
      | ret u => exact hq
      | next => exact hq.elim
      | brk => exact hq.elim
      | cont => exact hq.elim)
theorem se_call {n : Nat} (F : FnZ X.prog X.w X.K X.mg X.base k f fd ps den) (hr : Room k X.A) (hG : X.A.guards = some []) (tk : Takes X W) (hg : Gl X x) (hm : X.mg x = some (.ref f)) (hk : PySem.W.keepIn X.K (.ref f) = true) (hb : Binds X.K fd ps [])
    (ha : SA X W (e :: es) ms) (hn : ps.length = n := by rfl) (hdb : (x == ("__debug__" : Str)) = false := by decide) (he : starEach (e :: es) X.env = (false, eval e X.env) :: starEach es X.env := by rfl)
    (hpl : (backTo pos (starEach es X.env)).any (·.1) = false := by rfl) : SE X W (.Call (.Name x p) (e :: es) [] pos) (mCall n den ms) := by
  refine ⟨⟨fun pins s σ H Q I ⟨G, sl, M, S, N, h⟩ => ?_⟩⟩
  refine wpAny_Call_Name_kw (ld_glob I hg hm ?_ hdb)
  have h' : TAm X.K X.mg W ms σ H (fun vs H1 => vs.length = ps.length ∧ SpZ X.K X.mg den vs H1 Q (fun c d H' => W c d σ H')) := by
    refine ⟨G, sl, M, S, N, Post.bind h fun vs M1 G1 H1 xs e1 S1 r1 p1 => ?_⟩
    split at p1
    · rename_i hv
      exact ⟨by rw [Paired.len r1, hn]; exact hv, SpZ.of S1 r1 p1⟩
    · exact p1.elim
  refine PySem.W.callWith_K (h₀ := X.base) I.ok.mod.kin hk (thn (ha.pa.run pos pins s σ H _ I h') fun us s1 ⟨vs, H1, I1, r, hl, q⟩ => ⟨I1.kIn, ?_⟩) he hpl
  have hu : us.length = ps.length := by rw [← r.length]; exact hl
  have b := hb s1 us I1.kIn (by rw [List.append_nil]; exact hu)
  rw [List.append_nil] at b
  exact callZ F hr hG tk b hl I1 r q
/-- keywords: ix tells which of the written values comes first, second, .. -/
def pickBy {α : Type} (ix : List Nat) (l : List α) : List α := ix.filterMap fun i => l[i]?
theorem pickBy_rel {α β : Type} {F : α → β → Prop} {l : List α} {m : List β} (r : Paired F l m) (ix : List Nat) : Paired F (pickBy ix l) (pickBy ix m) := by
  have at_ : ∀ i : Nat, (l[i]? = none ∧ m[i]? = none) ∨ ∃ a b, l[i]? = some a ∧ m[i]? = some b ∧ F a b := by
    induction r with
    | nil => intro i; exact .inl ⟨by simp, by simp⟩
    | cons h t ih =>
      intro i
      cases i with
      | zero => exact .inr ⟨_, _, rfl, rfl, h⟩
      | succ i => simpa using ih i
  induction ix with
  | nil => exact .nil
  | cons i ix ih =>
    unfold pickBy at ih ⊢
    rcases at_ i with ⟨h1, h2⟩ | ⟨a, b, h1, h2, h3⟩
    · rw [List.filterMap_cons_none h1, List.filterMap_cons_none h2]; exact ih
    · rw [List.filterMap_cons_some h1, List.filterMap_cons_some h2]; exact .cons h3 ih
structure SK (X : Cx) (W : WX) (kws : List Keyword) (m : AM) : Prop where
  pk : PK X kws (TAm X.K X.mg W m)
theorem pkImp {e : List Keyword} {t t' : TA} (h : PK X e t) (i : ∀ σ H Q, t' σ H Q → t σ H Q) : PK X e t' := ⟨fun pos pins s σ H Q I q => h.run pos pins s σ H Q I (i _ _ _ q)⟩
theorem sk_nil : SK X W [] mNil := ⟨pkImp pk_nil fun σ H Q ⟨G, s, M, S, N, p⟩ => p G H [] .refl S .nil⟩
theorem sk_cons {nm : Option Str} {e : Expr} {kpos : Pos} {kws : List Keyword} {m : EM} {ms : AM} (ha : SE X W e m) (hr : SK X W kws ms) : SK X W (⟨nm, e, kpos⟩ :: kws) (mCons m ms) := by
  refine ⟨pkImp (pk_cons ha.pe hr.pk) fun σ H Q ⟨G, s, M, S, N, p⟩ => ?_⟩
  refine ⟨G, s, M, S, N, Post.bind p fun v M1 G1 H1 x e1 S1 r1 p1 => ?_⟩
  refine ⟨G1, s, M1, S1, N.ext e1, Post.bind p1 fun w M2 G2 H2 y e2 S2 r2 p2 => ?_⟩
  exact p2 G2 H2 _ .refl S2 (.cons (RW.ext e2 r1) r2)
def mCallK (np nk : Nat) (den : Den) (ix : List Nat) (ms mk : AM) : EM := fun s M => (ms s M).bind fun vs M1 => (mk s M1).bind fun us M2 => if vs.length = np ∧ us.length = nk then den (pickBy ix (vs ++ us)) M2 else .bad
theorem Paired.app {α β : Type} {F : α → β → Prop} : ∀ {l l' : List α} {m m' : List β}, Paired F l m → Paired F l' m' → Paired F (l ++ l') (m ++ m')
  | _, _, _, _, .nil, h => h
  | _, _, _, _, .cons a t, h => .cons a (Paired.app t h)
/-- how keywords bind -/
def KBz (fd : FuncData) (ps ks : List Str) (np nk : Nat) (ix : List Nat) : Prop :=
  ∀ (us ws : List Value), us.length = np → ws.length = nk → bindArgs fd ⟨us, ks.zip ws⟩ = pure (ps.zip (pickBy ix (us ++ ws))) ∧ (pickBy ix (us ++ ws)).length = ps.length
theorem kbz {K : PySem.W.Frag} {x qual : Str} {st : Stmt} {f : Addr} {fd : FuncData} {ps ks : List Str} {np nk : Nat} {ix : List Nat} (F : Fun K x qual st f fd)
    (h : ∀ (kV doc pm : Value) (an : Option Addr) (cdv ct : Value) (us ws : List Value), us.length = np → ws.length = nk → bindArgs (PySem.W.fnOf x qual (defArgs st) (defBody st) (defScope st) .none kV doc pm an cdv ct) ⟨us, ks.zip ws⟩ = pure (ps.zip (pickBy ix (us ++ ws))) ∧ (pickBy ix (us ++ ws)).length = ps.length) : KBz fd ps ks np nk ix := by
  obtain ⟨oc, od, kV, doc, pm, an, cdv, ct, osl, rfl, lk, hcd⟩ := F.ex
  exact h kV doc pm an cdv ct
theorem callK_core {np nk : Nat} {ks : List Str} {ix : List Nat} {pins : List (Addr × Obj)} {σ : L2.St} {H1 : Hp} {s1 : Shared} {Q : VK} {us ws : List Value} {vs zs : List V} {G : Gh} {M : Mm} {as bs : List Val} (F : FnZ X.prog X.w X.K X.mg X.base k f fd ps den) (hr : Room k X.A) (hG : X.A.guards = some []) (tk : Takes X W)
    (hb : KBz fd ps ks np nk ix) (I1 : Inv X pins σ H1 s1) (rv : Vals vs us) (rz : Vals zs ws) (S : SimM X.K X.mg G M H1) (ra : RWs X.K X.mg G H1 vs as) (rb : RWs X.K X.mg G H1 zs bs)
    (p : Post X.K X.mg W G σ H1 (fun G' H' x v => RW X.K X.mg G' H' x v) Q (if as.length = np ∧ bs.length = nk then den (pickBy ix (as ++ bs)) M else .bad)) : wpAny (model X.prog X.w) X.A (call (.ref f) us (ks.zip ws)) (EP X pins σ Q) X.xe s1 := by
  split at p
  · rename_i hl
    obtain ⟨h1, h2⟩ := hb us ws (by rw [← rv.length, Paired.len ra]; exact hl.1) (by rw [← rz.length, Paired.len rb]; exact hl.2)
    have rp : Vals (pickBy ix (vs ++ zs)) (pickBy ix (us ++ ws)) := pickBy_rel (Paired.app rv rz) ix
    exact callZ F hr hG tk (.of_eq h1) (by rw [rp.length]; exact h2) I1 rp (SpZ.of S (pickBy_rel (Paired.app ra rb) ix) p)
  · exact p.elim
theorem se_callK0 {nk : Nat} {ks : List Str} {ix : List Nat} {kws : List Keyword} (F : FnZ X.prog X.w X.K X.mg X.base k f fd ps den) (hr : Room k X.A) (hG : X.A.guards = some []) (tk : Takes X W) (hg : Gl X x) (hm : X.mg x = some (.ref f)) (hk : PySem.W.keepIn X.K (.ref f) = true) (hb : KBz fd ps ks 0 nk ix)
    (hkw : SK X W kws mk)
    (hall : (backToKw pos (keywordEach kws X.env)).all (·.1.isSome) = true := by rfl) (hks : (backToKw pos (keywordEach kws X.env)).filterMap (·.1) = ks := by rfl)
    (hdb : (x == ("__debug__" : Str)) = false := by decide)
    (hpl : ((backTo pos (starEach [] X.env)).any (·.1) || (backToKw pos (keywordEach kws X.env)).any (·.1.isNone)) = false := by rfl) : SE X W (.Call (.Name x p) [] kws pos) (mCallK 0 nk den ix mNil mk) := by
  refine ⟨⟨fun pins s σ H Q I ⟨G, sl, M, S, N, h⟩ => ?_⟩⟩
  refine wpAny_Call_Name_kw (ld_glob I hg hm ?_ hdb)
  have h' : TAm X.K X.mg W mk σ H fun zs H2 => ∃ G2 M2 bs, SimM X.K X.mg G2 M2 H2 ∧ RWs X.K X.mg G2 H2 zs bs ∧ Post X.K X.mg W G2 σ H2 (fun G' H' x v => RW X.K X.mg G' H' x v) Q (if ([] : List Val).length = 0 ∧ bs.length = nk then den (pickBy ix ([] ++ bs)) M2 else .bad) :=
    ⟨G, sl, M, S, N, Post.bind (show Post _ _ _ _ _ _ _ _ ((mk sl M).bind _) from h) fun bs M2 G2 H2 ys e2 S2 r2 p2 => ⟨G2, M2, bs, S2, r2, p2⟩⟩
  refine PySem.W.callWith_KW0 (h₀ := X.base) I.ok.mod.kin hk hall (thn (hkw.pk.run pos pins s σ H _ I h') fun ws s2 ⟨zs, H2, I2, rz, G2, M2, bs, S2, rb, q2⟩ => ⟨I2.kIn, ?_⟩) hpl
  rw [hks]
  exact callK_core (us := []) (vs := []) (as := []) F hr hG tk hb I2 .nil rz S2 .nil rb q2
end

/-! ### what a call has made for itself is forgotten -/
def Val.below (n : Nat) : Val → Bool
  | .obj i => decide (i < n)
  | .prO _ i => decide (i < n)
  | _ => true
def MO.below (n : Nat) : MO → Bool
  | .frz _ => true
  | .lst vs => vs.all (Val.below n)
  | .dct kvs => kvs.all fun p => p.2.below n
  | .dcT kvs => kvs.all fun p => p.2.below n
  | .ins _ fs => fs.all fun p => p.2.below n
def cut (n : Nat) (M : Mm) : Mm := if (M.take n).all (MO.below n) then M.take n else M
def trim (den : Den) : Den := fun vs M => match den vs M with
  | .ok (.d x) M' => .ok (.d x) (cut M.length M')
  | .er e M' => .er e (cut M.length M')
  | o => o
section
variable {K : PySem.W.Frag} {mg : Str → Option Value} {G G' : Gh} {H : Hp}
theorem RW.cut {n : Nat} {x : V} {v : Val} (h : RW K mg G H x v) (b : v.below n = true) : RW K mg ⟨G.φ.take n, G.F⟩ H x v := by
  cases v with
  | d y => exact h
  | scr ns => exact h
  | fnc _ => exact h
  | prF _ _ => exact h
  | ri _ _ => exact h
  | obj i =>
    obtain ⟨a, e, q⟩ := h
    refine ⟨a, e, ?_⟩
    have hi : i < n := of_decide_eq_true b
    show (G.φ.take n)[i]? = some a
    rw [List.getElem?_take, if_pos hi]
    exact q
  | prO k i =>
    obtain ⟨a, u, c, e1, e2, e3, q⟩ := h
    refine ⟨a, u, c, e1, e2, e3, ?_⟩
    have hi : i < n := of_decide_eq_true b
    show (G.φ.take n)[i]? = some c
    rw [List.getElem?_take, if_pos hi]
    exact q
theorem RO.cut {n : Nat} {a : Addr} {o : MO} (h : RO K mg G H a o) (b : o.below n = true) : RO K mg ⟨G.φ.take n, G.F⟩ H a o := by
  have all : ∀ {xs : List V} {vs : List Val}, RWs K mg G H xs vs → vs.all (Val.below n) = true → RWs K mg ⟨G.φ.take n, G.F⟩ H xs vs := by
    intro xs vs r
    induction r with
    | nil => intro _; exact .nil
    | cons h t ih =>
      intro q
      rw [List.all_cons, Bool.and_eq_true] at q
      exact .cons (RW.cut h q.1) (ih q.2)
  have all2 : ∀ {κ : Type} {R : κ → κ × Val → V → Prop} {xs : List (κ × V)} {vs : List (κ × Val)}, True := trivial
  cases o with
  | frz x => exact h
  | lst vs => exact let ⟨h1, xs, h2, h3⟩ := h; ⟨h1, xs, h2, all h3 b⟩
  | dct kvs =>
    obtain ⟨h1, ys, h2, h3⟩ := h
    refine ⟨h1, ys, h2, ?_⟩
    have b : kvs.all (fun p => p.2.below n) = true := b
    clear h2
    induction h3 with
    | nil => exact .nil
    | cons h t ih =>
      rw [List.all_cons, Bool.and_eq_true] at b
      exact .cons ⟨h.1, RW.cut h.2 b.1⟩ (ih b.2 b.2)
  | dcT kvs =>
    obtain ⟨h1, ys, h2, h3⟩ := h
    refine ⟨h1, ys, h2, ?_⟩
    have b : kvs.all (fun p => p.2.below n) = true := b
    clear h2
    induction h3 with
    | nil => exact .nil
    | cons h t ih =>
      rw [List.all_cons, Bool.and_eq_true] at b
      exact .cons ⟨h.1, RW.cut h.2 b.1⟩ (ih b.2 b.2)
  | ins C fs =>
    obtain ⟨h1, c, dx, ys, h0, h2, h3⟩ := h
    refine ⟨h1, c, dx, ys, h0, h2, ?_⟩
    have b : fs.all (fun p => p.2.below n) = true := b
    clear h2
    induction h3 with
    | nil => exact .nil
    | cons h t ih =>
      rw [List.all_cons, Bool.and_eq_true] at b
      exact .cons ⟨h.1, RW.cut h.2 b.1⟩ (ih b.2 b.2)
theorem SimM.cut {M M' : Mm} {H0 : Hp} (S0 : SimM K mg G M H0) (e : Ext G H0 G' H) (S : SimM K mg G' M' H) : ∃ G2, Ext G H0 G2 H ∧ SimM K mg G2 (cut M.length M') H ∧ G2.F = G'.F := by
  unfold Zm.cut
  split
  · rename_i hb
    obtain ⟨more, hm⟩ := e.φ
    have ht : G'.φ.take M.length = G.φ := by rw [hm, ← S0.len, List.take_left']; rfl
    refine ⟨⟨G'.φ.take M.length, G'.F⟩, ⟨⟨⟨[], by simp [ht]⟩, e.tup, e.frz, e.fix⟩, e.keep, fun a h => .inl (by rw [← ht]; exact h), e.Fnew⟩, ⟨?_, ?_, fun i a o h1 h2 => ?_, fun a h => ?_, S.fthere, S.sys⟩, rfl⟩
    · show (G'.φ.take M.length).length = (M'.take M.length).length
      rw [List.length_take, List.length_take, S.len]
    · exact List.Sublist.nodup (List.take_sublist _ _) S.nd
    · have h1 : (G'.φ.take M.length)[i]? = some a := h1
      rw [List.getElem?_take] at h1 h2
      split at h1
      · rename_i hi
        rw [if_pos hi] at h2
        refine RO.cut (S.obj i a o h1 h2) ?_
        rw [List.all_eq_true] at hb
        exact hb o (List.mem_of_getElem? (i := i) (by rw [List.getElem?_take, if_pos hi]; exact h2))
      · cases h1
    · exact S.there a (List.mem_of_mem_take h)
  · exact ⟨G', e, S, rfl⟩
end
theorem FnZ.trim {P : Program} {w : World} {K : PySem.W.Frag} {mg : Str → Option Value} {base : Heap} {k : Nat} {f : Addr} {fd : FuncData} {ps : List Str} {den : Den} (F : FnZ P w K mg base k f fd ps den) : FnZ P w K mg base k f fd ps (trim den) := by
  refine ⟨fun A outer s H args us vs Q E hr hG e0 hb r hl ⟨G, ws, M, S, rw_, p⟩ => F.run A outer s H args us vs Q E hr hG e0 hb r hl ⟨G, ws, M, S, rw_, ?_⟩⟩
  unfold Zm.trim at p
  cases q : den ws M with
  | bad => rw [q] at p; exact p
  | er x M' =>
    rw [q] at p
    intro G' H' c d e S' rx
    obtain ⟨G2, e2, S2, hF⟩ := SimM.cut S e S'
    refine p G2 H' c d e2 S2 ?_
    unfold RX at rx ⊢
    rw [hF]
    exact rx
  | ok v M' =>
    cases v with
    | d y =>
      rw [q] at p
      intro G' H' x e S' rx
      obtain ⟨G2, e2, S2, hF⟩ := SimM.cut S e S'
      refine p G2 H' x e2 S2 ?_
      show RV K G2.F H' x y
      rw [hF]
      exact rx
    | obj i => rw [q] at p; exact p
    | scr ns => rw [q] at p; exact p
    | fnc _ => rw [q] at p; exact p
    | prO _ _ => rw [q] at p; exact p
    | prF _ _ => rw [q] at p; exact p
    | ri _ _ => rw [q] at p; exact p
end Zm
namespace Zm
open PySem PySem.Spec PyProof.Rows L2

/-! ### reading the items -/
def seqD (v : Val) (M : Mm) : Option (List PyData) := match v with
  | .d (.list ds) => some ds
  | .d (.tuple ds) => some ds
  | .scr ns => some (ns.map .int)
  | .obj i => match M[i]? with
    | some (.lst vs) => fzL vs M
    | _ => none
  | _ => none
def listD (v : Val) (M : Mm) : Option (List PyData) := match v with
  | .d (.tuple _) => none
  | v => seqD v M
section
variable {K : PySem.W.Frag} {mg : Str → Option Value} {G : Gh} {H : Hp} {M : Mm} {x : V} {v : Val} {ds : List PyData}
theorem rvs_ints : ∀ (ns : List Int), RVs K G.F H (ns.map V.int) (ns.map PyData.int)
  | [] => .nil
  | n :: ns => .cons (.int n) (rvs_ints ns)
theorem seqD_ok (S : SimM K mg G M H) (r : RW K mg G H x v) (h : seqD v M = some ds) : ∃ p xs, x = .ref p ∧ (SqL K H p xs ∨ H p = some (.tup xs)) ∧ RVs K G.F H xs ds := by
  unfold seqD at h
  split at h
  · cases h
    have r : RV K G.F H x (.list ds) := r
    cases r with
    | lst h0 h1 h2 => exact ⟨_, _, rfl, .inl (SqL.of h1), h2⟩
  · cases h
    have r : RV K G.F H x (.tuple ds) := r
    cases r with
    | tup h1 h2 => exact ⟨_, _, rfl, .inr h1, h2⟩
  · cases h
    obtain ⟨a, rfl, h⟩ := r
    exact ⟨a, _, rfl, .inl h.sql, rvs_ints _⟩
  · rename_i i
    obtain ⟨a, rfl, hi⟩ := r
    split at h
    · rename_i vs ev
      obtain ⟨nF, xs, hx, rx⟩ := S.obj i a _ hi ev
      exact ⟨a, xs, rfl, .inl (SqL.of hx), allD_ok h (rws_rd S rx)⟩
    · cases h
  · cases h
theorem listD_ok (S : SimM K mg G M H) (r : RW K mg G H x v) (h : listD v M = some ds) : ∃ p xs, x = .ref p ∧ SqL K H p xs ∧ RVs K G.F H xs ds := by
  cases v with
  | d y =>
    cases y with
    | tuple ds => cases h
    | list ds' =>
      cases h
      have r : RV K G.F H x (.list ds) := r
      cases r with
      | lst h0 h1 h2 => exact ⟨_, _, rfl, SqL.of h1, h2⟩
    | none => cases h
    | bool _ => cases h
    | int _ => cases h
    | str _ => cases h
    | dict _ => cases h
  | scr ns =>
    cases h
    obtain ⟨a, rfl, h⟩ := r
    exact ⟨a, _, rfl, h.sql, rvs_ints _⟩
  | obj i =>
    obtain ⟨a, rfl, hi⟩ := r
    have h : (match M[i]? with | some (.lst vs) => fzL vs M | _ => none) = some ds := h
    split at h
    · rename_i vs ev
      obtain ⟨nF, xs, hx, rx⟩ := S.obj i a _ hi ev
      exact ⟨a, xs, rfl, SqL.of hx, allD_ok h (rws_rd S rx)⟩
    · cases h
  | fnc _ => cases h
  | prO _ _ => cases h
  | prF _ _ => cases h
  | ri _ _ => cases h
/-- a list that is really tracked as one -/
def trackD (v : Val) (M : Mm) : Option (List PyData) := match v with
  | .scr _ => none
  | v => listD v M
theorem trackD_ok (S : SimM K mg G M H) (r : RW K mg G H x v) (h : trackD v M = some ds) : ∃ p xs, x = .ref p ∧ H p = some (.lst xs) ∧ RVs K G.F H xs ds := by
  cases v with
  | scr ns => cases h
  | d y =>
    cases y with
    | tuple ds => cases h
    | list ds' =>
      cases h
      have r : RV K G.F H x (.list ds) := r
      cases r with
      | lst h0 h1 h2 => exact ⟨_, _, rfl, h1, h2⟩
    | none => cases h
    | bool _ => cases h
    | int _ => cases h
    | str _ => cases h
    | dict _ => cases h
  | obj i =>
    obtain ⟨a, rfl, hi⟩ := r
    have h : (match M[i]? with | some (.lst vs) => fzL vs M | _ => none) = some ds := h
    split at h
    · rename_i vs ev
      obtain ⟨nF, xs, hx, rx⟩ := S.obj i a _ hi ev
      exact ⟨a, xs, rfl, hx, allD_ok h (rws_rd S rx)⟩
    · cases h
  | fnc _ => cases h
  | prO _ _ => cases h
  | prF _ _ => cases h
  | ri _ _ => cases h
theorem RVs.ints : ∀ {ns : List Int} {xs : List V}, RVs K G.F H xs (ns.map PyData.int) → xs = ns.map V.int
  | [], _, h => by cases h; rfl
  | n :: ns, _, h => by
    cases h with
    | cons h1 h2 =>
      cases h1
      rw [RVs.ints h2]
      rfl
end
/-- all ints -/
def allI : List PyData → Option (List Int)
  | [] => some []
  | .int i :: r => (allI r).map (i :: ·)
  | _ :: _ => none
theorem allI_ok : ∀ {ds : List PyData} {ns : List Int}, allI ds = some ns → ds = ns.map PyData.int
  | [], _, h => by cases h; rfl
  | .int i :: r, ns, h => by
    unfold allI at h
    cases q : allI r with
    | none => rw [q] at h; cases h
    | some ms => rw [q] at h; cases h; rw [allI_ok q]; rfl
  | .none :: _, _, h => by cases h
  | .bool _ :: _, _, h => by cases h
  | .str _ :: _, _, h => by cases h
  | .list _ :: _, _, h => by cases h
  | .tuple _ :: _, _, h => by cases h
  | .dict _ :: _, _, h => by cases h
theorem allI_map : ∀ (ns : List Int), allI (ns.map PyData.int) = some ns
  | [] => rfl
  | n :: ns => by simp [allI, allI_map ns]

/-! ### arithmetic -/
def vAdd (v w : Val) (M : Mm) : Out Val := match v, w with
  | .d (.int a), .d (.int b) => .ok (.d (.int (a + b))) M
  | .d (.str a), .d (.str b) => if fitsL (a.length + b.length) then .ok (.d (.str (a ++ b))) M else .bad
  | .d (.tuple a), .d (.tuple b) => if fitsL (a.length + b.length) then .ok (.d (.tuple (a ++ b))) M else .bad
  | v, w => match trackD v M, trackD w M with
    | some a, some b => if fitsL (a.length + b.length) then .ok (.d (.list (a ++ b))) M else .bad
    | _, _ => .bad
section
variable {X : Cx} {W : WX}
theorem oz_add : OpZ X (fun x y H Q => (rI0 fun i j => .int (i + j)) x y H Q ∨ (∃ i j, x = .str i ∧ y = .str j ∧ i.length + j.length ≤ sizeLine ∧ Q (.str (i ++ j)) H) ∨ rCatA X.K x y H Q ∨ rCat x y H Q) vAdd := by
  intro W G M σ H Q x y v w S r1 r2 p
  unfold vAdd at p
  split at p
  · rename_i a b
    have r1 : RV X.K G.F H x (.int a) := r1
    have r2 : RV X.K G.F H y (.int b) := r2
    cases r1; cases r2
    exact .inl ⟨a, b, rfl, rfl, p G H _ .refl S (RV.int _)⟩
  · rename_i a b
    have r1 : RV X.K G.F H x (.str a) := r1
    have r2 : RV X.K G.F H y (.str b) := r2
    cases r1; cases r2
    split at p
    · rename_i hf
      exact .inr (.inl ⟨a, b, rfl, rfl, fitsL_ok hf, p G H _ .refl S (RV.str _)⟩)
    · exact p.elim
  · rename_i a b
    split at p
    · rename_i hf
      have q1 := r1
      have q2 := r2
      have r1 : RV X.K G.F H x (.tuple a) := r1
      have r2 : RV X.K G.F H y (.tuple b) := r2
      cases r1 with
      | @tup pa xs _ h1 h2 =>
        cases r2 with
        | @tup pb ys _ g1 g2 =>
          refine .inr (.inr (.inl ⟨pa, pb, xs, ys, rfl, rfl, SqT.of h1, SqT.of g1, by rw [h2.len, g2.len]; exact fitsL_ok hf, fun e => ?_, fun _ e => ?_, fun _ _ z hz => ?_⟩))
          · subst e
            have : a = [] := by cases h2; rfl
            subst this
            exact p G H _ .refl S q2
          · subst e
            have : b = [] := by cases g2; rfl
            subst this
            rw [List.append_nil] at p
            exact p G H _ .refl S q1
          · obtain ⟨S2, e2⟩ := S.lay (o := .tup (xs ++ ys)) hz
            exact p G _ _ e2 S2 (RV.tup upd_same (RVs.append (RVs.ext e2 _ _ h2) (RVs.ext e2 _ _ g2)))
    · exact p.elim
  · split at p
    · rename_i a b ea eb
      split at p
      · rename_i hf
        obtain ⟨pa, xs, rfl, h1, h2⟩ := trackD_ok S r1 ea
        obtain ⟨pb, ys, rfl, g1, g2⟩ := trackD_ok S r2 eb
        refine .inr (.inr (.inr ⟨pa, pb, xs, ys, rfl, rfl, h1, g1, by rw [h2.len, g2.len]; exact fitsL_ok hf, fun z hz => ?_⟩))
        obtain ⟨S2, e2⟩ := S.layF (o := .lst (xs ++ ys)) hz
        exact p _ _ _ e2 S2 (RV.lst (.inl rfl) upd_same (RVs.append (RVs.ext e2 _ _ h2) (RVs.ext e2 _ _ g2)))
      · exact p.elim
    · exact p.elim
theorem se_add {a b : Expr} {ma mb : EM} {pos : Pos} (ha : SE X W a ma) (hb : SE X W b mb) : SE X W (.BinOp a .Add b pos) (mOp vAdd ma mb) :=
  se_op (OpR.or op_add (OpR.or op_add_str (OpR.or op_catA op_cat))) oz_add ha hb
/-- two ints -/
def vI (c : Int → Int → Bool) (f : Int → Int → Int) (v w : Val) (M : Mm) : Out Val := match v, w with
  | .d (.int a), .d (.int b) => if c a b then .ok (.d (.int (f a b))) M else .bad
  | _, _ => .bad
theorem oz_int {c : Int → Int → Bool} {f : Int → Int → Int} {C : Int → Int → Prop} (h : ∀ i j, c i j = true → C i j) : OpZ X (rI C fun i j => .int (f i j)) (vI c f) := by
  intro W G M σ H Q x y v w S r1 r2 p
  unfold vI at p
  split at p
  · rename_i a b
    have r1 : RV X.K G.F H x (.int a) := r1
    have r2 : RV X.K G.F H y (.int b) := r2
    cases r1; cases r2
    split at p
    · rename_i hc
      exact ⟨a, b, rfl, rfl, h _ _ hc, p G H _ .refl S (RV.int _)⟩
    · exact p.elim
  · exact p.elim
theorem oz_int0 {f : Int → Int → Int} : OpZ X (rI0 fun i j => .int (f i j)) (vI (fun _ _ => true) f) := by
  intro W G M σ H Q x y v w S r1 r2 p
  unfold vI at p
  split at p
  · rename_i a b
    have r1 : RV X.K G.F H x (.int a) := r1
    have r2 : RV X.K G.F H y (.int b) := r2
    cases r1; cases r2
    exact ⟨a, b, rfl, rfl, p G H _ .refl S (RV.int _)⟩
  · exact p.elim
abbrev vSub := vI (fun _ _ => true) fun i j => i - j
def smallI (i : Int) : Bool := decide (-18446744073709551616 < i) && decide (i < 18446744073709551616)
abbrev vMul := vI (fun i j => smallI i || smallI j) fun i j => i * j
abbrev vDiv := vI (fun _ j => decide (j ≠ 0) && decide (j.natAbs < 1073741824)) fun i j => i.fdiv j
abbrev vMod := vI (fun _ j => decide (j ≠ 0)) fun i j => i.fmod j
abbrev vPow := vI (fun i j => decide (0 ≤ j) && decide (j ≤ 1000000) && decide (i.natAbs < 18446744073709551616)) fun i j => i ^ j.toNat
theorem smallI_ok {i : Int} (h : smallI i = true) : -(2 ^ 64) < i ∧ i < 2 ^ 64 := by
  unfold smallI at h
  rw [Bool.and_eq_true, decide_eq_true_eq, decide_eq_true_eq] at h
  exact ⟨by have := h.1; omega, by have := h.2; omega⟩
variable {a b : Expr} {ma mb : EM} {pos : Pos}
theorem se_sub (ha : SE X W a ma) (hb : SE X W b mb) : SE X W (.BinOp a .Sub b pos) (mOp vSub ma mb) := se_op op_sub oz_int0 ha hb
theorem se_fdiv (ha : SE X W a ma) (hb : SE X W b mb) : SE X W (.BinOp a .FloorDiv b pos) (mOp vDiv ma mb) := se_op op_fdivN (oz_int fun i j h => by
  rw [Bool.and_eq_true, decide_eq_true_eq, decide_eq_true_eq] at h
  exact h) ha hb
theorem se_mod (ha : SE X W a ma) (hb : SE X W b mb) : SE X W (.BinOp a .Mod b pos) (mOp vMod ma mb) := se_op op_modN (oz_int fun i j h => of_decide_eq_true h) ha hb
theorem se_pow (ha : SE X W a ma) (hb : SE X W b mb) : SE X W (.BinOp a .Pow b pos) (mOp vPow ma mb) := se_op op_pow (oz_int fun i j h => by
  rw [Bool.and_eq_true, Bool.and_eq_true, decide_eq_true_eq, decide_eq_true_eq, decide_eq_true_eq] at h
  exact ⟨h.1.1, h.1.2, by have := h.2; omega⟩) ha hb
def mNeg (m : EM) : EM := fun s M => (m s M).bind fun v M1 => match v with
  | .d (.int i) => .ok (.d (.int (-i))) M1
  | _ => .bad
theorem se_neg (ha : SE X W a ma) : SE X W (.UnaryOp .USub a pos) (mNeg ma) := by
  refine ⟨peImp (pe_un un_neg ha.pe) fun σ H Q ⟨G, s, M, S, N, p⟩ => ⟨G, s, M, S, N, Post.bind p fun v M1 G1 H1 x e1 S1 r1 p1 => ?_⟩⟩
  split at p1
  · rename_i i
    have r1 : RV X.K G1.F H1 x (.int i) := r1
    cases r1
    exact ⟨i, rfl, p1 G1 H1 _ .refl S1 (RV.int _)⟩
  · exact p1.elim

/-! ### comparisons -/
/-- two ints, or two tuples of ints -/
def vB (f : Int → Int → Bool) (v w : Val) (M : Mm) : Out Val := match v, w with
  | .d (.int a), .d (.int b) => .ok (.d (.bool (f a b))) M
  | _, _ => .bad
theorem oz_bool {f : Int → Int → Bool} : OpZ X (rI0 fun i j => .bl (f i j)) (vB f) := by
  intro W G M σ H Q x y v w S r1 r2 p
  unfold vB at p
  split at p
  · rename_i a b
    have r1 : RV X.K G.F H x (.int a) := r1
    have r2 : RV X.K G.F H y (.int b) := r2
    cases r1; cases r2
    exact ⟨a, b, rfl, rfl, p G H _ .refl S (RV.bl _)⟩
  · exact p.elim
abbrev vLt := vB fun i j => decide (i < j)
abbrev vGt := vB fun i j => decide (j < i)
abbrev vGe := vB fun i j => decide (j ≤ i)
def leTs (ns ms : List Int) : Bool := Ob.lexAt (fun j => decide (ns.getD j 0 = ms.getD j 0)) (fun j => decide (ns.getD j 0 ≤ ms.getD j 0)) (decide (ns.length ≤ ms.length)) 0 (min ns.length ms.length)
def vLe (v w : Val) (M : Mm) : Out Val := match v, w with
  | .d (.int a), .d (.int b) => .ok (.d (.bool (decide (a ≤ b)))) M
  | .d (.tuple a), .d (.tuple b) => match allI a, allI b with
    | some ns, some ms => .ok (.d (.bool (leTs ns ms))) M
    | _, _ => .bad
  | _, _ => .bad
end
end Zm
namespace Zm
open PySem PySem.Spec PyProof.Rows L2

/-! ### equality, membership -/
mutual
theorem RV.dp {K : PySem.W.Frag} {F : Addr → Prop} {H : Hp} : ∀ (d : PyData) (v : V), RV K F H v d → d.canLay0 = true → Dp K H v d
  | .none, _, h, _ => by cases h; exact .non
  | .bool b, _, h, _ => by cases h; exact .bl b
  | .int i, _, h, _ => by cases h; exact .int i
  | .str x, _, h, _ => by cases h; exact .str x
  | .tuple ds, _, h, c => by
    have c' : PyData.canLayAll0 ds = true := by simpa only [PyData.canLay0] using c
    cases h with
    | tup h1 h2 => exact .tup (SqT.of h1) (RVs.dp ds _ h2 c')
  | .list ds, _, h, c => by
    have c' : PyData.canLayAll0 ds = true := by simpa only [PyData.canLay0] using c
    cases h with
    | lst h0 h1 h2 => exact .lst (SqL.of h1) (RVs.dp ds _ h2 c')
  | .dict ds, _, h, c => by simp [PyData.canLay0] at c
theorem RVs.dp {K : PySem.W.Frag} {F : Addr → Prop} {H : Hp} : ∀ (ds : List PyData) (vs : List V), RVs K F H vs ds → PyData.canLayAll0 ds = true → DpAll K H vs ds
  | [], _, h, _ => by cases h; exact .nil
  | d :: ds, _, h, c => by
    have c' : (PyData.canLay0 d && PyData.canLayAll0 ds) = true := by simpa only [PyData.canLayAll0] using c
    rw [Bool.and_eq_true] at c'
    cases h with
    | cons h1 h2 => exact .cons (RV.dp d _ h1 c'.1) (RVs.dp ds _ h2 c'.2)
end
def datum (v : Val) (M : Mm) : Option PyData := match v with
  | .d x => some x
  | v => (seqD v M).map .list
section
variable {K : PySem.W.Frag} {mg : Str → Option Value} {G : Gh} {H : Hp} {M : Mm} {x : V} {v : Val} {d : PyData}
theorem datum_ok (S : SimM K mg G M H) (r : RW K mg G H x v) (h : datum v M = some d) (c : SeqAt.shaped d = true) : Dp K H x d := by
  have c0 := SeqAt.canLay_of_shaped c
  cases v with
  | d y => cases h; exact RV.dp _ _ r c0
  | scr ns =>
    have h : (some (ns.map PyData.int)).map PyData.list = some d := h
    cases h
    obtain ⟨a, rfl, h⟩ := r
    exact .lst h.sql (RVs.dp _ _ (rvs_ints (G := G) ns) (by simpa only [PyData.canLay0] using c0))
  | fnc _ => cases h
  | prO _ _ => cases h
  | prF _ _ => cases h
  | ri _ _ => cases h
  | obj i =>
    have h : ((seqD (.obj i) M).map PyData.list) = some d := h
    cases q : seqD (.obj i) M with
    | none => rw [q] at h; cases h
    | some ds =>
      rw [q] at h
      cases h
      obtain ⟨p, xs, rfl, hs, hr⟩ := listD_ok (v := .obj i) S r q
      exact .lst hs (RVs.dp _ _ hr (by simpa only [PyData.canLay0] using c0))
end
def eqAtom : PyData → PyData → Option Bool
  | .int a, .int b => some (decide (a = b))
  | .str a, .str b => some (decide (a = b))
  | .bool a, .bool b => some (decide (a = b))
  | .none, .none => some true
  | .int _, .str _ => some false
  | .str _, .int _ => some false
  | .none, .int _ => some false
  | .int _, .none => some false
  | .none, .str _ => some false
  | .str _, .none => some false
  | .none, .bool _ => some false
  | .bool _, .none => some false
  | _, _ => none
def eqOut (neg : Bool) (v w : Val) (M : Mm) : Option Bool := match v, w with
  | .d a, .d b => match eqAtom a b with
    | some r => some (xor neg r)
    | none => if SeqAt.shaped a && SeqAt.shaped b then some (xor neg (PyData.eqv a b)) else none
  | v, w => match datum v M, datum w M with
    | some a, some b => if SeqAt.shaped a && SeqAt.shaped b then some (xor neg (PyData.eqv a b)) else none
    | _, _ => none
def vEq (v w : Val) (M : Mm) : Out Val := match eqOut false v w M with
  | some b => .ok (.d (.bool b)) M
  | none => .bad
def vNe (v w : Val) (M : Mm) : Out Val := match eqOut true v w M with
  | some b => .ok (.d (.bool b)) M
  | none => .bad
section
variable {X : Cx} {W : WX}
theorem eqOut_ok {neg : Bool} {G : Gh} {M : Mm} {H : Hp} {x y : V} {v w : Val} {b : Bool} {Q : VK} (S : SimM X.K X.mg G M H) (r1 : RW X.K X.mg G H x v) (r2 : RW X.K X.mg G H y w) (h : eqOut neg v w M = some b) (q : Q (.bl b) H) :
    (∃ c, scal x y = true ∧ xor neg c = b ∧ c = decide (x = y)) ∨ ∃ d e, Dp X.K H x d ∧ Dp X.K H y e ∧ SeqAt.shaped d = true ∧ SeqAt.shaped e = true ∧ xor neg (PyData.eqv d e) = b := by
  have gen : ∀ a c, datum v M = some a → datum w M = some c → (if SeqAt.shaped a && SeqAt.shaped c then some (xor neg (PyData.eqv a c)) else none) = some b →
      ∃ d e, Dp X.K H x d ∧ Dp X.K H y e ∧ SeqAt.shaped d = true ∧ SeqAt.shaped e = true ∧ xor neg (PyData.eqv d e) = b := by
    intro a c ea ec h
    split at h
    · rename_i hs
      rw [Bool.and_eq_true] at hs
      cases h
      exact ⟨a, c, datum_ok S r1 ea hs.1, datum_ok S r2 ec hs.2, hs.1, hs.2, rfl⟩
    · cases h
  unfold eqOut at h
  split at h
  · rename_i a c
    split at h
    · rename_i r er
      have r1 : RV X.K G.F H x a := r1
      have r2 : RV X.K G.F H y c := r2
      cases h
      unfold eqAtom at er
      split at er <;> first
        | (cases er; done)
        | (cases er
           cases r1
           cases r2
           refine .inl ⟨_, rfl, rfl, ?_⟩
           first | rfl | simp)
    · exact .inr (gen a c rfl rfl h)
  · split at h
    · rename_i a c ea ec
      exact .inr (gen a c ea ec h)
    · cases h
theorem oz_eq : OpZ X (fun x y H Q => rEq x y H Q ∨ rEqD X.K x y H Q) vEq := by
  intro W G M σ H Q x y v w S r1 r2 p
  unfold vEq at p
  split at p
  · rename_i b eb
    have q := p G H (.bl b) .refl S (RV.bl b)
    rcases eqOut_ok S r1 r2 eb q with ⟨c, h1, h2, h3⟩ | ⟨d, e, h1, h2, h3, h4, h5⟩
    · refine .inl ⟨h1, ?_⟩
      rw [← h3]
      rw [← h2] at q
      simpa using q
    · refine .inr ⟨d, e, h1, h2, h3, h4, ?_⟩
      rw [← h5] at q
      simpa using q
  · exact p.elim
theorem oz_ne : OpZ X (fun x y H Q => rNe x y H Q ∨ rNeD X.K x y H Q) vNe := by
  intro W G M σ H Q x y v w S r1 r2 p
  unfold vNe at p
  split at p
  · rename_i b eb
    have q := p G H (.bl b) .refl S (RV.bl b)
    rcases eqOut_ok S r1 r2 eb q with ⟨c, h1, h2, h3⟩ | ⟨d, e, h1, h2, h3, h4, h5⟩
    · refine .inl ⟨h1, ?_⟩
      rw [← h3]
      rw [← h2] at q
      simpa using q
    · refine .inr ⟨d, e, h1, h2, h3, h4, ?_⟩
      rw [← h5] at q
      simpa using q
  · exact p.elim
variable {a b : Expr} {ma mb : EM} {pos : Pos}
theorem se_eq (hu : X.A.units + 64 < cLine) (ha : SE X W a ma) (hb : SE X W b mb) (hm : behindInMarks .Eq b = false := by rfl) : SE X W (.Compare a [.Eq] [b] pos) (mOp vEq ma mb) := se_cmp (OpR.or op_eq (op_eqD hu)) oz_eq ha hb hm
/-- x is None -/
def isN : Val → Bool
  | .d .none => true
  | _ => false
def vIsN (v w : Val) (M : Mm) : Out Val := match w with
  | .d .none => .ok (.d (.bool (isN v))) M
  | _ => .bad
def vNotN (v w : Val) (M : Mm) : Out Val := match w with
  | .d .none => .ok (.d (.bool (!isN v))) M
  | _ => .bad
/-- x in a list or a tuple -/
def rInA (K : PySem.W.Frag) (neg : Bool) : R2 := fun x y H Q => ∃ d ds, Dp K H x d ∧ (Dp K H y (.list ds) ∨ Dp K H y (.tuple ds)) ∧ SeqAt.shaped d = true ∧ PyData.canLayAll0 ds = true ∧ Q (.bl (xor neg (ds.any fun z => PyData.eqv z d))) H
theorem room_inZ {A : Around} {k : Nat} {d : PyData} (hd : SeqAt.shaped d = true) (hu : A.units + 65 < cLine) : A.units + 1 + min k d.depth < cLine := by
  have h1 := SeqAt.depth_of_shaped hd
  have h2 : min k d.depth ≤ d.depth := Nat.min_le_right _ _
  omega
theorem op_inA (hu : X.A.units + 65 < cLine) : OpR X (compareOp .In) (rInA X.K false) := by
  intro pins s σ H x y v u Q I rx ry ⟨d, ds, hd, he, sd, se, q⟩
  rw [Bool.false_xor] at q
  obtain ⟨as, r1⟩ := Dp.reads I d x v hd rx
  rcases he with he | he
  · obtain ⟨bs, r2⟩ := Dp.reads I _ y u he ry
    exact SeqAt.in_list_reads r2 r1 se (SeqAt.canLay_of_shaped sd) (room_inZ sd hu) ⟨.bl _, H, I, rfl, q⟩
  · obtain ⟨bs, r2⟩ := Dp.reads I _ y u he ry
    exact SeqAt.in_tuple_reads r2 r1 se (SeqAt.canLay_of_shaped sd) (room_inZ sd hu) ⟨.bl _, H, I, rfl, q⟩
theorem op_notInA (hu : X.A.units + 65 < cLine) : OpR X (compareOp .NotIn) (rInA X.K true) := by
  intro pins s σ H x y v u Q I rx ry ⟨d, ds, hd, he, sd, se, q⟩
  rw [Bool.true_xor] at q
  obtain ⟨as, r1⟩ := Dp.reads I d x v hd rx
  rcases he with he | he
  · obtain ⟨bs, r2⟩ := Dp.reads I _ y u he ry
    exact SeqAt.notIn_list_reads r2 r1 se (SeqAt.canLay_of_shaped sd) (room_inZ sd hu) ⟨.bl _, H, I, rfl, q⟩
  · obtain ⟨bs, r2⟩ := Dp.reads I _ y u he ry
    exact SeqAt.notIn_tuple_reads r2 r1 se (SeqAt.canLay_of_shaped sd) (room_inZ sd hu) ⟨.bl _, H, I, rfl, q⟩
def vIn (neg : Bool) (v w : Val) (M : Mm) : Out Val := match datum v M, seqD w M with
  | some d, some ds => if SeqAt.shaped d && PyData.canLayAll0 ds then .ok (.d (.bool (xor neg (ds.any fun z => PyData.eqv z d)))) M else .bad
  | _, _ => .bad
theorem seqD_dp {K : PySem.W.Frag} {mg : Str → Option Value} {G : Gh} {H : Hp} {M : Mm} {x : V} {v : Val} {ds : List PyData} (S : SimM K mg G M H) (r : RW K mg G H x v) (h : seqD v M = some ds) (c : PyData.canLayAll0 ds = true) : Dp K H x (.list ds) ∨ Dp K H x (.tuple ds) := by
  obtain ⟨p, xs, rfl, hs, hr⟩ := seqD_ok S r h
  rcases hs with hs | hs
  · exact .inl (.lst hs (RVs.dp _ _ hr c))
  · exact .inr (.tup (SqT.of hs) (RVs.dp _ _ hr c))
theorem oz_in {neg : Bool} : OpZ X (rInA X.K neg) (vIn neg) := by
  intro W G M σ H Q x y v w S r1 r2 p
  unfold vIn at p
  split at p
  · rename_i d ds ed es
    split at p
    · rename_i hs
      rw [Bool.and_eq_true] at hs
      exact ⟨d, ds, datum_ok S r1 ed hs.1, seqD_dp S r2 es hs.2, hs.1, hs.2, p G H _ .refl S (RV.bl _)⟩
    · exact p.elim
  · exact p.elim
/-- a < b <= c -/
def mChain (f g : Val → Val → Mm → Out Val) (a b c : EM) : EM := fun s M => (a s M).bind fun x M1 => (b s M1).bind fun y M2 => (f x y M2).bind fun z M3 => match z with
  | .d (.bool k) => if k = true then (c s M3).bind fun w M4 => g y w M4 else .ok (.d (.bool false)) M3
  | _ => .bad
end
end Zm
namespace Zm
open PySem PySem.Spec PyProof.Rows L2

/-! ### subscripts -/
section
variable {K : PySem.W.Frag} {mg : Str → Option Value} {F : Addr → Prop} {G : Gh} {H : Hp}
theorem RVs.atI {xs : List V} {ds : List PyData} {i : Int} {d : PyData} (r : RVs K F H xs ds) (h : atI ds i = some d) : ∃ v, atI xs i = some v ∧ RV K F H v d := by
  unfold L2.atI at h ⊢
  rw [r.len]
  cases q : ixN ds.length i with
  | none => rw [q] at h; cases h
  | some j =>
    rw [q] at h
    exact RVs.get r h
theorem RWs.get : ∀ {xs : List V} {vs : List Val} {i : Nat} {v : Val}, RWs K mg G H xs vs → vs[i]? = some v → ∃ x, xs[i]? = some x ∧ RW K mg G H x v
  | _, _, i, _, .nil, e => by simp at e
  | _, _, 0, _, .cons h t, e => by simp at e; subst e; exact ⟨_, rfl, h⟩
  | _, _, i + 1, _, .cons h t, e => by
    obtain ⟨x, e1, e2⟩ := RWs.get (i := i) t (by simpa using e)
    exact ⟨x, by simpa using e1, e2⟩
theorem RWs.atI {xs : List V} {vs : List Val} {i : Int} {v : Val} (r : RWs K mg G H xs vs) (h : atI vs i = some v) : ∃ x, L2.atI xs i = some x ∧ RW K mg G H x v := by
  unfold L2.atI at h ⊢
  rw [Paired.len r]
  cases q : ixN vs.length i with
  | none => rw [q] at h; cases h
  | some j =>
    rw [q] at h
    exact RWs.get r h
end
def vIx (v w : Val) (M : Mm) : Out Val := match v, w with
  | .d (.list ds), .d (.int i) => match atI ds i with
    | some d => .ok (.d d) M
    | none => .bad
  | .d (.tuple ds), .d (.int i) => match atI ds i with
    | some d => .ok (.d d) M
    | none => .bad
  | .d (.str x), .d (.int i) => if fitsL x.length then match atI x.cps.toList i with
    | some c => .ok (.d (.str ⟨#[c]⟩)) M
    | none => .bad else .bad
  | .scr ns, .d (.int i) => match atI ns i with
    | some n => .ok (.d (.int n)) M
    | none => .bad
  | .obj j, .d (.int i) => match M[j]? with
    | some (.lst vs) => match atI vs i with
      | some v => .ok (rd v M) M
      | none => .bad
    | _ => .bad
  | _, _ => .bad
section
variable {X : Cx} {W : WX}
theorem oz_ix : OpZ X (rIx X.K) vIx := by
  intro W G M σ H Q x y v w S r1 r2 p
  unfold vIx at p
  split at p
  · rename_i ds i
    have r1 : RV X.K G.F H x (.list ds) := r1
    have r2 : RV X.K G.F H y (.int i) := r2
    cases r2
    cases r1 with
    | lst h0 h1 h2 =>
      split at p
      · rename_i d hd
        obtain ⟨u, e1, e2⟩ := RVs.atI h2 hd
        exact .inl ⟨_, _, i, u, rfl, rfl, SqL.of h1, e1, p G H _ .refl S e2⟩
      · exact p.elim
  · rename_i ds i
    have r1 : RV X.K G.F H x (.tuple ds) := r1
    have r2 : RV X.K G.F H y (.int i) := r2
    cases r2
    cases r1 with
    | tup h1 h2 =>
      split at p
      · rename_i d hd
        obtain ⟨u, e1, e2⟩ := RVs.atI h2 hd
        exact .inr (.inl ⟨_, _, i, u, rfl, rfl, SqT.of h1, e1, p G H _ .refl S e2⟩)
      · exact p.elim
  · rename_i z i
    have r1 : RV X.K G.F H x (.str z) := r1
    have r2 : RV X.K G.F H y (.int i) := r2
    cases r1; cases r2
    split at p
    · rename_i hf
      split at p
      · rename_i c hc
        exact .inr (.inr ⟨z, i, c, rfl, rfl, fitsL_ok hf, hc, p G H _ .refl S (RV.str _)⟩)
      · exact p.elim
    · exact p.elim
  · rename_i ns i
    obtain ⟨a, rfl, h1⟩ := r1
    have r2 : RV X.K G.F H y (.int i) := r2
    cases r2
    split at p
    · rename_i n hn
      refine .inl ⟨a, _, i, .int n, rfl, rfl, h1.sql, ?_, p G H _ .refl S (RV.int n)⟩
      unfold L2.atI at hn ⊢
      rw [List.length_map]
      cases q : ixN ns.length i with
      | none => rw [q] at hn; cases hn
      | some j =>
        rw [q] at hn
        show (ns.map V.int)[j]? = _
        have hn : ns[j]? = some n := hn
        rw [List.getElem?_map, hn]
        rfl
    · exact p.elim
  · rename_i j i
    obtain ⟨a, rfl, hj⟩ := r1
    have r2 : RV X.K G.F H y (.int i) := r2
    cases r2
    split at p
    · rename_i vs ev
      obtain ⟨nF, xs, hx, rx⟩ := S.obj j a _ hj ev
      split at p
      · rename_i u hu
        obtain ⟨z, e1, e2⟩ := RWs.atI rx hu
        exact .inl ⟨a, xs, i, z, rfl, rfl, SqL.of hx, e1, p G H _ .refl S (rd_ok S e2)⟩
      · exact p.elim
    · exact p.elim
  · exact p.elim
variable {a b : Expr} {ma mb : EM} {pos : Pos}
theorem se_ix (ha : SE X W a ma) (hb : SE X W b mb) (hs : PlainIx b := by intro _ _; rfl) : SE X W (.Subscript a b pos) (mOp vIx ma mb) := ⟨peImp (pe_ix ix_seq ha.pe hb.pe hs) fun _ _ _ h => TEm.op oz_ix h⟩

/-! ### slices -/
def cutL {α : Type} (xs : List α) (lo hi : Option Int) : List α := (xs.drop (HT.sIx xs.length 0 lo)).take (HT.sIx xs.length xs.length hi - HT.sIx xs.length 0 lo)
abbrev OM := Sl → Mm → Out (Option Int)
def TOm (K : PySem.W.Frag) (mg : Str → Option Value) (W : WX) (m : OM) : TO := fun σ H Q => ∃ G s M, SimM K mg G M H ∧ SimS K mg G s σ H ∧ Post K mg W G σ H (fun _ _ x v => x = v) Q (m s M)
structure SP_ (X : Cx) (W : WX) (e : Option Expr) (m : OM) : Prop where
  po : PO X e (TOm X.K X.mg W m)
theorem poImp {e : Option Expr} {t t' : TO} (h : PO X e t) (i : ∀ σ H Q, t' σ H Q → t σ H Q) : PO X e t' := ⟨fun pins s σ H Q I q => h.run pins s σ H Q I (i _ _ _ q)⟩
def oNone : OM := fun _ M => .ok none M
def oSome (m : EM) : OM := fun s M => (m s M).bind fun v M1 => match v with
  | .d (.int i) => .ok (some i) M1
  | _ => .bad
theorem so_none : SP_ X W none oNone := ⟨poImp po_none fun σ H Q ⟨G, s, M, S, N, p⟩ => p G H none .refl S rfl⟩
theorem so_some {e : Expr} {m : EM} (h : SE X W e m) : SP_ X W (some e) (oSome m) := by
  refine ⟨poImp (po_some h.pe) fun σ H Q ⟨G, s, M, S, N, p⟩ => ⟨G, s, M, S, N, Post.bind p fun v M1 G1 H1 x e1 S1 r1 p1 => ?_⟩⟩
  split at p1
  · rename_i i
    have r1 : RV X.K G1.F H1 x (.int i) := r1
    cases r1
    exact ⟨i, rfl, p1 G1 H1 _ .refl S1 rfl⟩
  · exact p1.elim
def vSl (v : Val) (lo hi : Option Int) (M : Mm) : Out Val := match v with
  | .d (.tuple ds) => .ok (.d (.tuple (cutL ds lo hi))) M
  | .d (.str z) => if fitsL z.length then .ok (.d (.str (cutS z lo hi))) M else .bad
  | v => match listD v M with
    | some ds => .ok (.d (.list (cutL ds lo hi))) M
    | none => .bad
def mSl (m : EM) (l h : OM) : EM := fun s M => (m s M).bind fun v M1 => (l s M1).bind fun lo M2 => (h s M2).bind fun hi M3 => vSl v lo hi M3
theorem cutL_whole {α : Type} {xs : List α} {lo hi : Option Int} (h : HT.sIx xs.length 0 lo = 0 ∧ HT.sIx xs.length xs.length hi = xs.length) : cutL xs lo hi = xs := by
  unfold cutL
  rw [h.1, h.2]
  simp
theorem RVs.cut {K : PySem.W.Frag} {F : Addr → Prop} {H : Hp} {xs : List V} {ds : List PyData} (r : RVs K F H xs ds) (lo hi : Option Int) : RVs K F H (cutV xs lo hi) (cutL ds lo hi) := by
  unfold cutV cutL
  rw [r.len]
  exact RVs.take _ (RVs.drop _ r)
theorem se_slice {e : Expr} {lo hi : Option Expr} {m : EM} {l h : OM} {p2 : Pos} (he : SE X W e m) (hl : SP_ X W lo l) (hh : SP_ X W hi h) : SE X W (.Subscript e (.Slice lo hi none p2) pos) (mSl m l h) := by
  refine ⟨peImp (pe_slice (SlR.or sl_list (SlR.or sl_tupA sl_str)) he.pe hl.po hh.po) fun σ H Q ⟨G, s, M, S, N, p⟩ => ?_⟩
  refine ⟨G, s, M, S, N, Post.bind p fun v M1 G1 H1 x e1 S1 r1 p1 => ⟨G1, s, M1, S1, N.ext e1, Post.bind p1 fun lo M2 G2 H2 lo' e2 S2 r2 p2 => ⟨G2, s, M2, S2, (N.ext e1).ext e2, Post.bind p2 fun hi M3 G3 H3 hi' e3 S3 r3 p3 => ?_⟩⟩⟩
  subst r2 r3
  replace r1 := RW.ext (e2.trans e3) r1
  unfold vSl at p3
  split at p3
  · rename_i ds
    have r1' := r1
    have r1 : RV X.K G3.F H3 x (.tuple ds) := r1
    cases r1 with
    | @tup a xs _ h1 h2 =>
      refine .inr (.inl ⟨_, _, rfl, SqT.of h1, fun hw => ?_, fun hw q hq => ?_⟩)
      · rw [cutL_whole (by rw [← h2.len]; exact hw)] at p3
        exact p3 G3 H3 _ .refl S3 r1'
      · obtain ⟨S4, e4⟩ := S3.lay (o := .tup (cutV xs lo' hi')) hq
        exact p3 G3 _ _ e4 S4 (RV.tup upd_same (RVs.cut (RVs.ext e4 _ _ h2) _ _))
  · rename_i z
    have r1 : RV X.K G3.F H3 x (.str z) := r1
    cases r1
    split at p3
    · rename_i hf
      exact .inr (.inr ⟨z, rfl, fitsL_ok hf, p3 G3 H3 _ .refl S3 (RV.str _)⟩)
    · exact p3.elim
  · split at p3
    · rename_i ds ed
      obtain ⟨a, xs, rfl, h1, h2⟩ := listD_ok S3 r1 ed
      refine .inl ⟨_, _, rfl, h1, fun q hq => ?_⟩
      obtain ⟨S4, e4⟩ := S3.layF (o := .lst (cutV xs lo' hi')) hq
      exact p3 _ _ _ e4 S4 (RV.lst (.inl rfl) upd_same (RVs.cut (RVs.ext e4 _ _ h2) _ _))
    · exact p3.elim

/-! ### built-in functions -/
/-- a plain function of the arguments, right for the reading r -/
def CallZ (X : Cx) (r : List V → Hp → VK → Prop) (f : List Val → Mm → Out Val) : Prop := ∀ (W : WX) (G : Gh) (M : Mm) (σ : L2.St) (H : Hp) (Q : VK) (xs : List V) (vs : List Val), SimM X.K X.mg G M H → RWs X.K X.mg G H xs vs →
  Post X.K X.mg W G σ H (fun G' H' x v => RW X.K X.mg G' H' x v) Q (f vs M) → r xs H Q
def mB (f : List Val → Mm → Out Val) (ms : AM) : EM := fun s M => (ms s M).bind f
theorem TCBm {r : List V → Hp → VK → Prop} {f : List Val → Mm → Out Val} {ms : AM} {σ : L2.St} {H : Hp} {Q : VK} (z : CallZ X r f) (h : TEm X.K X.mg W (mB f ms) σ H Q) : tCB r (TAm X.K X.mg W ms) σ H Q := by
  obtain ⟨G, s, M, S, N, p⟩ := h
  exact ⟨G, s, M, S, N, Post.bind p fun vs M1 G1 H1 xs e1 S1 r1 p1 => z W G1 M1 σ H1 Q xs vs S1 r1 p1⟩
variable {e : Expr} {es : List Expr} {ms : AM} {x : Str} {p : Pos} {id T : String}
theorem se_callB {r : List V → Hp → VK → Prop} {f : List Val → Mm → Out Val} (hc : CallR X (.builtin id) r) (z : CallZ X r f) (hg : Gl X x) (hm : X.mg x = none) (hv : bootBuiltins x = some (.builtin id)) (ha : SA X W (e :: es) ms) (hn : x ≠ "__name__" := by decide) (hdb : (x == ("__debug__" : Str)) = false := by decide)
    (he : starEach (e :: es) X.env = (false, eval e X.env) :: starEach es X.env := by rfl) (hpl : (backTo pos (starEach es X.env)).any (·.1) = false := by rfl) : SE X W (.Call (.Name x p) (e :: es) [] pos) (mB f ms) :=
  ⟨peImp (pe_callB hc hg hm hv ha.pa hn hdb he hpl) fun _ _ _ h => TCBm z h⟩
theorem se_callTy {r : List V → Hp → VK → Prop} {f : List Val → Mm → Out Val} (hc : CallR X (.type T) r) (z : CallZ X r f) (hg : Gl X x) (hm : X.mg x = none) (hv : bootBuiltins x = some (.type T)) (ha : SA X W (e :: es) ms) (hn : x ≠ "__name__" := by decide) (hdb : (x == ("__debug__" : Str)) = false := by decide)
    (he : starEach (e :: es) X.env = (false, eval e X.env) :: starEach es X.env := by rfl) (hpl : (backTo pos (starEach es X.env)).any (·.1) = false := by rfl) : SE X W (.Call (.Name x p) (e :: es) [] pos) (mB f ms) :=
  ⟨peImp (pe_callTy hc hg hm hv ha.pa hn hdb he hpl) fun _ _ _ h => TCBm z h⟩
/-- len -/
def lenOf (v : Val) (M : Mm) : Option Nat := match v with
  | .d (.list ds) => some ds.length
  | .d (.tuple ds) => some ds.length
  | .d (.str x) => if fitsL x.length then some x.length else none
  | .scr ns => some ns.length
  | .obj j => match M[j]? with
    | some (.lst vs) => some vs.length
    | _ => none
  | _ => none
def vLen (vs : List Val) (M : Mm) : Out Val := match vs with
  | [v] => match lenOf v M with
    | some n => .ok (.d (.int n)) M
    | none => .bad
  | _ => .bad
theorem lenOf_ok {K : PySem.W.Frag} {mg : Str → Option Value} {G : Gh} {H : Hp} {M : Mm} {x : V} {v : Val} {n : Nat} (S : SimM K mg G M H) (r : RW K mg G H x v) (h : lenOf v M = some n) : LenV K x H n := by
  unfold lenOf at h
  split at h
  · rename_i ds
    cases h
    have r : RV K G.F H x (.list ds) := r
    cases r with
    | lst h0 h1 h2 => exact .inl ⟨_, SqL.of h1, h2.len.symm⟩
  · rename_i ds
    cases h
    have r : RV K G.F H x (.tuple ds) := r
    cases r with
    | tup h1 h2 => exact .inr ⟨_, SqT.of h1, h2.len.symm⟩
  · rename_i z
    split at h
    · rename_i hf
      cases h
      have r : RV K G.F H x (.str z) := r
      cases r
      exact ⟨fitsL_ok hf, rfl⟩
    · cases h
  · rename_i ns
    cases h
    obtain ⟨a, rfl, h1⟩ := r
    exact .inl ⟨_, h1.sql, by simp⟩
  · rename_i j
    obtain ⟨a, rfl, hj⟩ := r
    split at h
    · rename_i vs ev
      cases h
      obtain ⟨nF, xs, hx, rx⟩ := S.obj j a _ hj ev
      exact .inl ⟨xs, SqL.of hx, (Paired.len rx).symm⟩
    · cases h
  · cases h
theorem cz_len : CallZ X (fun xs H Q => ∃ x n, xs = [x] ∧ LenV X.K x H n ∧ Q (.int n) H) vLen := by
  intro W G M σ H Q xs vs S r p
  unfold vLen at p
  split at p
  · cases r with
    | cons r1 r2 =>
      cases r2
      split at p
      · rename_i n hn
        exact ⟨_, n, rfl, lenOf_ok S r1 hn, p G H _ .refl S (RV.int _)⟩
      · exact p.elim
  · exact p.elim
/-- int(n) -/
def vInt (vs : List Val) (M : Mm) : Out Val := match vs with
  | [.d (.int i)] => .ok (.d (.int i)) M
  | [.d (.bool k)] => .ok (.d (.int (if k then 1 else 0))) M
  | _ => .bad
theorem cz_int : CallZ X (fun xs H Q => (∃ i, xs = [.int i] ∧ Q (.int i) H) ∨ ∃ k, xs = [.bl k] ∧ Q (.int (if k then 1 else 0)) H) vInt := by
  intro W G M σ H Q xs vs S r p
  unfold vInt at p
  split at p
  · rename_i i
    cases r with
    | cons r1 r2 =>
      cases r2
      have r1 : RV X.K G.F H _ (.int i) := r1
      cases r1
      exact .inl ⟨i, rfl, p G H _ .refl S (RV.int _)⟩
  · rename_i k
    cases r with
    | cons r1 r2 =>
      cases r2
      have r1 : RV X.K G.F H _ (.bool k) := r1
      cases r1
      exact .inr ⟨k, rfl, p G H _ .refl S (RV.int _)⟩
  · exact p.elim
/-- max, min of two ints; abs -/
def vI2 (f : Int → Int → Int) (vs : List Val) (M : Mm) : Out Val := match vs with
  | [.d (.int i), .d (.int j)] => .ok (.d (.int (f i j))) M
  | _ => .bad
theorem cz_i2 {f : Int → Int → Int} : CallZ X (fun xs H Q => ∃ i j, xs = [.int i, .int j] ∧ Q (.int (f i j)) H) (vI2 f) := by
  intro W G M σ H Q xs vs S r p
  unfold vI2 at p
  split at p
  · rename_i i j
    cases r with
    | cons r1 r2 =>
      cases r2 with
      | cons r2 r3 =>
        cases r3
        have r1 : RV X.K G.F H _ (.int i) := r1
        have r2 : RV X.K G.F H _ (.int j) := r2
        cases r1; cases r2
        exact ⟨i, j, rfl, p G H _ .refl S (RV.int _)⟩
  · exact p.elim
abbrev vMax := vI2 fun i j => if j > i then j else i
abbrev vMin := vI2 fun i j => if j < i then j else i
def vAbs (vs : List Val) (M : Mm) : Out Val := match vs with
  | [.d (.int i)] => .ok (.d (.int (if i < 0 then -i else i))) M
  | _ => .bad
/-- tuple(xs) -/
def vTuple (vs : List Val) (M : Mm) : Out Val := match vs with
  | [v] => match seqD v M with
    | some ds => .ok (.d (.tuple ds)) M
    | none => .bad
  | _ => .bad
theorem cz_tuple : CallZ X (fun xs H Q => ∃ p ys, xs = [.ref p] ∧ ((SqL X.K H p ys ∧ ∀ l, H l = none → Q (.ref l) (upd H l (.tup ys))) ∨ (SqT X.K H p ys ∧ Q (.ref p) H))) vTuple := by
  intro W G M σ H Q xs vs S r p
  unfold vTuple at p
  split at p
  · cases r with
    | cons r1 r2 =>
      cases r2
      split at p
      · rename_i ds hd
        obtain ⟨a, ys, rfl, h, hr⟩ := seqD_ok S r1 hd
        refine ⟨a, ys, rfl, ?_⟩
        rcases h with h | h
        · refine .inl ⟨h, fun l hl => ?_⟩
          obtain ⟨S2, e2⟩ := S.lay (o := .tup ys) hl
          exact p G _ _ e2 S2 (RV.tup upd_same (RVs.ext e2 _ _ hr))
        · exact .inr ⟨SqT.of h, p G H _ .refl S (RV.tup h hr)⟩
      · exact p.elim
  · exact p.elim
/-- list(xs), by value or at a place of its own -/
def vList (vs : List Val) (M : Mm) : Out Val := match vs with
  | [v] => match seqD v M with
    | some ds => .ok (.d (.list ds)) M
    | none => .bad
  | _ => .bad
def vListN (vs : List Val) (M : Mm) : Out Val := match vs with
  | [v] => match seqD v M with
    | some ds => .ok (.obj M.length) (M ++ [.lst (ds.map .d)])
    | none => .bad
  | _ => .bad
theorem cz_listN : CallZ X (fun xs H Q => ∃ p ys, xs = [.ref p] ∧ (SqL X.K H p ys ∨ SqT X.K H p ys) ∧ ∀ l, H l = none → Q (.ref l) (upd H l (.lst ys))) vListN := by
  intro W G M σ H Q xs vs S r p
  unfold vListN at p
  split at p
  · cases r with
    | cons r1 r2 =>
      cases r2
      split at p
      · rename_i ds hd
        obtain ⟨a, ys, rfl, h, hr⟩ := seqD_ok S r1 hd
        refine ⟨a, ys, rfl, h.imp id SqT.of, fun l hl => ?_⟩
        obtain ⟨S2, e2, r3⟩ := S.pushL hl (RVs.rws hr)
        exact p _ _ _ e2 S2 r3
      · exact p.elim
  · exact p.elim

/-! ### methods -/
def tyOk (T : String) (v : Val) (M : Mm) : Bool := match v with
  | .d (.str _) => T == "str"
  | .d (.list _) => T == "list"
  | .scr _ => T == "list"
  | .obj j => match M[j]? with
    | some (.lst _) => T == "list"
    | some (.dct _) => T == "dict"
    | _ => false
  | .d (.dict _) => T == "dict"
  | _ => false
theorem tyOk_ok {K : PySem.W.Frag} {mg : Str → Option Value} {G : Gh} {H : Hp} {M : Mm} {T : String} {x : V} {v : Val} (S : SimM K mg G M H) (r : RW K mg G H x v) (h : tyOk T v M = true) : tyV K T x H := by
  unfold tyOk at h
  split at h
  · rename_i z
    have r : RV K G.F H x (.str z) := r
    cases r
    exact beq_iff_eq.mp h
  · rename_i ds
    have r : RV K G.F H x (.list ds) := r
    cases r with
    | lst h0 h1 h2 => exact .inl ⟨beq_iff_eq.mp h, _, SqL.of h1⟩
  · obtain ⟨a, rfl, h1⟩ := r
    exact .inl ⟨beq_iff_eq.mp h, _, h1.sql⟩
  · rename_i j
    obtain ⟨a, rfl, hj⟩ := r
    split at h
    · rename_i vs ev
      obtain ⟨nF, xs, hx, rx⟩ := S.obj j a _ hj ev
      exact .inl ⟨beq_iff_eq.mp h, _, SqL.of hx⟩
    · rename_i kvs ev
      obtain ⟨nF, ys, h1, _⟩ := S.obj j a _ hj ev
      exact .inr (.inr (.inl ⟨beq_iff_eq.mp h, .inl ⟨_, h1⟩⟩))
    · cases h
  · rename_i ds
    have r : RV K G.F H x (.dict ds) := r
    refine ?_
    cases r with
    | dct h0 h1 h2 => exact .inr (.inr (.inl ⟨beq_iff_eq.mp h, .inl ⟨_, h1⟩⟩))
  · cases h
abbrev MF := Val → List Val → Mm → Out Val
def MtZ (X : Cx) (r : V → List V → Hp → VK → Prop) (f : MF) : Prop := ∀ (W : WX) (G : Gh) (M : Mm) (σ : L2.St) (H : Hp) (Q : VK) (x : V) (v : Val) (xs : List V) (vs : List Val), SimM X.K X.mg G M H → RW X.K X.mg G H x v → RWs X.K X.mg G H xs vs →
  Post X.K X.mg W G σ H (fun G' H' x v => RW X.K X.mg G' H' x v) Q (f v vs M) → r x xs H Q
def mM (T : String) (f : MF) (o : EM) (ms : AM) : EM := fun s M => (o s M).bind fun v M1 => if tyOk T v M1 = true then (ms s M1).bind fun vs M2 => f v vs M2 else .bad
theorem se_meth {o : Expr} {mo : EM} {name : Str} {apos cpos : Pos} {r : V → List V → Hp → VK → Prop} {f : MF} (pa : PlainAttrs T) (slot : Slot T name id) (hty : typeOf (.builtin id) = pure (.type "method_descriptor")) (hm : MtR X id r) (z : MtZ X r f) (ho : SE X W o mo) (ha : SA X W (e :: es) ms)
    (hbase : attributeBase o name X.env (eval o X.env) = eval o X.env := by rfl)
    (hfew : ((backTo cpos (starEach (e :: es) X.env)).all (fun x => !x.1) && (backToKw cpos (keywordEach [] X.env)).all (fun x => x.1.isSome)
      && decide ((e :: es).length + ([] : List Keyword).length + (if ([] : List Keyword).isEmpty then 0 else 1) < 30)) = true := by rfl)
    (hline : (apos.endLine == cpos.line) = true := by rfl) (hs : starEach (e :: es) X.env = (false, eval e X.env) :: starEach es X.env := by rfl) (hplain : (backTo cpos (starEach es X.env)).any (·.1) = false := by rfl) :
    SE X W (.Call (.Attribute o name apos) (e :: es) [] cpos) (mM T f mo ms) := by
  refine ⟨peImp (pe_bm pa slot hty hm ho.pe ha.pa hbase hfew hline hs hplain) fun σ H Q ⟨G, s, M, S, N, p⟩ => ⟨G, s, M, S, N, Post.bind p fun v M1 G1 H1 x e1 S1 r1 p1 => ?_⟩⟩
  split at p1
  · rename_i ht
    exact ⟨tyOk_ok S1 r1 ht, G1, s, M1, S1, N.ext e1, Post.bind p1 fun vs M2 G2 H2 xs e2 S2 r2 p2 => z W G2 M2 σ H2 Q x v xs vs S2 (RW.ext e2 r1) r2 p2⟩
  · exact p1.elim
theorem se_meth0 {o : Expr} {mo : EM} {name : Str} {apos cpos : Pos} {r : V → List V → Hp → VK → Prop} {f : MF} (pa : PlainAttrs T) (slot : Slot T name id) (hty : typeOf (.builtin id) = pure (.type "method_descriptor")) (hm : MtR X id r) (z : MtZ X r f) (ho : SE X W o mo)
    (hbase : attributeBase o name X.env (eval o X.env) = eval o X.env := by rfl) (hline : (apos.endLine == cpos.line) = true := by rfl) : SE X W (.Call (.Attribute o name apos) [] [] cpos) (mM T f mo mNil) := by
  refine ⟨peImp (pe_bm0 pa slot hty hm ho.pe hbase hline) fun σ H Q ⟨G, s, M, S, N, p⟩ => ⟨G, s, M, S, N, Post.bind p fun v M1 G1 H1 x e1 S1 r1 p1 => ?_⟩⟩
  split at p1
  · rename_i ht
    exact ⟨tyOk_ok S1 r1 ht, z W G1 M1 σ H1 Q x v [] [] S1 r1 .nil p1⟩
  · exact p1.elim
theorem Paired.dropLast {α β : Type} {F : α → β → Prop} : ∀ {l : List α} {m : List β}, Paired F l m → Paired F l.dropLast m.dropLast
  | _, _, .nil => .nil
  | _, _, .cons h .nil => .nil
  | _, _, .cons h (.cons h2 t) => .cons h (Paired.dropLast (.cons h2 t))
theorem Paired.eraseIdx {α β : Type} {F : α → β → Prop} : ∀ {l : List α} {m : List β} (k : Nat), Paired F l m → Paired F (l.eraseIdx k) (m.eraseIdx k)
  | _, _, _, .nil => .nil
  | _, _, 0, .cons h t => t
  | _, _, k + 1, .cons h t => .cons h (Paired.eraseIdx k t)
theorem Paired.take {α β : Type} {F : α → β → Prop} : ∀ {l : List α} {m : List β} (k : Nat), Paired F l m → Paired F (l.take k) (m.take k)
  | _, _, 0, _ => .nil
  | _, _, _ + 1, .nil => .nil
  | _, _, k + 1, .cons h t => .cons h (Paired.take k t)
theorem Paired.drop {α β : Type} {F : α → β → Prop} : ∀ {l : List α} {m : List β} (k : Nat), Paired F l m → Paired F (l.drop k) (m.drop k)
  | _, _, 0, h => h
  | _, _, _ + 1, .nil => .nil
  | _, _, k + 1, .cons h t => Paired.drop k t
theorem Paired.setP {α β : Type} {F : α → β → Prop} {a : α} {b : β} (h : F a b) : ∀ {l : List α} {m : List β} (k : Nat), Paired F l m → Paired F (l.set k a) (m.set k b)
  | _, _, _, .nil => .nil
  | _, _, 0, .cons _ t => .cons h t
  | _, _, k + 1, .cons g t => .cons g (Paired.setP h k t)
/-- a list at a place is written -/
theorem write_lst {G : Gh} {M : Mm} {H : Hp} {i : Nat} {a : Addr} {vs : List Val} {ys : List V} {us : List Val} (S : SimM X.K X.mg G M H) (hi : G.φ[i]? = some a) (ho : M[i]? = some (.lst vs)) (r : RWs X.K X.mg G H ys us) :
    SimM X.K X.mg G (M.set i (.lst us)) (upd H a (.lst ys)) ∧ Ext G H G (upd H a (.lst ys)) := by
  obtain ⟨nF, xs, hx, rx⟩ := S.obj i a _ hi ho
  exact S.write hi nF (fun zs z => by rw [hx] at z; cases z) (fun q v z => by rw [hx] at z; cases z) fun e => ⟨nF, ys, upd_same, RWs.ext e r⟩
def vAppend : MF := fun v vs M => match v, vs with
  | .obj i, [w] => match M[i]? with
    | some (.lst us) => if us.length < 16777216 then .ok (.d .none) (M.set i (.lst (us ++ [w]))) else .bad
    | _ => .bad
  | _, _ => .bad
theorem mz_append : MtZ X rAppend vAppend := by
  intro W G M σ H Q x v xs vs S r1 r2 p
  unfold vAppend at p
  split at p
  · rename_i i w
    obtain ⟨a, rfl, hi⟩ := r1
    cases r2 with
    | @cons y _ _ _ r2 r3 =>
      cases r3
      split at p
      · rename_i us ho
        obtain ⟨nF, zs, hx, rx⟩ := S.obj i a _ hi ho
        split at p
        · rename_i hl
          obtain ⟨S2, e2⟩ := write_lst S hi ho (Paired.app rx (.cons r2 .nil))
          exact ⟨a, zs, _, rfl, rfl, hx, by rw [Paired.len rx]; exact hl, p G _ _ e2 S2 RV.non⟩
        · exact p.elim
      · exact p.elim
  · exact p.elim
def vPop : MF := fun v vs M => match v, vs with
  | .obj i, [] => match M[i]? with
    | some (.lst us) => match us[us.length - 1]? with
      | some w => .ok (rd w M) (M.set i (.lst us.dropLast))
      | none => .bad
    | _ => .bad
  | .obj i, [.d (.int k)] => match M[i]? with
    | some (.lst us) => if -9223372036854775808 ≤ k ∧ k < 9223372036854775808 then match seqIndex? k us.length with
      | some j => match us[j]? with
        | some w => .ok (rd w M) (M.set i (.lst (us.eraseIdx j)))
        | none => .bad
      | none => .bad else .bad
    | _ => .bad
  | _, _ => .bad
theorem mz_pop : MtZ X (fun x vs H Q => rPop x vs H Q ∨ rPopAt x vs H Q) vPop := by
  intro W G M σ H Q x v xs vs S r1 r2 p
  unfold vPop at p
  split at p
  · rename_i i
    obtain ⟨a, rfl, hi⟩ := r1
    cases r2
    split at p
    · rename_i us ho
      obtain ⟨nF, zs, hx, rx⟩ := S.obj i a _ hi ho
      split at p
      · rename_i w hw
        obtain ⟨y, e1, e2⟩ := RWs.get rx hw
        obtain ⟨S2, e3⟩ := write_lst S hi ho (Paired.dropLast rx)
        exact .inl ⟨a, zs, y, rfl, rfl, hx, by rw [Paired.len rx]; exact e1, p G _ _ e3 S2 (RW.ext e3 (rd_ok S e2))⟩
      · exact p.elim
    · exact p.elim
  · rename_i i k
    obtain ⟨a, rfl, hi⟩ := r1
    cases r2 with
    | @cons y _ _ _ r2 r3 =>
      cases r3
      have r2 : RV X.K G.F H y (.int k) := r2
      cases r2
      split at p
      · rename_i us ho
        obtain ⟨nF, zs, hx, rx⟩ := S.obj i a _ hi ho
        split at p
        · rename_i hk
          split at p
          · rename_i j hj
            split at p
            · rename_i w hw
              obtain ⟨y, e1, e2⟩ := RWs.get rx hw
              obtain ⟨S2, e3⟩ := write_lst S hi ho (Paired.eraseIdx j rx)
              exact .inr ⟨a, zs, k, j, y, rfl, rfl, hx, by omega, by omega, by rw [Paired.len rx]; exact hj, e1, p G _ _ e3 S2 (RW.ext e3 (rd_ok S e2))⟩
            · exact p.elim
          · exact p.elim
        · exact p.elim
      · exact p.elim
  · exact p.elim
def vExtend : MF := fun v vs M => match v, vs with
  | .obj i, [w] => match M[i]?, trackD w M with
    | some (.lst us), some ds => if us.length + ds.length ≤ 16777216 then .ok (.d .none) (M.set i (.lst (us ++ ds.map .d))) else .bad
    | _, _ => .bad
  | _, _ => .bad
def vInsert : MF := fun v vs M => match v, vs with
  | .obj i, [.d (.int k), w] => match M[i]? with
    | some (.lst us) => if us.length < 16777216 ∧ 0 ≤ k ∧ k < 9223372036854775808 then .ok (.d .none) (M.set i (.lst (us.take k.toNat ++ [w] ++ us.drop k.toNat))) else .bad
    | _ => .bad
  | _, _ => .bad
theorem mz_insert : MtZ X (fun x vs H Q => ∃ (l : Addr) (xs : List V) (i : Int) (y : V), x = .ref l ∧ vs = [.int i, y] ∧ H l = some (.lst xs) ∧ xs.length < sizeLine ∧ 0 ≤ i ∧ i < 2 ^ 63 ∧
    Q .non (upd H l (.lst (xs.take i.toNat ++ [y] ++ xs.drop i.toNat)))) vInsert := by
  intro W G M σ H Q x v xs vs S r1 r2 p
  unfold vInsert at p
  split at p
  · rename_i i k w
    obtain ⟨a, rfl, hi⟩ := r1
    cases r2 with
    | @cons y _ _ _ r2 r3 =>
      cases r3 with
      | @cons z _ _ _ r3 r4 =>
        cases r4
        have r2 : RV X.K G.F H y (.int k) := r2
        cases r2
        split at p
        · rename_i us ho
          obtain ⟨nF, zs, hx, rx⟩ := S.obj i a _ hi ho
          split at p
          · rename_i hk
            obtain ⟨S2, e3⟩ := write_lst S hi ho (Paired.app (Paired.app (Paired.take k.toNat rx) (.cons r3 .nil)) (Paired.drop k.toNat rx))
            exact ⟨a, zs, k, z, rfl, rfl, hx, by rw [Paired.len rx]; exact hk.1, hk.2.1, by have := hk.2.2; omega, p G _ _ e3 S2 RV.non⟩
          · exact p.elim
        · exact p.elim
  · exact p.elim

/-! ### o[i] = v -/
abbrev SetF := Val → Val → Val → Mm → Option Mm
def SetZ (X : Cx) (t : TSet) (f : SetF) : Prop := ∀ (G : Gh) (M : Mm) (H : Hp) (Q : Hp → Prop) (o i x : V) (vo vi v : Val), SimM X.K X.mg G M H → RW X.K X.mg G H o vo → RW X.K X.mg G H i vi → RW X.K X.mg G H x v →
  (match f vo vi v M with
    | some M' => ∀ G' H', Ext G H G' H' → SimM X.K X.mg G' M' H' → Q H'
    | none => False) → t o i x H Q
def gSet (mo mi : EM) (f : SetF) : GM := fun v s M => match mo s M with
  | .ok o M1 => match mi s M1 with
    | .ok i M2 => (f o i v M2).map fun M3 => (s, M3)
    | _ => none
  | _ => none
theorem sg_sub {o i : Expr} {mo mi : EM} {t : TSet} {f : SetF} (ho : ∀ W, SE X W o mo) (hi : ∀ W, SE X W i mi) (hs : PSet X t) (z : SetZ X t f)
    (ha : ∀ v, assign (.Subscript o i pos) X.env v = (do
      let ov ← holding [v] (eval o X.env)
      let iv ← holding [v, ov] (eval i X.env)
      standAt pos
      holding [v, ov, iv] (setItem ov iv v)
      release [v, ov, iv] []) := by intro _; rfl) : SG X (.Subscript o i pos) (gSet mo mi f) := by
  refine ⟨pgImp (pg_sub (ho fun _ _ _ _ => False).pe (hi fun _ _ _ _ => False).pe hs ha) fun x σ H Q ⟨G, s, M, v, S, N, r, p⟩ => ?_⟩
  unfold gSet at p
  refine ⟨G, s, M, S, N, ?_⟩
  cases q : mo s M with
  | bad => rw [q] at p; exact p.elim
  | er _ _ => rw [q] at p; exact p.elim
  | ok vo M1 =>
    rw [q] at p
    refine fun G1 H1 xo e1 S1 r1 => ⟨G1, s, M1, S1, N.ext e1, ?_⟩
    dsimp only at p
    cases q2 : mi s M1 with
    | bad => rw [q2] at p; exact p.elim
    | er _ _ => rw [q2] at p; exact p.elim
    | ok vi M2 =>
      rw [q2] at p
      dsimp only at p
      refine fun G2 H2 xi e2 S2 r2 => z G2 M2 H2 _ xo xi x vo vi v S2 (RW.ext e2 r1) r2 (RW.ext (e1.trans e2) r) ?_
      cases q3 : f vo vi v M2 with
      | none => rw [q3] at p; exact p.elim
      | some M3 => rw [q3] at p; exact fun G3 H3 e3 S3 => p G3 H3 σ ((e1.trans e2).trans e3) S3 (((N.ext e1).ext e2).ext e3)
def vSetL : SetF := fun o i v M => match o, i with
  | .obj j, .d (.int k) => match M[j]? with
    | some (.lst vs) => match ixN vs.length k with
      | some n => some (M.set j (.lst (vs.set n v)))
      | none => none
    | _ => none
  | _, _ => none
theorem sz_list : SetZ X rSetL vSetL := by
  intro G M H Q o i x vo vi v S r1 r2 r3 p
  unfold vSetL at p
  split at p
  · rename_i M' e
    split at e
    · rename_i j k
      obtain ⟨a, rfl, hj⟩ := r1
      have r2 : RV X.K G.F H i (.int k) := r2
      cases r2
      split at e
      · rename_i vs ho
        obtain ⟨nF, zs, hx, rx⟩ := S.obj j a _ hj ho
        split at e
        · rename_i n hn
          cases e
          obtain ⟨S2, e3⟩ := write_lst S hj ho (Paired.setP r3 n rx)
          exact ⟨a, zs, k, n, rfl, rfl, hx, by rw [Paired.len rx]; exact hn, p G _ e3 S2⟩
        · cases e
      · cases e
    · cases e
  · exact p.elim
end
end Zm
namespace Zm
open PySem PySem.Spec PyProof.Rows L2

/-! ### enumerate of a tuple -/
set_option maxHeartbeats 1000000 in
theorem meets_enum1 {v : Value} {o : Obj} {H : Heap → Prop} (B : Begins v o H) :
    Meets (Builtin.«enumerate.__new__» ⟨[.type "enumerate", v], []⟩) (fun _ R s => H s.heap ∧
      R (.ok (.ret (.ref (s.heap.push o).objs.size))) { s with heap := (s.heap.push o).push { cls := .type "enumerate", data := .fields #[.none, .bool false, .ref s.heap.objs.size, rawInt 0, .none, .none] } }) := by
  refine Meets.of_wp fun prog w A R s h => ?_
  obtain ⟨hp, g, d, tk, os⟩ := s
  obtain ⟨h1, h⟩ := h
  have hsub := sub_enumerate
  have beg : ∀ {A' : Around} {E : Value → Shared → Prop} {Q : Value → Shared → Prop}, Q (.ref hp.objs.size) ⟨hp.push o, g, d, tk, os⟩ → wpAny (model prog w) A' (pyIter v) Q E ⟨hp, g, d, tk, os⟩ := by
    intro A' E Q q
    exact B.iter prog w _ _ ⟨hp, g, d, tk, os⟩ _ h1 q
  wp_walk using beg
  refine wpAny_stack_any fun st => wpAny_pure ?_
  split
  · rename_i c _ _ _ _ _
    cases (c == Value.type "enumerate") <;> (wp_walk using beg; exact ⟨_, rfl, h⟩)
  · wp_walk using beg
    exact ⟨_, rfl, h⟩
section
variable {prog : Program} {w : World} {A : Around} {E : Value → Shared → Prop} {s : Shared}
theorem call_enum1 {v : Value} {o : Obj} {H : Heap → Prop} {Q : Value → Shared → Prop} (B : Begins v o H) (h1 : H s.heap)
    (h : ∀ h', IsEnum h' (s.heap.objs.size + 1) s.heap.objs.size 0 .none → h'.get? s.heap.objs.size = some o → (∀ b o, s.heap.get? b = some o → h'.get? b = some o) → Q (.ref (s.heap.objs.size + 1)) { s with heap := h' }) :
    wpAny (model prog w) A (call (.type "enumerate") [v]) Q E s := by
  refine callType_new F.called_enumerate (by decide) (F.typeCall_enumerate_1 _) (F.newCall_enumerate_1 _) (fun obj => F.args_object_init_2 obj _) F.entry_enumerate_new (meets_enum1 B) ⟨h1, ?_⟩
  have hz : (s.heap.push o).objs.size = s.heap.objs.size + 1 := Heap.size_push ..
  show _ ∧ _
  rw [hz]
  have he : IsEnum ((s.heap.push o).push { cls := .type "enumerate", data := .fields #[.none, .bool false, .ref s.heap.objs.size, rawInt 0, .none, .none] }) (s.heap.objs.size + 1) s.heap.objs.size 0 .none := by
    have q := Heap.get?_push_size (s.heap.push o) (o := { cls := .type "enumerate", data := .fields #[.none, .bool false, .ref s.heap.objs.size, rawInt 0, .none, .none] }) rfl
    rw [hz] at q
    exact q
  exact ⟨⟨_, he, rfl⟩, h _ he (Heap.get?_push_of_some _ (Heap.get?_push_size _ B.free)) fun b o x => Heap.get?_push_of_some _ (Heap.get?_push_of_some _ x)⟩
end
/-- the tuple at a, each item with its place in a new pair -/
def IteT (K : PySem.W.Frag) (a : Addr) : It :=
  ⟨fun i H => ∃ (xs : List V) (x : V), SqT K H a xs ∧ xs[i]? = some x, fun i H v H' => ∃ T x, v = .ref T ∧ H T = none ∧ H' = upd H T (.tup [.int (i : Nat), x]) ∧ ∀ xs, SqT K H a xs → xs[i]? = some x,
    fun i H => ∃ xs : List V, SqT K H a xs ∧ xs.length = i⟩
theorem turn_enumT {P : Program} {w : World} {K : PySem.W.Frag} {elts : List Expr} {kk : Nat} {tpos : Pos} (a e it : Addr) :
    Turn P w K (.Tuple elts kk tpos) (IteT K a) [e, it] e (fun i h => (∃ old, IsEnum h e it ((i : Nat) : Int) old) ∧ h.IsTupleIter it a i ∧ e ≠ it) where
  mem := by simp
  obj := by
    rintro i h ⟨⟨old, he⟩, ⟨o, ho, hc, hd⟩, _⟩ b hb
    have e' : b = e ∨ b = it := by simpa using hb
    rcases e' with rfl | rfl
    · exact ⟨_, he, fun v q => nomatch q⟩
    · exact ⟨o, ho, fun v q => by rw [hd] at q; cases q⟩
  keep := fun i h h' st k => let ⟨⟨old, he⟩, hi, hne⟩ := st; ⟨⟨old, k e (by simp) _ he⟩, hi.at fun o q => k it (by simp) o q, hne⟩
  item := by
    intro X hP hw hK hc i pins s σ H E I hf st hg
    subst hP hw hK
    obtain ⟨⟨old, he⟩, hit, hne⟩ := st
    obtain ⟨xs, x, hq, hx⟩ := hg
    obtain ⟨its, rv, p, hz⟩ := I.tuple hq
    obtain ⟨u, hu, ru⟩ := rv.get hx
    have hti : a ≠ it := by
      intro z
      obtain ⟨o, ho, hc', _⟩ := hit
      obtain ⟨o', ho', hc2, _⟩ := p
      rw [z, ho] at ho'
      cases ho'
      rw [hc'] at hc2
      exact absurd (Value.type.inj hc2) (by decide)
    have hte : e ≠ a := by
      intro z
      obtain ⟨o', ho', hc2, _⟩ := p
      have he' : s.heap.get? e = _ := he
      rw [z, ho'] at he'
      cases he'
      exact absurd (Value.type.inj hc2) (by decide)
    have hel : e < s.heap.objs.size := Heap.lt_size he
    have hil : it < s.heap.objs.size := by obtain ⟨_, q, _⟩ := hit; exact Heap.lt_size q
    have D := Draws.tuple (prog := X.prog) (w := X.w) (A := X.A.in1) (show X.A.in1.handled = none from I.ok.hd hc) it a hti its.toArray
    have hlt : i < its.toArray.size := by
      have := (List.getElem?_eq_some_iff.mp hu).1
      simpa using this
    refine wpAny_pyNext_enum_itemD D he ⟨hit, p⟩ hlt hne (by simp [hne, hte]) fun y h' tk hy ho hst hT hsz hk => ?_
    have ey : y = u := by
      have hy : its.toArray[i]? = some y := hy
      have : its[i]? = some y := by simpa using hy
      rw [hu] at this
      exact (Option.some.inj this).symm
    subst ey
    refine ⟨_, rfl, wpAny_letOwnedTupleGo_enum (s := { s with heap := h', toks := tk + 1 }) ho fun h'' he' sb => ?_⟩
    have hT2 : h''.get? s.heap.objs.size = some { cls := .type "tuple", data := .seq #[.int i tk, y] } := (sb.2 _ (Nat.ne_of_gt hel)).trans hT
    have new : ObjOk X.prog X.w (upd H s.heap.objs.size (.tup [.int (i : Nat), x])) h'' s.heap.objs.size (.tup [.int (i : Nat), x]) :=
      ⟨by show 2 ≤ sizeLine; decide, [.int i tk, y], .cons ⟨_, rfl⟩ (.cons ru .nil), ⟨_, hT2, rfl, _, rfl⟩⟩
    have I1 : Inv X pins σ (upd H s.heap.objs.size (.tup [.int (i : Nat), x])) { s with heap := h'', toks := tk + 1 } := by
      refine I.turnedNew (ch := [e, it]) (fun b ob hb q => ?_) hf (Nat.le_refl _) new
      exact (sb.2 b (fun z => hb (by simp [z]))).trans (hk b ob (fun z => hb (by simp [z])) (fun z => hb (by simp [z])) q)
    refine ⟨.ref s.heap.objs.size, _, I1, rfl, ⟨_, x, rfl, I.hok.fresh (Nat.le_refl _), rfl, fun ys hy => by rw [I.tuple_inj hy hq]; exact hx⟩, ⟨⟨y, ?_⟩, hst.1.at fun o q => (sb.2 it (Ne.symm hne)).trans q, hne⟩, fun b hb => ?_⟩
    · have e1 : ((i + 1 : Nat) : Int) = (i : Int) + 1 := by omega
      rw [e1]; exact he'
    · have hb' : b < s.heap.objs.size := by
        have e' : b = e ∨ b = it := by simpa using hb
        rcases e' with rfl | rfl
        · exact hel
        · exact hil
      rw [upd_ne (Nat.ne_of_lt hb')]
      exact (hf b hb).1
  done := by
    intro X hP hw hK hc i pins s σ H E I hf st hg
    subst hP hw hK
    obtain ⟨⟨old, he⟩, hit, hne⟩ := st
    obtain ⟨xs, hq, hx⟩ := hg
    obtain ⟨its, rv, p, hz⟩ := I.tuple hq
    obtain ⟨f0, f1, f2, f3, f4, f5⟩ := hf it (by simp)
    have hl := rv.length
    have hti : a ≠ it := by
      intro z
      obtain ⟨o, ho, hc', _⟩ := hit
      obtain ⟨o', ho', hc2, _⟩ := p
      rw [z, ho] at ho'
      cases ho'
      rw [hc'] at hc2
      exact absurd (Value.type.inj hc2) (by decide)
    have D := Draws.tuple (prog := X.prog) (w := X.w) (A := X.A.in1) (show X.A.in1.handled = none from I.ok.hd hc) it a hti its.toArray
    have ei : i = its.toArray.size := by simp; omega
    exact wpAny_pyNext_enum_endD D he (by rw [← ei]; exact ⟨hit, p⟩) fun h' eb => ⟨rfl, I.turned (t' := s.toks) (fun b o hb q => eb b o hb q) f0 f1 f3 f4 f5⟩
  self := fun A i s Q E st h => let ⟨⟨_, he⟩, _⟩ := st; wpAny_pyIter_enum he h
def iEnumT (K : PySem.W.Frag) (ta : TA) : TI := fun σ H R => ta σ H fun vs H1 => ∃ a xs, vs = [.ref a] ∧ SqT K H1 a xs ∧ R (IteT K a) H1
theorem pi_enumT {X : Cx} {e : Expr} {ta : TA} {p pos tpos : Pos} {elts : List Expr} {kk : Nat} (hg : Gl X "enumerate") (hm : X.mg "enumerate" = none) (ha : PA X [e] ta) (hs : starEach [e] X.env = [(false, eval e X.env)] := by rfl) :
    PI X (.Tuple elts kk tpos) (.Call (.Name "enumerate" p) [e] [] pos) (iEnumT X.K ta) := by
  refine ⟨fun pins s σ H R I h => ?_⟩
  refine Call_ (ld_blt I hg hm boot_enumerate (PyProof.Rows.callWith_type1 (thn (ha.run pos pins s σ H _ I h) fun us s1 ⟨vs, H1, I1, r1, a, xs, ex, hq, q⟩ => ?_) hs rfl))
  subst ex
  cases r1 with
  | cons r rr =>
    cases rr
    cases r
    obtain ⟨its, rv, p', hz⟩ := I1.tuple hq
    refine call_enum1 (begins_tuple a its.toArray) p' fun h' he hit hk => wpAny_pyIter_enum he ?_
    have I2 : Inv X pins σ H1 { s1 with heap := h' } := I1.kept (t' := s1.toks) hk
    refine ⟨s1.heap.objs.size + 1, [s1.heap.objs.size + 1, s1.heap.objs.size], _, _, H1, rfl, I2, turn_enumT a (s1.heap.objs.size + 1) s1.heap.objs.size, ⟨⟨.none, he⟩, ⟨_, hit, rfl, rfl⟩, Nat.succ_ne_self _⟩, fun b hb => ?_, q⟩
    have e' : b = s1.heap.objs.size + 1 ∨ b = s1.heap.objs.size := by simpa using hb
    have hle : s1.heap.objs.size ≤ b := by
      rcases e' with z | z
      · rw [z]; exact Nat.le_add_right _ _
      · rw [z]; exact Nat.le_refl _
    exact I1.fpOk hle (I1.hok.fresh hle)

/-! ### what is walked, by values -/
section
variable {X : Cx} {W : WX}
theorem goes_list {K : PySem.W.Frag} {mg : Str → Option Value} {G : Gh} {H : Hp} {a : Addr} {xs : List V} {ds : List PyData} (hF : G.F a) (hx : H a = some (.lst xs)) (r : RVs K G.F H xs ds) : Goes K mg G H (Itl K a) (ds.map .d) := by
  intro G' H' e
  have hs : SqL K H' a xs := SqL.of (by rw [(e.fix a hF).2]; exact hx)
  have r' := RVs.ext e _ _ r
  refine ⟨fun i hi => ?_, ⟨xs, hs, by rw [List.length_map, r.len]; exact Nat.le_refl _⟩, fun i v hv M' S' x H'' ⟨e1, hy⟩ => ?_⟩
  · have hi' : i < xs.length := by rw [r.len]; simpa using hi
    exact ⟨xs, xs[i], hs, List.getElem?_eq_getElem hi'⟩
  · subst e1
    obtain ⟨x', e2, e3⟩ := RWs.get (RVs.rws r') hv
    have := hy xs hs
    rw [this] at e2
    cases e2
    exact ⟨G', .refl, S', e3⟩
theorem goes_scr {K : PySem.W.Frag} {mg : Str → Option Value} {G : Gh} {H : Hp} {a : Addr} {ns : List Int} (h : Scr K H a (ns.map V.int)) : Goes K mg G H (Itl K a) (ns.map fun n => .d (.int n)) := by
  intro G' H' e
  have hs : SqL K H' a (ns.map V.int) := (Scr.ext e h).sql
  refine ⟨fun i hi => ?_, ⟨_, hs, by simp⟩, fun i v hv M' S' x H'' ⟨e1, hy⟩ => ?_⟩
  · have hi' : i < (ns.map V.int).length := by simpa using hi
    exact ⟨_, _, hs, List.getElem?_eq_getElem hi'⟩
  · subst e1
    have h1 := hy _ hs
    rw [List.getElem?_map] at h1 hv
    cases q : ns[i]? with
    | none => rw [q] at hv; cases hv
    | some n =>
      rw [q] at h1 hv
      cases h1; cases hv
      exact ⟨G', .refl, S', RV.int n⟩
theorem goes_tup {K : PySem.W.Frag} {mg : Str → Option Value} {G : Gh} {H : Hp} {a : Addr} {xs : List V} {ds : List PyData} (hx : SqT K H a xs) (r : RVs K G.F H xs ds) : Goes K mg G H (Itt K a) (ds.map .d) := by
  intro G' H' e
  have hs : SqT K H' a xs := SqT.ext e hx
  have r' := RVs.ext e _ _ r
  refine ⟨fun i hi => ?_, ⟨xs, hs, by rw [List.length_map, r.len]; exact Nat.le_refl _⟩, fun i v hv M' S' x H'' ⟨e1, hy⟩ => ?_⟩
  · have hi' : i < xs.length := by rw [r.len]; simpa using hi
    exact ⟨xs, xs[i], hs, List.getElem?_eq_getElem hi'⟩
  · subst e1
    obtain ⟨x', e2, e3⟩ := RWs.get (RVs.rws r') hv
    have := hy xs hs
    rw [this] at e2
    cases e2
    exact ⟨G', .refl, S', e3⟩
theorem si_seq {tg e : Expr} {m : EM} (h : SE X W e m) (hL : PI X tg e (iList X.K (TEm X.K X.mg W m))) (hT : PI X tg e (iTup X.K (TEm X.K X.mg W m))) : SI X W tg e (mIt m) := by
  refine ⟨piImp (piOr hL hT) fun σ H R ⟨G, s, M, S, N, p⟩ => ?_⟩
  unfold mIt at p
  cases q : m s M with
  | bad => rw [q] at p; exact p.elim
  | er y M' => rw [q] at p; exact .inl ⟨G, s, M, S, N, by rw [q]; exact p⟩
  | ok v M1 =>
    rw [q] at p
    replace p : Post X.K X.mg W G σ H (fun G' H' J vs => Goes X.K X.mg G' H' J vs) R (itK v M1) := p
    unfold itK at p
    split at p
    · rename_i ds
      refine .inl ⟨G, s, M, S, N, ?_⟩
      rw [q]
      intro G1 H1 x e1 S1 r1
      have r1 : RV X.K G1.F H1 x (.list ds) := r1
      cases r1 with
      | lst h0 h1 h2 => exact ⟨_, rfl, ⟨_, SqL.of h1⟩, p G1 H1 _ e1 S1 (goes_list h0 h1 h2)⟩
    · rename_i ds
      refine .inr ⟨G, s, M, S, N, ?_⟩
      rw [q]
      intro G1 H1 x e1 S1 r1
      have r1 : RV X.K G1.F H1 x (.tuple ds) := r1
      cases r1 with
      | tup h1 h2 => exact ⟨_, rfl, ⟨_, SqT.of h1⟩, p G1 H1 _ e1 S1 (goes_tup (SqT.of h1) h2)⟩
    · rename_i ns
      refine .inl ⟨G, s, M, S, N, ?_⟩
      rw [q]
      intro G1 H1 x e1 S1 ⟨a, ex, h1⟩
      exact ⟨a, ex, ⟨_, h1.sql⟩, p G1 H1 _ e1 S1 (goes_scr h1)⟩
    · exact p.elim
def pairs0 (ds : List PyData) : List Val := ds.zipIdx.map fun p => .d (.tuple [.int (p.2 : Nat), p.1])
def enumK (vs : List Val) (M1 : Mm) : Out (List Val) := match vs with
  | [.d (.list ds)] => .ok (pairs0 ds) M1
  | [.d (.tuple ds)] => .ok (pairs0 ds) M1
  | _ => .bad
def mEnum (ms : AM) : AM := fun s M => (ms s M).bind enumK
theorem goes_enum {K : PySem.W.Frag} {mg : Str → Option Value} {G : Gh} {H : Hp} {J : It} {xs : List V} {ds : List PyData} (r : RVs K G.F H xs ds)
    (hgo : ∀ G' H', Ext G H G' H' → ∀ i, i < xs.length → J.go i H') (hst : ∀ G' H', Ext G H G' H' → J.stop xs.length H')
    (hy : ∀ G' H', Ext G H G' H' → ∀ i v H'', J.yld i H' v H'' → ∃ T x, v = .ref T ∧ H' T = none ∧ H'' = upd H' T (.tup [.int (i : Nat), x]) ∧ xs[i]? = some x) : Goes K mg G H J (pairs0 ds) := by
  intro G' H' e
  have r' := RVs.ext e _ _ r
  have hl : (pairs0 ds).length = xs.length := by simp [pairs0, r.len]
  refine ⟨fun i hi => hgo G' H' e i (by rw [← hl]; exact hi), by rw [hl]; exact hst G' H' e, fun i v hv M' S' x H'' y => ?_⟩
  obtain ⟨T, z, rfl, hT, rfl, hz⟩ := hy G' H' e i x H'' y
  obtain ⟨S2, e2⟩ := S'.lay (o := .tup [.int (i : Nat), z]) hT
  refine ⟨G', e2, S2, ?_⟩
  unfold pairs0 at hv
  rw [List.getElem?_map, List.getElem?_zipIdx] at hv
  cases q : ds[i]? with
  | none => rw [q] at hv; cases hv
  | some d =>
    rw [q] at hv
    obtain ⟨x', e3, e4⟩ := RVs.get r' q
    rw [hz] at e3
    cases e3
    have : v = .d (.tuple [.int ((0 + i : Nat) : Int), d]) := by simpa using hv.symm
    subst this
    rw [Nat.zero_add]
    exact RV.tup upd_same (.cons (.int _) (.cons (RV.ext e2 _ _ e4) .nil))
theorem si_enum {tg e : Expr} {ms : AM} (h : SA X W [e] ms) (hL : PI X tg i_ (iEnum X.K (TAm X.K X.mg W ms))) (hT : PI X tg i_ (iEnumT X.K (TAm X.K X.mg W ms))) : SI X W tg i_ (mEnum ms) := by
  refine ⟨piImp (piOr hL hT) fun σ H R ⟨G, s, M, S, N, p⟩ => ?_⟩
  unfold mEnum at p
  cases q : ms s M with
  | bad => rw [q] at p; exact p.elim
  | er y M' => rw [q] at p; exact .inl ⟨G, s, M, S, N, by rw [q]; exact p⟩
  | ok vs M1 =>
    rw [q] at p
    replace p : Post X.K X.mg W G σ H (fun G' H' J vs => Goes X.K X.mg G' H' J vs) R (enumK vs M1) := p
    unfold enumK at p
    split at p
    · rename_i ds
      refine .inl ⟨G, s, M, S, N, ?_⟩
      rw [q]
      intro G1 H1 x e1 S1 r1
      cases r1 with
      | cons r1 r2 =>
        cases r2
        have r1 : RV X.K G1.F H1 _ (.list ds) := r1
        cases r1 with
        | @lst a xs _ h0 h1 h2 =>
          have hs : ∀ G' H', Ext G1 H1 G' H' → SqL X.K H' a xs := fun G' H' e => SqL.of (by rw [(e.fix a h0).2]; exact h1)
          refine ⟨_, _, rfl, SqL.of h1, p G1 H1 _ e1 S1 (goes_enum h2 (fun G' H' e i hi => ⟨xs, xs[i], hs G' H' e, List.getElem?_eq_getElem hi⟩) (fun G' H' e => ⟨xs, hs G' H' e, Nat.le_refl _⟩) fun G' H' e i v H'' ⟨T, z, e1, e2, e3, e4⟩ => ⟨T, z, e1, e2, e3, e4 _ (hs G' H' e)⟩)⟩
    · rename_i ds
      refine .inr ⟨G, s, M, S, N, ?_⟩
      rw [q]
      intro G1 H1 x e1 S1 r1
      cases r1 with
      | cons r1 r2 =>
        cases r2
        have r1 : RV X.K G1.F H1 _ (.tuple ds) := r1
        cases r1 with
        | @tup a xs _ h1 h2 =>
          have hs : ∀ G' H', Ext G1 H1 G' H' → SqT X.K H' a xs := fun G' H' e => SqT.ext e (SqT.of h1)
          refine ⟨_, _, rfl, SqT.of h1, p G1 H1 _ e1 S1 (goes_enum h2 (fun G' H' e i hi => ⟨xs, xs[i], hs G' H' e, List.getElem?_eq_getElem hi⟩) (fun G' H' e => ⟨xs, hs G' H' e, rfl⟩) fun G' H' e i v H'' ⟨T, z, e1, e2, e3, e4⟩ => ⟨T, z, e1, e2, e3, e4 _ (hs G' H' e)⟩)⟩
    · exact p.elim
/-- range -/
def rangeL (lo : Int) (n : Nat) : List Val := (List.range n).map fun i => .d (.int (lo + (i : Nat)))
def smallR (i : Int) : Bool := decide (-4611686018427387904 ≤ i) && decide (i < 4611686018427387904)
def range1 (vs : List Val) (M1 : Mm) : Out (List Val) := match vs with
  | [.d (.int j)] => if smallR j then .ok (rangeL 0 j.toNat) M1 else .bad
  | _ => .bad
def range2 (vs : List Val) (M1 : Mm) : Out (List Val) := match vs with
  | [.d (.int i), .d (.int j)] => if smallR i && smallR j then .ok (rangeL i (j - i).toNat) M1 else .bad
  | _ => .bad
def mRange1 (ms : AM) : AM := fun s M => (ms s M).bind range1
def mRange2 (ms : AM) : AM := fun s M => (ms s M).bind range2
theorem smallR_ok {i : Int} (h : smallR i = true) : -(2 ^ 62) ≤ i ∧ i < 2 ^ 62 := by
  unfold smallR at h
  rw [Bool.and_eq_true, decide_eq_true_eq, decide_eq_true_eq] at h
  exact ⟨by have := h.1; omega, by have := h.2; omega⟩
theorem goes_range {K : PySem.W.Frag} {mg : Str → Option Value} {G : Gh} {H : Hp} (lo : Int) (n : Nat) : Goes K mg G H (Itr lo n) (rangeL lo n) := by
  intro G' H' e
  refine ⟨fun i hi => by simpa [rangeL, Itr] using hi, by simp [rangeL, Itr], fun i v hv M' S' x H'' ⟨e1, e2⟩ => ?_⟩
  subst e1 e2
  unfold rangeL at hv
  rw [List.getElem?_map, List.getElem?_range] at hv
  · have : v = .d (.int (lo + (i : Nat))) := by simpa using hv.symm
    subst this
    exact ⟨G', .refl, S', RV.int _⟩
  · by_cases hi : i < n
    · exact hi
    · have : (List.range n)[i]? = none := List.getElem?_eq_none_iff.mpr (by simpa using Nat.le_of_not_lt hi)
      rw [this] at hv
      cases hv
theorem si_range1 {tg i_ : Expr} {ms : AM} (h : PI X tg i_ (iRng1 (TAm X.K X.mg W ms))) : SI X W tg i_ (mRange1 ms) := by
  refine ⟨piImp h fun σ H R ⟨G, s, M, S, N, p⟩ => ⟨G, s, M, S, N, Post.bind p fun vs M1 G1 H1 xs e1 S1 r1 p1 => ?_⟩⟩
  unfold range1 at p1
  split at p1
  · rename_i j
    cases r1 with
    | cons r1 r2 =>
      cases r2
      have r1 : RV X.K G1.F H1 _ (.int j) := r1
      cases r1
      split at p1
      · rename_i hj
        exact ⟨j, rfl, (smallR_ok hj).1, (smallR_ok hj).2, p1 G1 H1 _ .refl S1 (goes_range 0 _)⟩
      · exact p1.elim
  · exact p1.elim
end
end Zm
namespace Zm
open PySem PySem.Spec PyProof.Rows L2

section
variable {K : PySem.W.Frag} {mg : Str → Option Value} {G G' : Gh} {H H' : Hp} {M : Mm}
theorem Ext.side (e : Ext G H G' H') {p : Addr} {o : HO} (hp : H p = none) (hF : ¬ G.F p) : Ext G H G' (upd H' p o) := by
  have ne : ∀ a, H a ≠ none → a ≠ p := fun a h z => h (z ▸ hp)
  refine ⟨⟨e.φ, fun a xs h => ?_, fun a q u h => ?_, fun a h => ?_⟩, fun a h h2 => ?_, e.φnew, e.Fnew⟩
  · rw [upd_ne (ne a (by rw [h]; simp))]; exact e.tup a xs h
  · rw [upd_ne (ne a (by rw [h]; simp))]; exact e.frz a q u h
  · have z : a ≠ p := fun z => hF (z ▸ h)
    rw [upd_ne z]; exact e.fix a h
  · rw [upd_ne (ne a h)]; exact e.keep a h h2
theorem ext0_side {p : Addr} {o : HO} (hF : ¬ G.F p) (ht : ∀ xs, H p ≠ some (.tup xs)) (hz : ∀ q u, H p ≠ some (.frz q u)) : Ext0 G H G (upd H p o) := by
  refine ⟨⟨[], by simp⟩, fun a xs h => ?_, fun a q u h => ?_, fun a h => ⟨h, ?_⟩⟩
  · rw [upd_ne (fun z => ht xs (by rw [← z]; exact h))]; exact h
  · rw [upd_ne (fun z => hz q u (by rw [← z]; exact h))]; exact h
  · exact upd_ne (fun z => hF (by rw [← z]; exact h))
theorem SimM.side (S : SimM K mg G M H) {p : Addr} {o : HO} (hp : p ∉ G.φ) (hF : ¬ G.F p) (ht : ∀ xs, H p ≠ some (.tup xs)) (hz : ∀ q u, H p ≠ some (.frz q u)) : SimM K mg G M (upd H p o) := by
  have e := ext0_side (o := o) hF ht hz
  refine S.grow e rfl (fun a h => upd_ne fun z => hp (z ▸ h)) (fun _ _ h => h) fun a h => ?_
  rw [(e.fix a h).2]
  exact S.fthere a h
end
def wipeS (s : Sl) : List Nat → Sl
  | [] => s
  | i :: is => (wipeS s is).set i none
theorem simS_wipe {K : PySem.W.Frag} {G : Gh} {s : Sl} {σ : L2.St} {H : Hp} (N : SimS K mg G s σ H) : ∀ is, SimS K mg G (wipeS s is) (wipe σ is) H
  | [] => N
  | i :: is => by
    have ih := simS_wipe N is
    unfold wipeS wipe
    refine ⟨by simp [ih.len], fun j v q => ?_⟩
    by_cases hj : i = j
    · subst hj
      by_cases hl : i < (wipeS s is).length
      · rw [List.getElem?_set_self hl] at q; cases q
      · have : ((wipeS s is).set i none)[i]? = none := List.getElem?_eq_none_iff.mpr (by rw [List.length_set]; omega)
        rw [this] at q; cases q
    · rw [List.getElem?_set_ne hj] at q
      obtain ⟨x, a, b⟩ := ih.at_ j v q
      exact ⟨x, by rw [List.getElem?_set_ne hj]; exact a, b⟩
/-- no exception leaves -/
def Out.noer {α : Type} (o : Out α) : Out α := match o with
  | .er _ _ => .bad
  | o => o
/-- the turns of a comprehension -/
def compL (g : GM) (t : TM) (e : EM) (s0 : Sl) : List Val → Mm → Out (List Val)
  | [], M => .ok [] M
  | v :: vs, M => match g v s0 M with
    | some (s1, M1) => (t s1 M1).noer.bind fun b M2 => if b = true then (e s1 M2).noer.bind fun y M3 => (compL g t e s0 vs M3).bind fun r M4 => .ok (y :: r) M4 else compL g t e s0 vs M2
    | none => .bad
theorem compL_noer {g : GM} {t : TM} {e : EM} {s0 : Sl} : ∀ (vs : List Val) (M : Mm) (x : Exc) (M' : Mm), compL g t e s0 vs M ≠ .er x M'
  | [], M, x, M' => fun h => by cases h
  | v :: vs, M, x, M' => by
    unfold compL
    cases g v s0 M with
    | none => exact fun h => by cases h
    | some q =>
      obtain ⟨s1, M1⟩ := q
      dsimp only
      cases t s1 M1 with
      | bad => exact fun h => by cases h
      | er _ _ => exact fun h => by cases h
      | ok b M2 =>
        cases b with
        | false => exact compL_noer vs M2 x M'
        | true =>
          show ((e s1 M2).noer.bind fun y M3 => (compL g t e s0 vs M3).bind fun r M4 => Out.ok (y :: r) M4) ≠ _
          cases e s1 M2 with
          | bad => exact fun h => by cases h
          | er _ _ => exact fun h => by cases h
          | ok y M3 =>
            show ((compL g t e s0 vs M3).bind fun r M4 => Out.ok (y :: r) M4) ≠ _
            have ih := compL_noer (g := g) (t := t) (e := e) (s0 := s0) vs M3 x M'
            cases q : compL g t e s0 vs M3 with
            | bad => exact fun h => by cases h
            | er a b =>
              rw [q] at ih
              exact ih
            | ok r M4 => exact fun h => by cases h
/-- a comprehension; k: what becomes of the list (lcK: by value, lcN: at a place) -/
def mComp (k : List Val → Mm → Out Val) (it : AM) (g : GM) (t : TM) (e : EM) (own : List Nat) : EM := fun s M => (it s M).bind fun vs M1 => (compL g t e (wipeS s own) vs M1).bind k
/-- the target of a comprehension stores its own names alone -/
def OwnG (g : TG) (vs : List Nat) : Prop := ∀ x σ H Q, g x (wipe σ vs) H Q → g x (wipe σ vs) H fun σ2 H2 => wipe σ2 vs = wipe σ vs ∧ Q σ2 H2
abbrev W0 : WX := fun _ _ _ _ => False
theorem wipe_set {σ : L2.St} {i : Nat} {v : Option V} : ∀ {vs : List Nat}, i ∈ vs → wipe (σ.set i v) vs = wipe σ vs
  | [], h => by cases h
  | j :: vs, h => by
    unfold wipe
    by_cases hi : i ∈ vs
    · rw [wipe_set hi]
    · have hij : i = j := by
        rcases List.mem_cons.mp h with h | h
        · exact h
        · exact absurd h hi
      subst hij
      have comm : ∀ (ws : List Nat), i ∉ ws → wipe (σ.set i v) ws = (wipe σ ws).set i v := by
        intro ws
        induction ws with
        | nil => intro _; rfl
        | cons k ws ih =>
          intro hk
          unfold wipe
          rw [ih (fun z => hk (List.mem_cons_of_mem _ z)), List.set_comm _ _ (fun z => hk (by rw [← z]; exact List.mem_cons_self))]
      rw [comm vs hi, List.set_set]
theorem wipe_idem {σ : L2.St} {vs : List Nat} : wipe (wipe σ vs) vs = wipe σ vs := by
  have len : ∀ (τ : L2.St) (ws : List Nat), (wipe τ ws).length = τ.length := wipe_length
  have key : ∀ (ws us : List Nat) (τ : L2.St), (∀ i ∈ ws, i ∈ us) → wipe (wipe τ us) ws = wipe τ us := by
    intro ws
    induction ws with
    | nil => intro us τ _; rfl
    | cons i ws ih =>
      intro us τ h
      show (wipe (wipe τ us) ws).set i none = wipe τ us
      rw [ih us τ fun j hj => h j (List.mem_cons_of_mem _ hj)]
      have hi := h i List.mem_cons_self
      refine List.ext_getElem? fun j => ?_
      by_cases hj : i = j
      · subst hj
        by_cases hl : i < (wipe τ us).length
        · rw [List.getElem?_set_self hl]
          cases q : (wipe τ us)[i]? with
          | none => exact absurd (List.getElem?_eq_none_iff.mp q) (by omega)
          | some o =>
            cases o with
            | none => rfl
            | some x => exact absurd hi (wipe_some q).2
        · rw [List.getElem?_eq_none_iff.mpr (by rw [List.length_set]; omega), List.getElem?_eq_none_iff.mpr (by omega)]
      · rw [List.getElem?_set_ne hj]
  exact key vs vs σ fun _ h => h
/-- a target that stores own names alone -/
def TGo (K : PySem.W.Frag) (mg : Str → Option Value) (own : List Nat) (g : GM) : TG := fun x σ H Q => ∃ G s M v, SimM K mg G M H ∧ SimS K mg G s σ H ∧ RW K mg G H x v ∧ PostG K mg G H (fun σ' H' => wipe σ' own = wipe σ own → Q σ' H') (g v s M)
def TGos (K : PySem.W.Frag) (mg : Str → Option Value) (own : List Nat) (g : GMs) : TGs := fun xs σ H Q => ∃ G s M vs, SimM K mg G M H ∧ SimS K mg G s σ H ∧ RWs K mg G H xs vs ∧ PostG K mg G H (fun σ' H' => wipe σ' own = wipe σ own → Q σ' H') (g vs s M)
structure SGo (X : Cx) (own : List Nat) (e : Expr) (m : GM) : Prop where
  pg : PG X e (TGo X.K X.mg own m)
structure SGos (X : Cx) (own : List Nat) (e : List Expr) (m : GMs) : Prop where
  pgs : PGs X e (TGos X.K X.mg own m)
section
variable {X : Cx} {own : List Nat}
theorem sgo_name {i : Nat} {e : Expr} (hi : i ∈ own) (h : PG X e (gName i)) : SGo X own e (gN i) :=
  ⟨pgImp h fun x σ H Q ⟨G, s, M, v, S, N, r, p⟩ => p G H _ .refl S (N.set r) (wipe_set hi)⟩
theorem sgos_nil : SGos X own [] gsNil := by
  refine ⟨pgsImp pgs_nil fun xs σ H Q ⟨G, s, M, vs, S, N, r, p⟩ => ?_⟩
  cases r with
  | nil => exact ⟨rfl, p G H σ .refl S N rfl⟩
  | cons r1 r2 => exact p.elim
theorem sgos_cons {e : Expr} {es : List Expr} {g : GM} {gs : GMs} (h : SGo X own e g) (h2 : SGos X own es gs) (hs : (assignEach (e :: es) X.env).map (·.2) = assign e X.env :: (assignEach es X.env).map (·.2) := by rfl) : SGos X own (e :: es) (gsCons g gs) := by
  refine ⟨pgsImp (pgs_cons h.pg h2.pgs hs) fun xs σ H Q ⟨G, s, M, vs, S, N, r, p⟩ => ?_⟩
  cases r with
  | nil => exact p.elim
  | @cons x v xs vs r1 r2 =>
    refine ⟨x, xs, rfl, G, s, M, v, S, N, r1, ?_⟩
    have p : PostG X.K X.mg G H (fun σ' H' => wipe σ' own = wipe σ own → Q σ' H') ((g v s M).bind fun p => gs vs p.1 p.2) := p
    cases e : g v s M with
    | none => rw [e] at p; exact p.elim
    | some q =>
      rw [e] at p
      intro G' H' σ' e' S' N' hw
      refine ⟨G', q.1, q.2, vs, S', N', RWs.ext e' r2, ?_⟩
      have p2 := PostG.ext e' p
      cases e2 : gs vs q.1 q.2 with
      | none =>
        have p2 : PostG X.K X.mg G' H' _ (gs vs q.1 q.2) := p2
        rw [e2] at p2
        exact p2.elim
      | some q2 =>
        have p2 : PostG X.K X.mg G' H' (fun σ' H' => wipe σ' own = wipe σ own → Q σ' H') (gs vs q.1 q.2) := p2
        rw [e2] at p2
        exact fun G3 H3 σ3 e3 S3 N3 hw3 => p2 G3 H3 σ3 e3 S3 N3 (hw3.trans hw)
theorem sgo_tup {es : List Expr} {k : Nat} {pos : Pos} {g : GMs} {n : Nat} (hc : X.calm = true) (h : SGos X own es g) (hn : (assignEach es X.env).length = n := by rfl) (hst : (assignEach es X.env).findIdx? (·.1) = none := by rfl) : SGo X own (.Tuple es k pos) (gT n g) := by
  refine ⟨pgImp (pg_tup hc h.pgs hn hst) fun x σ H Q ⟨G, s, M, v, S, N, r, p⟩ => ?_⟩
  unfold gT at p
  split at p
  · rename_i ds
    split at p
    · rename_i hl
      have r : RV X.K G.F H x (.tuple ds) := r
      cases r with
      | tup h1 h2 => exact ⟨_, _, rfl, SqT.of h1, by rw [h2.len]; exact hl, G, s, M, _, S, N, RVs.rws h2, p⟩
    · exact p.elim
  · exact p.elim
end
structure STs (X : Cx) (W : WX) (e : List Expr) (m : TM) : Prop where
  pts : PTs X e (TTm X.K X.mg W m)
def mYes : TM := fun _ M => .ok true M
theorem sts_nil {X : Cx} {W : WX} : STs X W [] mYes := ⟨⟨fun pins s σ H Q I ⟨G, sl, M, S, N, p⟩ => pts_nil.run pins s σ H Q I (p G H true .refl S rfl)⟩⟩
theorem sts_one {X : Cx} {W : WX} {c : Expr} {m : TM} (h : ST X W c m) : STs X W [c] m := ⟨pts_one h.pt⟩
section
variable {X : Cx} {W : WX}
theorem lc_sound {wi : TI} {it : AM} {gt : TG} {g : GM} {tt : TT} {t : TM} {te : TE} {e : EM} {own : List Nat} {k : List Val → Mm → Out Val}
    (hg : ∀ x σ H Q, TGm X.K X.mg g x (wipe σ own) H Q → gt x (wipe σ own) H fun σ2 H2 => wipe σ2 own = wipe σ own ∧ Q σ2 H2)
    (ht : ∀ σ H Q, TTm X.K X.mg W0 t σ H Q → tt σ H Q) (he : ∀ σ H Q, TEm X.K X.mg W0 e σ H Q → te σ H Q) (hw : ∀ σ H R, TIm X.K X.mg W it σ H R → wi σ H R)
    (hk : ∀ (G : Gh) (us : List Val) (M : Mm) (σ : L2.St) (H0 H : Hp) (D : Addr) (xs : List V) (G0 : Gh) (Q : VK), Ext G0 H0 G H → H0 D = none → ¬ G0.F D → SimM X.K X.mg G M H → D ∉ G.φ → ¬ G.F D → H D = some (.lst xs) → RWs X.K X.mg G H xs us → us.length ≤ sizeLine →
      Post X.K X.mg W G0 σ H0 (fun G' H' x v => RW X.K X.mg G' H' x v) Q (k us M) → Q (.ref D) H)
    (hs : ∀ us M, us.length > sizeLine → k us M = .bad) {σ : L2.St} {H : Hp} {Q : VK}
    (h : TEm X.K X.mg W (fun s M => (it s M).bind fun vs M1 => (compL g t e (wipeS s own) vs M1).bind k) σ H Q) : tLc wi gt tt te own σ H Q := by
  obtain ⟨G, s, M, S, N, p⟩ := h
  refine hw _ _ _ ⟨G, s, M, S, N, Post.bind p fun vs M1 G1 H1 J e1 S1 g1 p1 => fun D hD => ?_⟩
  have N1 := N.ext e1
  have nF1 : ¬ G1.F D := fun z => S1.fthere D z hD
  -- the state between two turns: what is made, what is to come
  refine ⟨fun i m H' => i + m = vs.length ∧ ∃ G' M' us xs, Ext G1 H1 G' H' ∧ SimM X.K X.mg G' M' H' ∧ D ∉ G'.φ ∧ ¬ G'.F D ∧ H' D = some (.lst xs) ∧ RWs X.K X.mg G' H' xs us ∧
      Post X.K X.mg W G1 σ H1 (fun G' H' x v => RW X.K X.mg G' H' x v) Q ((compL g t e (wipeS s own) (vs.drop i) M').bind fun r M2 => k (us ++ r) M2), ⟨vs.length, by omega, G1, M1, [], [], ?_⟩, ?_⟩
  · obtain ⟨S2, e2⟩ := S1.lay (o := .lst []) hD
    exact ⟨e2, S2, S1.newne hD, nF1, upd_same, .nil, by simpa using p1⟩
  rintro i m H' ⟨hm, G', M', us, xs, e', S', nφ, nF, hx, rx, p'⟩
  obtain ⟨q1, q2, q3⟩ := g1 G' H' e'
  by_cases hl : i < vs.length
  · refine .inr ⟨q1 i hl, fun H'' => ∃ G'' M'' us'' xs'', Ext G1 H1 G'' H'' ∧ SimM X.K X.mg G'' M'' H'' ∧ D ∉ G''.φ ∧ ¬ G''.F D ∧ H'' D = some (.lst xs'') ∧ RWs X.K X.mg G'' H'' xs'' us'' ∧
      Post X.K X.mg W G1 σ H1 (fun G' H' x v => RW X.K X.mg G' H' x v) Q ((compL g t e (wipeS s own) (vs.drop (i + 1)) M'').bind fun r M2 => k (us'' ++ r) M2), fun H'' h => ⟨m - 1, by omega, by omega, h⟩, fun x H'' y => ?_⟩
    obtain ⟨G2, e2, S2, r2⟩ := q3 i _ (List.getElem?_eq_getElem hl) M' S' x H'' y
    rw [List.drop_eq_getElem_cons hl] at p'
    unfold compL at p'
    have keepD : ∀ {Ga Gb : Gh} {Ha Hb : Hp}, Ext Ga Ha Gb Hb → D ∉ Ga.φ → ¬ Ga.F D → Ha D = some (.lst xs) → D ∉ Gb.φ ∧ ¬ Gb.F D ∧ Hb D = some (.lst xs) := by
      intro Ga Gb Ha Hb e a b c
      have nn : Ha D ≠ none := by rw [c]; simp
      refine ⟨fun z => (e.φnew D z).elim a nn, fun z => ?_, by rw [e.keep D nn a]; exact c⟩
      rcases e.Fnew D z with z | z | z
      · exact b z
      · exact nn z
      · exact a z
    obtain ⟨nφ2, nF2, hx2⟩ := keepD e2 nφ nF hx
    have rx2 := RWs.ext e2 rx
    refine hg x σ H'' _ ⟨G2, wipeS s own, M', vs[i], S2, simS_wipe (N1.ext (e'.trans e2)) own, r2, ?_⟩
    cases eg : g vs[i] (wipeS s own) M' with
    | none => rw [eg] at p'; exact p'.elim
    | some q =>
      obtain ⟨s1, M1'⟩ := q
      rw [eg] at p'
      dsimp only at p'
      intro G3 H3 σ3 e3 S3 N3
      obtain ⟨nφ3, nF3, hx3⟩ := keepD e3 nφ2 nF2 hx2
      have rx3 := RWs.ext e3 rx2
      refine ht _ _ _ ⟨G3, s1, M1', S3, N3, ?_⟩
      cases et : t s1 M1' with
      | bad => rw [et] at p'; exact p'.elim
      | er z M2 => rw [et] at p'; exact p'.elim
      | ok b M2 =>
        rw [et] at p'
        intro G4 H4 b' e4 S4 rb
        subst rb
        obtain ⟨nφ4, nF4, hx4⟩ := keepD e4 nφ3 nF3 hx3
        have rx4 := RWs.ext e4 rx3
        have eA := ((e'.trans e2).trans e3).trans e4
        cases b' with
        | false => exact ⟨G4, M2, us, xs, eA, S4, nφ4, nF4, hx4, rx4, p'⟩
        | true =>
          rw [if_pos rfl]
          have p' : Post X.K X.mg W G1 σ H1 (fun G' H' x v => RW X.K X.mg G' H' x v) Q (((e s1 M2).noer.bind fun y M3 => (compL g t e (wipeS s own) (vs.drop (i + 1)) M3).bind fun r M4 => .ok (y :: r) M4).bind fun r M2 => k (us ++ r) M2) := p'
          refine he _ _ _ ⟨G4, s1, M2, S4, N3.ext e4, ?_⟩
          cases ee : e s1 M2 with
          | bad => rw [ee] at p'; exact p'.elim
          | er z M3 => rw [ee] at p'; exact p'.elim
          | ok y M3 =>
            rw [ee] at p'
            have p' : Post X.K X.mg W G1 σ H1 (fun G' H' x v => RW X.K X.mg G' H' x v) Q (((compL g t e (wipeS s own) (vs.drop (i + 1)) M3).bind fun r M4 => .ok (y :: r) M4).bind fun r M2 => k (us ++ r) M2) := p'
            intro G5 H5 z e5 S5 rz
            obtain ⟨nφ5, nF5, hx5⟩ := keepD e5 nφ4 nF4 hx4
            have rx5 := RWs.ext e5 rx4
            have e0 := ext0_side (G := G5) (H := H5) (p := D) (o := .lst (xs ++ [z])) nF5 (fun xs z => by rw [hx5] at z; cases z) (fun q u z => by rw [hx5] at z; cases z)
            have p2 : Post X.K X.mg W G1 σ H1 (fun G' H' x v => RW X.K X.mg G' H' x v) Q ((compL g t e (wipeS s own) (vs.drop (i + 1)) M3).bind fun r M2 => k ((us ++ [y]) ++ r) M2) := by
              cases ec : compL g t e (wipeS s own) (vs.drop (i + 1)) M3 with
              | bad => rw [ec] at p'; exact p'
              | er a b => rw [ec] at p'; exact p'
              | ok r M4 =>
                rw [ec] at p'
                show Post _ _ _ _ _ _ _ _ (k ((us ++ [y]) ++ r) M4)
                rw [List.append_assoc]
                exact p'
            refine ⟨xs, hx5, ?_, G5, M3, us ++ [y], xs ++ [z], (eA.trans e5).side hD nF1, S5.side nφ5 nF5 (fun xs z => by rw [hx5] at z; cases z) (fun q u z => by rw [hx5] at z; cases z), nφ5, nF5, upd_same, RWs.ext0 e0 (Paired.app rx5 (.cons rz .nil)), p2⟩
            rw [Paired.len rx5]
            cases ec : compL g t e (wipeS s own) (vs.drop (i + 1)) M3 with
            | bad => rw [ec] at p2; exact p2.elim
            | er a b => exact (compL_noer _ _ _ _ ec).elim
            | ok r M4 =>
              rw [ec] at p2
              have p2 : Post X.K X.mg W G1 σ H1 (fun G' H' x v => RW X.K X.mg G' H' x v) Q (k ((us ++ [y]) ++ r) M4) := p2
              by_cases hz : (us ++ [y] ++ r).length > sizeLine
              · rw [hs _ _ hz] at p2
                exact p2.elim
              · simp only [List.length_append, List.length_cons, List.length_nil] at hz
                omega
  · have hi' : i = vs.length := by omega
    rw [hi', List.drop_length] at p'
    have p'' : Post X.K X.mg W G1 σ H1 (fun G' H' x v => RW X.K X.mg G' H' x v) Q (k us M') := by simpa [compL, Out.bind] using p'
    refine .inl ⟨hi' ▸ q2, hk G' us M' σ H1 H' D xs G1 Q e' hD nF1 S' nφ nF hx rx ?_ p''⟩
    by_cases hz : us.length > sizeLine
    · rw [hs _ _ hz] at p''
      exact p''.elim
    · omega
theorem go_wipe {own : List Nat} {g : GM} : ∀ x σ H Q, TGm X.K X.mg g x (wipe σ own) H Q → TGo X.K X.mg own g x (wipe σ own) H fun σ2 H2 => wipe σ2 own = wipe σ own ∧ Q σ2 H2 := by
  intro x σ H Q ⟨G, s, M, v, S, N, r, p⟩
  refine ⟨G, s, M, v, S, N, r, ?_⟩
  cases e : g v s M with
  | none => rw [e] at p; exact p
  | some q => rw [e] at p; exact fun G' H' σ' e' S' N' hw => ⟨by rw [hw, wipe_idem], p G' H' σ' e' S' N'⟩
variable {elt tg iter : Expr} {ifs : List Expr} {scope : Scope} {own : List (Str × Nat)} {pos : Pos} {it : AM} {g : GM} {t : TM} {e : EM}
def lcK (us : List Val) (M2 : Mm) : Out Val := match allD us with
  | some ds => if fitsL us.length then .ok (.d (.list ds)) M2 else .bad
  | none => .bad
def lcN (us : List Val) (M2 : Mm) : Out Val := if fitsL us.length then .ok (.obj M2.length) (M2 ++ [.lst us]) else .bad
theorem fitsL_no {n : Nat} (h : n > sizeLine) : fitsL n = false := decide_eq_false (by have e : sizeLine = 16777216 := sizeLine_eq; omega)
theorem lc_read {k : List Val → Mm → Out Val} {σ : L2.St} {H : Hp} {Q : VK} (hk : k = lcK ∨ k = lcN)
    (h : TEm X.K X.mg W (fun s M => (it s M).bind fun vs M1 => (compL g t e (wipeS s (own.map (·.2))) vs M1).bind k) σ H Q) :
    tLc (TIm X.K X.mg W it) (TGo X.K X.mg (own.map (·.2)) g) (TTm X.K X.mg W0 t) (TEm X.K X.mg W0 e) (own.map (·.2)) σ H Q := by
  refine lc_sound (fun x σ H Q => go_wipe x σ H Q) (fun _ _ _ h => h) (fun _ _ _ h => h) (fun _ _ _ h => h) (fun G us M σ H0 H D xs G0 Q e hD nF0 S nφ nF hx rx hz p => ?_) (fun us M hz => ?_) h
  · rcases hk with rfl | rfl
    · unfold lcK at p
      split at p
      · rename_i ds ed
        split at p
        · have e2 : Ext0 G H (G.fix D) H := ⟨⟨[], by simp [Gh.fix]⟩, fun _ _ h => h, fun _ _ _ h => h, fun b h => ⟨.inr h, rfl⟩⟩
          have S2 : SimM X.K X.mg (G.fix D) M H := S.grow e2 rfl (fun _ _ => rfl) (fun a ha h z => z.elim (fun z => nφ (z ▸ ha)) h) (fun a h => h.elim (fun z => by rw [z, hx]; simp) (S.fthere a))
          have e3 : Ext G0 H0 (G.fix D) H := ⟨e.toExt0.trans e2, e.keep, e.φnew, fun a h => h.elim (fun z => .inr (.inl (z ▸ hD))) (e.Fnew a)⟩
          exact p _ H _ e3 S2 (RV.lst (.inl rfl) hx (RVs.ext0 e2 _ _ (allD_ok ed rx)))
        · exact p.elim
      · exact p.elim
    · unfold lcN at p
      split at p
      · have e2 : Ext0 G H (G.push D) H := ext_push0 .refl
        have S2 := S.push nφ (by rw [hx]; simp) (o := .lst us) ⟨nF, xs, hx, RWs.ext0 e2 rx⟩
        have e3 : Ext G0 H0 (G.push D) H := ⟨e.toExt0.trans e2, e.keep, fun a h => (List.mem_append.mp h).elim (e.φnew a) fun h => by
          have : a = D := by simpa using h
          rw [this]
          exact .inr hD, e.Fnew⟩
        refine p _ H _ e3 S2 ⟨D, rfl, ?_⟩
        show (G.φ ++ [D])[M.length]? = some D
        rw [← S.len]
        simp
      · exact p.elim
  · rcases hk with rfl | rfl
    · unfold lcK
      rw [fitsL_no hz]
      split <;> rfl
    · unfold lcN
      rw [fitsL_no hz]
      rfl
theorem se_lc {k : List Val → Mm → Out Val} (hk : k = lcK ∨ k = lcN) (hc : X.calm = true) (hN : X.N.Nodup) (hi : SI X W tg iter it) (ok : BlkOk X.N X.env.scope scope own)
    (hg : ∀ (s : Shared) (H : Hp) (C : Addr) (cl : List (Str × Addr)) (fp : List Addr), SGo (X.blk s H scope (compEnvC scope cl C X.env) fp) (own.map (·.2)) tg g)
    (ht : ∀ (s : Shared) (H : Hp) (C : Addr) (cl : List (Str × Addr)) (fp : List Addr), STs (X.blk s H scope (compEnvC scope cl C X.env) fp) W0 ifs t)
    (he : ∀ (s : Shared) (H : Hp) (C : Addr) (cl : List (Str × Addr)) (fp : List Addr), SE (X.blk s H scope (compEnvC scope cl C X.env) fp) W0 elt e) (hs : ∀ x, foldedSetIterable iter X.env x = pure x := by intro _; rfl) :
    SE X W (.ListComp elt [⟨tg, iter, ifs, 0⟩] scope pos) (mComp k it g t e (own.map (·.2))) :=
  ⟨peImp (pe_lc (te := TEm X.K X.mg W0 e) (tt := TTm X.K X.mg W0 t) (g := TGo X.K X.mg (own.map (·.2)) g) hc hN hi.pi ok (fun s H C cl fp => (hg s H C cl fp).pg) (fun s H C cl fp => (ht s H C cl fp).pts) (fun s H C cl fp => (he s H C cl fp).pe) hs) fun _ _ _ h => lc_read hk h⟩
theorem ss_setLc {k : List Val → Mm → Out Val} {i : Nat} {y : Str} {py spos : Pos} (hk : k = lcK ∨ k = lcN) (hc : X.calm = true) (hN : X.N.Nodup) (hy : X.N[i]? = some y) (hyl : X.env.scope.names.lookup y = some .local)
    (hsw : swapsWith (.ListComp elt [⟨tg, iter, ifs, 0⟩] scope pos) (some (.Name y py)) spos.line X.env = pure true) (hi : SI X W tg iter it) (ok : BlkOk X.N X.env.scope scope own)
    (hg : ∀ (s : Shared) (H : Hp) (C : Addr) (cl : List (Str × Addr)) (fp : List Addr), SGo (X.blk s H scope (compEnvC scope cl C X.env) fp) (own.map (·.2)) tg g)
    (ht : ∀ (s : Shared) (H : Hp) (C : Addr) (cl : List (Str × Addr)) (fp : List Addr), STs (X.blk s H scope (compEnvC scope cl C X.env) fp) W0 ifs t)
    (he : ∀ (s : Shared) (H : Hp) (C : Addr) (cl : List (Str × Addr)) (fp : List Addr), SE (X.blk s H scope (compEnvC scope cl C X.env) fp) W0 elt e) (hs : ∀ x, foldedSetIterable iter X.env x = pure x := by intro _; rfl) :
    SS X W (.Assign [.Name y py] (.ListComp elt [⟨tg, iter, ifs, 0⟩] scope pos) spos) (sAsg (mComp k it g t e (own.map (·.2))) (gN i)) := by
  refine ⟨psImp (ps_setLc (te := TEm X.K X.mg W0 e) (tt := TTm X.K X.mg W0 t) (g := TGo X.K X.mg (own.map (·.2)) g) hc hN hy hyl hsw hi.pi ok (fun s H C cl fp => (hg s H C cl fp).pg) (fun s H C cl fp => (ht s H C cl fp).pts) (fun s H C cl fp => (he s H C cl fp).pe) hs) fun D σ H h => ?_⟩
  obtain ⟨G, s, M, S, N, p⟩ := h
  refine lc_read hk ⟨G, s, M, S, N, PostS.bind N p fun v M1 G1 H1 x e1 S1 r1 p1 => ?_⟩
  exact p1 G1 H1 _ .refl S1 ((N.ext e1).set r1)
end
end Zm
namespace Zm
open PySem PySem.Spec PyProof.Rows L2

/-! ### repr -/
section
variable {X : Cx} {pins : List (Addr × Obj)} {σ : L2.St} {H : Hp} {s : Shared} {F : Addr → Prop}
mutual
theorem RV.reads (I : Inv X pins σ H s) (hs : ∃ o u, H sysModules = some (.frz o u)) : ∀ (d : PyData) (v : V) (u : Value), RV X.K F H v d → RelV v u → ∃ as, Reads s.heap u d as ∧ sysModules ∉ as
  | .none, _, _, h, r => by cases h; cases r; exact ⟨_, Reads.none, by simp⟩
  | .bool b, _, _, h, r => by cases h; cases r; exact ⟨_, Reads.bool b, by simp⟩
  | .int i, _, _, h, r => by cases h; obtain ⟨t, rfl⟩ := r; exact ⟨_, Reads.int i t, by simp⟩
  | .str x, _, _, h, r => by cases h; obtain ⟨t, rfl⟩ := r; exact ⟨_, Reads.str x t, by simp⟩
  | .tuple ds, _, _, h, r => by
    cases h with
    | tup h1 h2 =>
      cases r
      obtain ⟨its, rv, ⟨o, ho, hc, n, hd⟩, _⟩ := I.tuple (SqT.of h1)
      obtain ⟨as, hr, hn⟩ := RVs.reads I hs ds _ its h2 rv
      exact ⟨_, Reads.tuple ho hc hd hr, hn⟩
  | .list ds, _, _, h, r => by
    cases h with
    | @lst a _ _ h0 h1 h2 =>
      cases r
      obtain ⟨its, rv, ⟨o, n, ho, hc, _, hd⟩, _⟩ := I.list (SqL.of h1)
      obtain ⟨as, hr, hn⟩ := RVs.reads I hs ds _ its h2 rv
      refine ⟨_, Reads.list ho hc hd hr, fun z => ?_⟩
      rcases List.mem_cons.mp z with z | z
      · obtain ⟨o', u', hs⟩ := hs
        rw [z, h1] at hs
        cases hs
      · exact hn z
  | .dict ds, _, _, h, r => by
    cases h with
    | @dct a kvs _ h0 h1 h2 =>
      cases r
      obtain ⟨_, hne, vs, kv, o, es, ep, ho, hex, hd, _, hp, _⟩ := I.hok a _ h1
      obtain ⟨as, bs, hr1, hr2, hn1, hn2⟩ := RKs.reads I hs ds kvs vs es.toList h2 kv hp
      refine ⟨_, Reads.dict ho hex.1 hd hr1 hr2, fun z => ?_⟩
      rcases List.mem_append.mp z with z | z
      · rcases List.mem_cons.mp z with z | z
        · rw [z] at hne
          simp at hne
        · exact hn1 z
      · exact hn2 z
theorem RVs.reads (I : Inv X pins σ H s) (hs : ∃ o u, H sysModules = some (.frz o u)) : ∀ (ds : List PyData) (vs : List V) (us : List Value), RVs X.K F H vs ds → Vals vs us → ∃ as, ReadsAll s.heap us ds as ∧ sysModules ∉ as
  | [], _, _, h, r => by cases h; cases r; exact ⟨_, ReadsAll.nil, by simp⟩
  | d :: ds, _, _, h, r => by
    cases h with
    | cons h1 h2 =>
      cases r with
      | cons r1 r2 =>
        obtain ⟨as, q1, n1⟩ := RV.reads I hs d _ _ h1 r1
        obtain ⟨bs, q2, n2⟩ := RVs.reads I hs ds _ _ h2 r2
        exact ⟨_, ReadsAll.cons q1 q2, fun z => (List.mem_append.mp z).elim n1 n2⟩
theorem RKs.reads (I : Inv X pins σ H s) (hs : ∃ o u, H sysModules = some (.frz o u)) : ∀ (ds : List (PyData × PyData)) (kvs : List (Key × V)) (vs : List (Key × Value)) (es : List DictEntry), RKs X.K F H kvs ds → KV kvs vs → Pairs (mixKind X.prog X.w) es vs →
    ∃ as bs, ReadsAll s.heap (es.map (·.key)) (ds.map (·.1)) as ∧ ReadsAll s.heap (es.map (·.val)) (ds.map (·.2)) bs ∧ sysModules ∉ as ∧ sysModules ∉ bs
  | [], _, _, _, h, r, p => by cases h; cases r; cases p; exact ⟨_, _, ReadsAll.nil, ReadsAll.nil, by simp, by simp⟩
  | (kd, d) :: ds, _, _, _, h, r, p => by
    cases h with
    | @cons k v _ _ _ h1 h2 =>
      cases r with
      | cons r1 r2 =>
        cases p with
        | @cons e kvv es vs p1 p2 p3 =>
          obtain ⟨as, q1, n1⟩ := RV.reads I hs d _ _ h1 r1.2
          obtain ⟨bs, cs, q2, q3, n2, n3⟩ := RKs.reads I hs ds _ _ _ h2 r2 p3
          have hk : ∃ ks, Reads s.heap e.key (keyD k) ks ∧ sysModules ∉ ks := by
            have e1 := r1.1
            have p1' : keyIs k e.key = true := by
              rw [show k = _ from e1]
              exact p1
            rcases keyIs_shape p1' with ⟨i, t, rfl, e2⟩ | ⟨x, t, rfl, e2⟩
            · rw [e2]; exact ⟨_, Reads.int i t, by simp⟩
            · rw [e2]; exact ⟨_, Reads.str x t, by simp⟩
          obtain ⟨ks, qk, nk⟩ := hk
          rw [← p2] at q1
          exact ⟨_, _, ReadsAll.cons qk q2, ReadsAll.cons q1 q3, fun z => (List.mem_append.mp z).elim nk n2, fun z => (List.mem_append.mp z).elim n1 n3⟩
end
end
def vRepr (vs : List Val) (M : Mm) : Out Val := match vs with
  | [.d d] => if d.showable && fitsL d.shown.length && decide (d.depth ≤ 64) then .ok (.d (.str d.shown)) M else .bad
  | _ => .bad
section
variable {X : Cx} {W : WX}
def rReprZ (K : PySem.W.Frag) : List V → Hp → VK → Prop := fun xs H Q => ∃ (F : Addr → Prop) (x : V) (d : PyData), xs = [x] ∧ RV K F H x d ∧ (∃ o u, H sysModules = some (.frz o u)) ∧ d.showable = true ∧ d.shown.length ≤ sizeLine ∧ d.depth ≤ 64 ∧ Q (.str d.shown) H
theorem call_reprZ (hG : X.A.guards = some []) (hu : X.A.units + 70 < cLine) : CallR X (.builtin "repr") (rReprZ X.K) := by
  intro pins s σ H xs us Q I r ⟨F, x, d, ex, rx, hs, h1, h2, h3, q⟩
  subst ex
  obtain ⟨u, rfl, ru⟩ := vals1 r
  obtain ⟨as, rd, hn⟩ := RV.reads I hs d x u rx ru
  have fin : ∀ h' t tk, (∀ b o, s.heap.get? b = some o → h'.get? b = some o) → EP X pins σ Q (.str d.shown t) { s with heap := h', toks := tk } := fun h' t tk hk => ⟨.str d.shown, H, I.kept hk, ⟨_, rfl⟩, q⟩
  cases d with
  | none =>
    cases rx; cases ru
    refine PySem.P.repr_of_none (fin s.heap s.toks (s.toks + 1) fun _ _ e => e)
  | bool b =>
    cases rx; cases ru
    have q := fin s.heap s.toks (s.toks + 1) fun _ _ e => e
    simp only [PyData.shown] at q
    exact PySem.P.repr_of_bool q
  | int i =>
    cases rx
    obtain ⟨t, rfl⟩ := ru
    have q := fin s.heap s.toks (s.toks + 1) fun _ _ e => e
    simp only [PyData.shown] at q
    exact PySem.P.repr_of_int (by simpa [PyData.showable] using h1) q
  | str z =>
    cases rx
    obtain ⟨t, rfl⟩ := ru
    have q := fin s.heap s.toks (s.toks + 1) fun _ _ e => e
    simp only [PyData.shown] at q h2
    exact PySem.P.repr_of_str q h2
  | list ds =>
    cases rx with
    | lst _ _ _ =>
      cases ru
      exact repr_of_reads' rd h1 (fun _ => hn) hG (by omega) (fun _ _ e => e) (fun h' u tk hk => fin h' u tk hk) h2
  | tuple ds =>
    cases rx with
    | tup _ _ =>
      cases ru
      exact repr_of_reads' rd h1 (fun _ => hn) hG (by omega) (fun _ _ e => e) (fun h' u tk hk => fin h' u tk hk) h2
  | dict ds =>
    cases rx with
    | dct _ _ _ =>
      cases ru
      exact repr_of_reads' rd h1 (fun _ => hn) hG (by omega) (fun _ _ e => e) (fun h' u tk hk => fin h' u tk hk) h2
theorem cz_repr : CallZ X (rReprZ X.K) vRepr := by
  intro W G M σ H Q xs vs S r p
  unfold vRepr at p
  split at p
  · rename_i d
    cases r with
    | @cons x _ _ _ r1 r2 =>
      cases r2
      split at p
      · rename_i h
        rw [Bool.and_eq_true, Bool.and_eq_true] at h
        exact ⟨G.F, x, d, rfl, r1, S.sys, h.1.1, fitsL_ok h.1.2, of_decide_eq_true h.2, p G H _ .refl S (RV.str _)⟩
      · exact p.elim
  · exact p.elim

/-! ### isinstance -/
def tyNm (v : Val) (M : Mm) : Option String := match v with
  | .d .none => some "NoneType"
  | .d (.bool _) => some "bool"
  | .d (.int _) => some "int"
  | .d (.str _) => some "str"
  | .d (.list _) => some "list"
  | .d (.tuple _) => some "tuple"
  | .d (.dict _) => some "dict"
  | .scr _ => none
  | .obj j => match M[j]? with
    | some (.lst _) => some "list"
    | some (.dct _) => some "dict"
    | _ => none
  | _ => none
def isT (n T : String) : Bool := n == T || (n == "bool" && T == "int")
def kinds : List String := ["int", "bool", "tuple", "str", "list", "dict"]
def names7 : List String := ["NoneType", "bool", "int", "str", "list", "tuple", "dict"]
theorem kit_tab : ∀ n ∈ names7, ∀ T ∈ kinds, kitB n T = some (isT n T) := by decide +kernel
theorem tyNm_ok {mg : Str → Option Value} {G : Gh} {H : Hp} {M : Mm} {K : PySem.W.Frag} {x : V} {v : Val} {n : String} (S : SimM K mg G M H) (r : RW K mg G H x v) (h : tyNm v M = some n) : TyX K H x (.type n) ∧ n ∈ names7 := by
  unfold tyNm at h
  split at h
  · cases h; have r : RV K G.F H x .none := r; cases r; exact ⟨.base .non, by decide⟩
  · rename_i b; cases h; have r : RV K G.F H x (.bool b) := r; cases r; exact ⟨.base (.bl b), by decide⟩
  · rename_i b; cases h; have r : RV K G.F H x (.int b) := r; cases r; exact ⟨.base (.int b), by decide⟩
  · rename_i b; cases h; have r : RV K G.F H x (.str b) := r; cases r; exact ⟨.base (.str b), by decide⟩
  · rename_i ds; cases h; have r : RV K G.F H x (.list ds) := r
    cases r with | lst h0 h1 h2 => exact ⟨.base (.lst h1), by decide⟩
  · rename_i ds; cases h; have r : RV K G.F H x (.tuple ds) := r
    cases r with | tup h1 h2 => exact ⟨.base (.tup h1), by decide⟩
  · rename_i ds; cases h; have r : RV K G.F H x (.dict ds) := r
    cases r with | dct h0 h1 h2 => exact ⟨.base (.dK h1), by decide⟩
  · cases h
  · rename_i j
    obtain ⟨a, rfl, hj⟩ := r
    split at h
    · rename_i vs ev
      cases h
      obtain ⟨nF, xs, hx, _⟩ := S.obj j a _ hj ev
      exact ⟨.base (.lst hx), by decide⟩
    · rename_i kvs ev
      cases h
      obtain ⟨nF, ys, h1, _⟩ := S.obj j a _ hj ev
      exact ⟨.base (.dK h1), by decide⟩
    · cases h
  · cases h
def mIsI (T : String) (m : EM) : EM := fun s M => (m s M).bind fun v M1 => match tyNm v M1 with
  | some n => .ok (.d (.bool (isT n T))) M1
  | none => .bad
theorem se_isinst {T : String} {e : Expr} {m : EM} {p p2 pos : Pos} {TS : Str} (hT : T ∈ kinds) (hg : Gl X "isinstance") (hm : X.mg "isinstance" = none) (hgT : Gl X TS) (hmT : X.mg TS = none) (hbT : bootBuiltins TS = some (.type T)) (he : SE X W e m)
    (hn : TS ≠ "__name__" := by decide) (hd : (TS == ("__debug__" : Str)) = false := by decide)
    (h1 : starEach [e, .Name TS p2] X.env = (false, eval e X.env) :: starEach [.Name TS p2] X.env := by rfl) (h2 : starEach [.Name TS p2] X.env = (false, eval (.Name TS p2) X.env) :: starEach [] X.env := by rfl) (hpl : (backTo pos (starEach [.Name TS p2] X.env)).any (·.1) = false := by rfl) :
    SE X W (.Call (.Name "isinstance" p) [e, .Name TS p2] [] pos) (mIsI T m) := by
  have hq : PE X (.Name TS p2) (tC (.ty T)) := pe_bltn hgT hmT hbT rfl hn hd
  refine ⟨peImp (pe_callB call_isi hg hm (by decide +kernel) (pa_cons he.pe (pa_cons hq pa_nil h2) h1) (by decide) (by decide) h1 hpl) fun σ H Q ⟨G, s, M, S, N, p⟩ => ⟨G, s, M, S, N, Post.bind p fun v M1 G1 H1 x e1 S1 r1 p1 => ?_⟩⟩
  split at p1
  · rename_i n hn
    obtain ⟨ty, hmem⟩ := tyNm_ok S1 r1 hn
    exact ⟨x, .ty T, .type n, .type T, isT n T, rfl, .ty T, ty, kit_ty (kit_tab n hmem T hT), p1 G1 H1 _ .refl S1 (RV.bl _)⟩
  · exact p1.elim

/-! ### sorted -/
def sortI (ns : List Int) : List Int := ns.mergeSort fun a b => decide (a ≤ b)
theorem sortI_perm (ns : List Int) : (sortI ns).Perm ns := List.mergeSort_perm _ _
theorem sortI_sorted (ns : List Int) : (sortI ns).Pairwise (· ≤ ·) := by
  have h := List.pairwise_mergeSort (le := fun a b : Int => decide (a ≤ b)) (fun a b c h1 h2 => by simp at *; omega) (fun a b => by simp; omega) ns
  exact h.imp fun {a b} h => of_decide_eq_true h
theorem sortI_eq {ns ms : List Int} (hp : ms.Perm ns) (hs : ms.Pairwise (· ≤ ·)) : ms = sortI ns :=
  (hp.trans (sortI_perm ns).symm).eq_of_pairwise (fun x y _ _ h1 h2 => Int.le_antisymm h1 h2) hs (sortI_sorted ns)
def leP (a b : Int × Int) : Bool := decide (a.1 < b.1) || (decide (a.1 = b.1) && decide (a.2 ≤ b.2))
theorem leP_iff {a b : Int × Int} : leP a b = true ↔ a.1 < b.1 ∨ (a.1 = b.1 ∧ a.2 ≤ b.2) := by
  unfold leP
  simp
def sortP (ps : List (Int × Int)) : List (Int × Int) := ps.mergeSort leP
theorem sortP_perm (ps : List (Int × Int)) : (sortP ps).Perm ps := List.mergeSort_perm _ _
theorem sortP_sorted (ps : List (Int × Int)) : (sortP ps).Pairwise fun a b => leP a b = true :=
  List.pairwise_mergeSort (fun a b c h1 h2 => by rw [leP_iff] at *; omega) (fun a b => by rw [Bool.or_eq_true, leP_iff, leP_iff]; omega) ps
theorem sortP_eq {ps qs : List (Int × Int)} (hp : qs.Perm ps) (hs : qs.Pairwise fun a b => leP a b = true) : qs = sortP ps := by
  refine (hp.trans (sortP_perm ps).symm).eq_of_pairwise (fun x y _ _ h1 h2 => ?_) hs (sortP_sorted ps)
  rw [leP_iff] at h1 h2
  exact Prod.ext (by omega) (by omega)
def pairD (p : Int × Int) : PyData := .tuple [.int p.1, .int p.2]
def toP : PyData → Option (Int × Int)
  | .tuple [.int a, .int b] => some (a, b)
  | _ => none
theorem toP_ok {d : PyData} {p : Int × Int} (h : toP d = some p) : d = pairD p := by
  unfold toP at h
  split at h
  · cases h; rfl
  · cases h
def allP : List PyData → Option (List (Int × Int))
  | [] => some []
  | d :: r => match toP d, allP r with
    | some p, some ps => some (p :: ps)
    | _, _ => none
theorem allP_map : ∀ (ps : List (Int × Int)), allP (ps.map pairD) = some ps
  | [] => rfl
  | p :: ps => by
    show (match toP (pairD p), allP (ps.map pairD) with | some p, some ps => some (p :: ps) | _, _ => none) = _
    rw [allP_map ps]
    rfl
theorem allP_ok : ∀ {ds : List PyData} {ps : List (Int × Int)}, allP ds = some ps → ds = ps.map pairD
  | [], _, h => by cases h; rfl
  | d :: r, ps, h => by
    unfold allP at h
    split at h
    · rename_i p qs e1 e2
      cases h
      rw [toP_ok e1, allP_ok e2]
      rfl
    · cases h
def kP (H : Hp) (v : V) : Int × Int := match v with
  | .ref t => match H t with
    | some (.tup [.int a, .int b]) => (a, b)
    | _ => (0, 0)
  | _ => (0, 0)
theorem rvs_pairs {K : PySem.W.Frag} {F : Addr → Prop} {H : Hp} : ∀ {ps : List (Int × Int)} {xs : List V}, RVs K F H xs (ps.map pairD) → xs.map (kP H) = ps ∧ ∀ x ∈ xs, ∃ t, x = V.ref t ∧ H t = some (.tup [.int (kP H x).1, .int (kP H x).2])
  | [], _, h => by cases h; exact ⟨rfl, fun _ h => by cases h⟩
  | (a, b) :: ps, _, h => by
    cases h with
    | @cons v vs _ _ h1 h2 =>
      obtain ⟨e1, e2⟩ := rvs_pairs h2
      have h1 : RV K F H v (.tuple [.int a, .int b]) := h1
      cases h1 with
      | @tup t ys _ g1 g2 =>
        cases g2 with
        | cons g2 g3 =>
          cases g3 with
          | cons g3 g4 =>
            cases g4; cases g2; cases g3
            have ek : kP H (.ref t) = (a, b) := by simp [kP, g1]
            refine ⟨by rw [List.map_cons, e1, ek], fun x hx => ?_⟩
            rcases List.mem_cons.mp hx with rfl | hx
            · exact ⟨t, rfl, by rw [ek]; exact g1⟩
            · exact e2 x hx
theorem rvs_of_kP {K : PySem.W.Frag} {F : Addr → Prop} {H : Hp} : ∀ {xs : List V}, (∀ x ∈ xs, ∃ t, x = V.ref t ∧ H t = some (.tup [.int (kP H x).1, .int (kP H x).2])) → RVs K F H xs ((xs.map (kP H)).map pairD)
  | [], _ => .nil
  | x :: xs, h => by
    obtain ⟨t, e, ht⟩ := h x List.mem_cons_self
    subst e
    exact .cons (.tup ht (.cons (.int _) (.cons (.int _) .nil))) (rvs_of_kP fun y hy => h y (List.mem_cons_of_mem _ hy))
def sortD (ds : List PyData) : Option (List PyData) := match allI ds with
  | some ns => some ((sortI ns).map .int)
  | none => match allP ds with
    | some ps => some ((sortP ps).map pairD)
    | none => none
def vSorted (vs : List Val) (M : Mm) : Out Val := match vs with
  | [v] => match listD v M with
    | some ds => match sortD ds with
      | some es => .ok (.d (.list es)) M
      | none => .bad
    | none => .bad
  | _ => .bad
theorem cz_sorted : CallZ X (fun xs H Q => rSortedI X.K xs H Q ∨ rSortedPO X.K xs H Q) vSorted := by
  intro W G M σ H Q xs vs S r p
  unfold vSorted at p
  split at p
  · cases r with
    | cons r1 r2 =>
      cases r2
      split at p
      · rename_i ds hd
        obtain ⟨a, ys, rfl, h, hr⟩ := listD_ok S r1 hd
        split at p
        · rename_i es he
          unfold sortD at he
          split at he
          · rename_i ns hn
            cases he
            have e := allI_ok hn
            subst e
            have e := RVs.ints hr
            subst e
            refine .inl ⟨a, ns, rfl, h, fun ns' q hp hs hq => ?_⟩
            have e := sortI_eq hp hs
            subst e
            obtain ⟨S2, e2⟩ := S.layF (o := .lst ((sortI ns).map V.int)) hq
            exact p _ _ _ e2 S2 (RV.lst (.inl rfl) upd_same (rvs_ints (G := G.fix q) _))
          · split at he
            · rename_i ps hp
              cases he
              have e := allP_ok hp
              subst e
              obtain ⟨e1, e2⟩ := rvs_pairs hr
              refine .inr ⟨a, ys, kP H, rfl, h, e2, fun zs q hs hb hq => ?_⟩
              have hz : ∀ x ∈ zs, ∃ t, x = V.ref t ∧ H t = some (.tup [.int (kP H x).1, .int (kP H x).2]) := fun x hx => e2 x (hb.perm.mem_iff.mp hx)
              have e3 : zs.map (kP H) = sortP ps := by
                refine sortP_eq (by rw [← e1]; exact hb.perm.map _) ?_
                refine List.pairwise_map.mpr (List.Pairwise.imp (fun {x y} h => ?_) hs)
                have h : SrtO.lexB (kP H y) (kP H x) = false := h
                rw [leP_iff]
                have := SrtO.lexB_no.mp h
                omega
              obtain ⟨S2, e4⟩ := S.layF (o := .lst zs) hq
              refine p _ _ _ e4 S2 (RV.lst (.inl rfl) upd_same ?_)
              have := rvs_of_kP (K := X.K) (F := G.F) hz
              rw [e3] at this
              exact RVs.ext e4 _ _ this
            · cases he
        · exact p.elim
      · exact p.elim
  · exact p.elim
end
end Zm
namespace Zm
open PySem PySem.Spec PyProof.Rows L2

theorem law_callZ {P : Program} {w : World} {K : PySem.W.Frag} {mg mb : Str → Option Value} {k : Nat} {fa a : Addr} {fd : FuncData} {x : Str} {den : Den} {s₁ : Shared} {vs : List Value} {ns : List Int}
    (KX : K.In s₁.heap) (hns : s₁.heap.Ns mainGlobals mg) (hb : s₁.heap.Ns builtinsNs mb) (hbb : ∀ x : Str, x ≠ "__name__" → mb x = bootBuiltins x) (hlim : s₁.heap.NoLimit) (hg : s₁.gens = #[])
    (ha : s₁.heap.get? a = some { cls := .type "list", data := .seq vs.toArray }) (hi : IntsAre vs ns) (hl : ns.length ≤ sizeLine) (hr : Room k callerA)
    (hsm : ∃ mm, s₁.heap.Ns sysModules mm) (hsk : K.lookup sysModules = none)
    (F : ∀ base : Heap, K.In base → base.Ns mainGlobals mg → FnZ P w K mg base k fa fd [x] den) (hbind : ∀ (s : Shared) (u : Value), BindsTo s fd ⟨[u], []⟩ [(x, u)])
    (hden : ∃ M', den [.scr ns] [] = .ok (.d (.bool true)) M') :
    codeAny (model P w) callerA (.call (.ref fa) ⟨[.ref a], []⟩) (fun r s' => r = .ok (.ret (.bool true)) ∧ OldK s₁.heap s'.heap ∧ s'.os = s₁.os ∧ AllBare s'.gens) s₁ := by
  have rv := vals_ints hi
  have lenV := hi.length
  obtain ⟨mm, om, esm, epm, hom, hdm, _⟩ := hsm
  have hne : a ≠ sysModules := by
    intro z
    rw [z, hom] at ha
    cases ha
    cases hdm
  obtain ⟨H, hH⟩ : ∃ H : Hp, H = fun b => if b = sysModules then some (.frz om (.ext fun _ => True)) else if b = a ∧ K.lookup a = none then some (.frz { cls := .type "list", data := .seq vs.toArray } (.lst (ns.map V.int))) else none := ⟨_, rfl⟩
  have H1 : H sysModules = some (.frz om (.ext fun _ => True)) := by rw [hH]; exact if_pos rfl
  have H2 : K.lookup a = none → H a = some (.frz { cls := .type "list", data := .seq vs.toArray } (.lst (ns.map V.int))) := fun z => by
    rw [hH]
    show (if a = sysModules then _ else if a = a ∧ K.lookup a = none then _ else _) = _
    rw [if_neg hne, if_pos ⟨rfl, z⟩]
  have H3 : ∀ b, b ≠ sysModules → ¬ (b = a ∧ K.lookup a = none) → H b = none := fun b z1 z2 => by
    rw [hH]
    show (if b = sysModules then _ else if b = a ∧ K.lookup a = none then _ else _) = _
    rw [if_neg z1, if_neg z2]
  have HK : ∀ b o, K.lookup b = some o → H b = none := fun b o e => H3 b (fun z => by rw [z, hsk] at e; cases e) fun z => by rw [z.1, z.2] at e; cases e
  have HD : ∀ {b : Addr} {o : Obj} {es : Array DictEntry} {ep : Nat}, b ≠ sysModules → s₁.heap.get? b = some o → o.data = .dict es ep → H b = none := fun {b o es ep} z e d => H3 b z fun q => by
    rw [q.1, ha] at e
    cases e
    cases d
  have hok : HOk P w H s₁.heap := by
    intro b u e
    by_cases h1 : b = sysModules
    · subst h1
      rw [H1] at e
      cases e
      exact ⟨hom, trivial, ⟨_, hom⟩, fun _ _ _ _ => trivial⟩
    · by_cases h2 : b = a ∧ K.lookup a = none
      · obtain ⟨rfl, h2⟩ := h2
        rw [H2 h2] at e
        cases e
        exact ⟨ha, by rw [List.length_map]; exact hl, vs, _, rv, ha⟩
      · rw [H3 b h1 h2] at e
        cases e
  have hfrz : ∀ b u, H b = some u → ∃ o v, u = .frz o v := by
    intro b u e
    by_cases h1 : b = sysModules
    · subst h1
      rw [H1] at e
      cases e
      exact ⟨_, _, rfl⟩
    · by_cases h2 : b = a ∧ K.lookup a = none
      · obtain ⟨rfl, h2⟩ := h2
        rw [H2 h2] at e
        cases e
        exact ⟨_, _, rfl⟩
      · rw [H3 b h1 h2] at e
        cases e
  have nsK : ∀ {b : Addr} {m : Str → Option Value}, b ≠ sysModules → s₁.heap.Ns b m → (hidT s₁.heap H).Ns b m := by
    rintro b m z ⟨o, es, ep, e, d, r⟩
    exact ⟨o, es, ep, hidT_get e (HD z e d), d, r⟩
  have hKb : K.In (hidT s₁.heap H) := fun b o e => hidT_get (KX b o e) (HK b o e)
  have hM : Mod K mg (hidT s₁.heap H) := by
    obtain ⟨mc, h1, h2⟩ := hlim
    exact ⟨hKb, nsK (by decide) hns, ⟨mb, nsK (by decide) hb, hbb⟩, ⟨mc, nsK (by decide) h1, h2⟩⟩
  have e0 : Env0 P w K mg (hidT s₁.heap H) callerA [] s₁ H :=
    { frames := rfl, mod := hM, bs := fun b o e => of_hidT e, bsz := Nat.le_of_eq (hidT_size _ _), funs := trivial, frf := fun b hb => absurd (show b ∈ ([] : List Addr) from hb) (by simp), hok := hok, bare := .of_eq hg }
  have scr : Scr K H a (ns.map V.int) := by
    cases hk : K.lookup a with
    | none => exact .inl ⟨_, H2 hk⟩
    | some o =>
      have e := KX a o hk
      rw [ha] at e
      cases e
      exact .inr ⟨_, vs.toArray, _, hk, rfl, rfl, rfl, by rw [List.size_toArray, lenV]; exact hl, by simpa using rv⟩
  obtain ⟨M', hd⟩ := hden
  have sim : SimM K mg ⟨[], fun _ => False⟩ [] H := ⟨rfl, List.nodup_nil, fun i a o h => by simp at h, fun a h => by simp at h, fun a h => h.elim, ⟨_, _, H1⟩⟩
  have sp : SpZ K mg den [.ref a] H (fun v _ => v = .bl true) (fun _ _ _ => False) := by
    refine ⟨⟨[], fun _ => False⟩, [.scr ns], [], sim, .cons ⟨a, rfl, scr⟩ .nil, ?_⟩
    rw [hd]
    intro G' H' v _ _ r
    have r : RV K G'.F H' v (.bool true) := r
    cases r
    rfl
  refine codeAny_mono ((F _ hKb (nsK (by decide) hns)).run callerA [] s₁ H ⟨[.ref a], []⟩ [.ref a] [.ref a] _ _ hr rfl e0 (hbind s₁ (.ref a)) (.cons rfl .nil) rfl sp) fun r s' h => ?_
  cases r with
  | error e =>
    obtain ⟨_, _, _, _, _, _, _, _, _, _, _, _, z⟩ := h
    exact z.elim
  | ok fl =>
    cases fl with
    | next => exact False.elim h
    | brk => exact False.elim h
    | cont => exact False.elim h
    | ret u =>
      obtain ⟨v, H', os, bare, un, hok', r', q⟩ := h
      have q : v = .bl true := q
      subst q
      obtain rfl : u = Value.bool true := r'
      refine ⟨rfl, OldK.of_keep fun b o e => ?_, os, bare⟩
      cases q : H b with
      | none => exact un.keep b o e q (fun z => absurd (show b ∈ ([] : List Addr) from z) (by simp)) (by simp)
      | some u =>
        obtain ⟨ob, v, rfl⟩ := hfrz b u q
        obtain ⟨e1, _⟩ := hok b _ q
        obtain ⟨e2, _⟩ := hok' b _ (un.frzs b ob _ q)
        rw [e] at e1
        cases e1
        exact e2
/-- the goal that the head leaves -/
theorem walkZ {l : PySem.W.OpenLaw} {n k : Nat} {q : Program} {loose : List Str} {XP : (Str → Option Value) → Heap → Prop} {YP : World → Heap → Prop} {d : DefRec} {K : Params → PySem.W.Frag} {den : Den} {x : Str}
    (hn : l.most = some n) (hn2 : n ≤ sizeLine) (hdf : d.params.defaults = []) (hr : Room k callerA) (himp : importsNone q = true) (hsk : ∀ w : World, (K w.params).lookup sysModules = none)
    (hY : ∀ (w : World) (h : Heap), YP w h → (K w.params).In h)
    (F : ∀ (w : World) (mg : Str → Option Value) (fa : Addr) (h : Heap), (K w.params).In h → h.Ns mainGlobals mg → mg d.name = some (.ref fa) →
      ∃ fd : FuncData, (∀ (s : Shared) (u : Value), BindsTo s fd ⟨[u], []⟩ [(x, u)]) ∧
        ∀ base : Heap, (K w.params).In base → base.Ns mainGlobals mg → FnZ l.prog w (K w.params) mg base k fa fd [x] den)
    (hden : ∀ ns : List Int, ns.length ≤ n → ∃ M', den [.scr ns] [] = .ok (.d (.bool true)) M') :
    PySem.W.WalkO q loose XP YP l.row.toRowW d [] (fun f vs => PySem.call f vs) := by
  refine Att.attach_call hn hdf fun w s₀ s₁ mg mb fa o pm cd doc a vs ns G Y ho hd hcd hmg hobj hints hlen hg => ?_
  obtain ⟨fd, hb, hF⟩ := F w mg fa _ (hY w _ Y) G.T.g hmg
  obtain ⟨mm, hmm, _⟩ := (G.T.seer himp).mods
  exact law_callZ (hY w _ Y) G.T.g G.T.b G.T.builtins G.T.nolimit hg hobj hints (Nat.le_trans hlen hn2) hr ⟨mm, hmm⟩ (hsk w) hF hb (hden ns hlen)
end Zm
namespace Zm
open PySem PySem.Spec PyProof.Rows L2

/-! ### tests that are comparisons -/
section
variable {X : Cx} {W : WX} {a b : Expr} {ma mb : EM} {pos : Pos}
theorem st_lt (ha : SE X W a ma) (hb : SE X W b mb) (hm : behindInMarks .Lt b = false := by rfl) : ST X W (.Compare a [.Lt] [b] pos) (mT (mOp vLt ma mb)) := st_cmp op_lt oz_bool ha hb hm
theorem st_gt (ha : SE X W a ma) (hb : SE X W b mb) (hm : behindInMarks .Gt b = false := by rfl) : ST X W (.Compare a [.Gt] [b] pos) (mT (mOp vGt ma mb)) := st_cmp op_gt oz_bool ha hb hm
theorem st_ge (ha : SE X W a ma) (hb : SE X W b mb) (hm : behindInMarks .GtE b = false := by rfl) : ST X W (.Compare a [.GtE] [b] pos) (mT (mOp vGe ma mb)) := st_cmp op_ge oz_bool ha hb hm
theorem st_eq (hu : X.A.units + 64 < cLine) (ha : SE X W a ma) (hb : SE X W b mb) (hm : behindInMarks .Eq b = false := by rfl) : ST X W (.Compare a [.Eq] [b] pos) (mT (mOp vEq ma mb)) := st_cmp (OpR.or op_eq (op_eqD hu)) oz_eq ha hb hm
theorem st_ne (hu : X.A.units + 64 < cLine) (ha : SE X W a ma) (hb : SE X W b mb) (hm : behindInMarks .NotEq b = false := by rfl) : ST X W (.Compare a [.NotEq] [b] pos) (mT (mOp vNe ma mb)) := st_cmp (OpR.or op_ne (op_neD hu)) oz_ne ha hb hm
theorem st_in (hu : X.A.units + 65 < cLine) (ha : SE X W a ma) (hb : SE X W b mb) (hm : behindInMarks .In b = false := by rfl) : ST X W (.Compare a [.In] [b] pos) (mT (mOp (vIn false) ma mb)) := st_cmp (op_inA hu) oz_in ha hb hm
theorem st_notIn (hu : X.A.units + 65 < cLine) (ha : SE X W a ma) (hb : SE X W b mb) (hm : behindInMarks .NotIn b = false := by rfl) : ST X W (.Compare a [.NotIn] [b] pos) (mT (mOp (vIn true) ma mb)) := st_cmp (op_notInA hu) oz_in ha hb hm
theorem room_u64 {k : Nat} {A : Around} (r : Room k A) : A.units + 64 < cLine := r.units
theorem room_u65 {k : Nat} {A : Around} (r : Room k A) : A.units + 65 < cLine := by have := r.un; omega
theorem room_u70 {k : Nat} {A : Around} (r : Room k A) : A.units + 70 < cLine := by have := r.un; omega
end

/-! ### x[::-1] -/
section
variable {prog : Program} {w : World} {A : Around} {E : Value → Shared → Prop} {s : Shared}
end
section
variable {X : Cx} {W : WX} {pos : Pos}
def tRevT (K : PySem.W.Frag) (te : TE) : TE := fun σ H Q => te σ H fun x H1 => ∃ a xs, x = .ref a ∧ SqT K H1 a xs ∧ ∀ p, H1 p = none → Q (.ref p) (upd H1 p (.tup xs.reverse))
theorem RVs.reverse {K : PySem.W.Frag} {F : Addr → Prop} {H : Hp} : ∀ {xs : List V} {ds : List PyData}, RVs K F H xs ds → RVs K F H xs.reverse ds.reverse
  | _, [], h => by cases h; exact .nil
  | _, d :: ds, h => by
    cases h with
    | cons h1 h2 =>
      rw [List.reverse_cons, List.reverse_cons]
      exact RVs.append (RVs.reverse h2) (.cons h1 .nil)
def vRev (v : Val) (M : Mm) : Out Val := match v with
  | .d (.tuple ds) => .ok (.d (.tuple ds.reverse)) M
  | v => match listD v M with
    | some ds => .ok (.d (.list ds.reverse)) M
    | none => .bad
def mRev (m : EM) : EM := fun s M => (m s M).bind vRev
/-! ### dict displays with written keys -/
def mDct0 : EM := fun _ M => .ok (.d (.dict [])) M
/-- {} at a place of its own -/
def mDctN : EM := fun _ M => .ok (.obj M.length) (M ++ [.dct []])
theorem pushD {K : PySem.W.Frag} {mg : Str → Option Value} {G : Gh} {M : Mm} {H : Hp} {o : HO} {u : MO} (S : SimM K mg G M H) {p : Addr} (hp : H p = none) (r : Ext G H (G.push p) (upd H p o) → RO K mg (G.push p) (upd H p o) p u) :
    SimM K mg (G.push p) (M ++ [u]) (upd H p o) ∧ Ext G H (G.push p) (upd H p o) ∧ RW K mg (G.push p) (upd H p o) (.ref p) (.obj M.length) := by
  obtain ⟨S1, e1⟩ := S.lay (o := o) hp
  have e2 : Ext G H (G.push p) (upd H p o) := ext_push hp e1
  refine ⟨S1.push (S.newne hp) (by rw [upd_same]; simp) (r e2), e2, p, rfl, ?_⟩
  show (G.φ ++ [p])[M.length]? = some p
  rw [← S.len]
  simp
theorem se_dctN : SE X W (.Dict [] [] pos) mDctN := by
  refine ⟨peImp pe_dnewK fun σ H Q ⟨G, s, M, S, N, p⟩ q hq => ?_⟩
  obtain ⟨S2, e2, r2⟩ := pushD S (o := .dK []) (u := .dct []) hq fun e => ⟨fun z => S.fthere q z hq, [], upd_same, .nil⟩
  exact p _ _ _ e2 S2 r2
theorem putK_new {κ : Type} [DecidableEq κ] {kvs : List (κ × V)} {k : κ} {v : V} (h : k ∉ kvs.map (·.1)) : putK kvs k v = kvs ++ [(k, v)] := by
  unfold putK
  rw [if_neg]
  intro z
  obtain ⟨p, hp, e⟩ := List.any_eq_true.mp z
  exact h (List.mem_map.mpr ⟨p, hp, of_decide_eq_true e⟩)
theorem mergeK_new : ∀ (more kvs : List (Key × V)), ((kvs ++ more).map (·.1)).Nodup → mergeK kvs more = kvs ++ more
  | [], kvs, _ => by simp [mergeK]
  | p :: more, kvs, h => by
    have h' : (((kvs ++ [p]) ++ more).map (·.1)).Nodup := by simpa using h
    have hn : p.1 ∉ kvs.map (·.1) := by
      rw [List.map_append, List.nodup_append] at h
      exact fun z => h.2.2 _ z _ (by simp) rfl
    show mergeK (putK kvs p.1 p.2) more = _
    rw [putK_new hn]
    have := mergeK_new more (kvs ++ [(p.1, p.2)]) h'
    rw [this]
    simp
/-- the values of a display, from the left -/
structure SPs (X : Cx) (W : WX) (pos : Pos) (keys : List (Option Expr)) (values : List Expr) (ks : List Key) (ms : AM) : Prop where
  ex : ∃ trs, PPs X pos keys values trs ∧ ∀ σ H Q, TAm X.K X.mg W ms σ H (fun ys H' => ys.length = ks.length ∧ Q ((ks.zip ys).map fun p => (kV p.1, p.2)) H') → tPairs trs σ H Q
theorem sps_nil {pos : Pos} : SPs X W pos [] [] [] mNil := ⟨[], pps_nil, fun σ H Q ⟨G, s, M, S, N, p⟩ => (p G H [] .refl S .nil).2⟩
theorem sps_cons {pos : Pos} {k v : Expr} {ks : List (Option Expr)} {vs : List Expr} {key : Key} {keys : List Key} {m : EM} {ms : AM} (hk : PE X k (tC (kV key))) (hv : SE X W v m) (hr : SPs X W pos ks vs keys ms) : SPs X W pos (some k :: ks) (v :: vs) (key :: keys) (mCons m ms) := by
  obtain ⟨trs, h1, h2⟩ := hr.ex
  refine ⟨_, pps_cons hk hv.pe h1, fun σ H Q ⟨G, s, M, S, N, p⟩ => ?_⟩
  refine ⟨G, s, M, S, N, Post.bind p fun u M1 G1 H1 y e1 S1 r1 p1 => h2 _ _ _ ⟨G1, s, M1, S1, N.ext e1, Post.bind p1 fun us M2 G2 H2 ys e2 S2 r2 p2 => ?_⟩⟩
  have q := p2 G2 H2 (y :: ys) .refl S2 (.cons (RW.ext e2 r1) r2)
  exact ⟨by simpa using q.1, by simpa using q.2⟩
def dispK (ks : List Key) (vs : List Val) (M : Mm) : Out Val := match allD vs with
  | some ds => if vs.length = ks.length ∧ ks.Nodup ∧ ks.length ≤ 15 then .ok (.d (.dict ((ks.zip ds).map fun p => (keyD p.1, p.2)))) M else .bad
  | none => .bad
def dispN (ks : List Key) (vs : List Val) (M : Mm) : Out Val := if vs.length = ks.length ∧ ks.Nodup ∧ ks.length ≤ 15 then .ok (.obj M.length) (M ++ [.dct ((ks.zip vs).map fun p => (keyD p.1, p.2))]) else .bad
def mDisp (k : List Val → Mm → Out Val) (ms : AM) : EM := fun s M => (ms s M).bind k
theorem rks_zip {K : PySem.W.Frag} {F : Addr → Prop} {H : Hp} : ∀ {ks : List Key} {ys : List V} {ds : List PyData}, RVs K F H ys ds → RKs K F H (ks.zip ys) ((ks.zip ds).map fun p => (keyD p.1, p.2))
  | [], _, _, _ => by simpa using RKs.nil
  | k :: ks, _, [], h => by cases h; simpa using RKs.nil
  | k :: ks, _, d :: ds, h => by
    cases h with
    | cons h1 h2 => exact .cons h1 (rks_zip h2)
theorem rws_zip {K : PySem.W.Frag} {G : Gh} {H : Hp} : ∀ {ks : List Key} {ys : List V} {vs : List Val}, RWs K mg G H ys vs → Paired (fun (y : Key × V) (k : PyData × Val) => k.1 = keyD y.1 ∧ RW K mg G H y.2 k.2) (ks.zip ys) ((ks.zip vs).map fun p => (keyD p.1, p.2))
  | [], _, _, _ => by simpa using Paired.nil
  | k :: ks, _, _, .nil => by simpa using Paired.nil
  | k :: ks, _, _, .cons h t => .cons ⟨rfl, h⟩ (rws_zip t)
theorem zip_keys {ks : List Key} {ys : List V} (h : ys.length = ks.length) : (ks.zip ys).map (·.1) = ks := by
  rw [List.map_fst_zip]
  omega
theorem se_disp {keys : List (Option Expr)} {values : List Expr} {ks : List Key} {ms : AM} {k : List Val → Mm → Out Val} (hk : k = dispK ks ∨ k = dispN ks) (h : SPs X W pos keys values ks ms) (hall : keys.all (·.isSome) = true := by rfl) (hl : keys.length = values.length := by rfl) (h0 : keys ≠ [] := by intro z; cases z)
    (h15 : keys.length ≤ 15 := by decide) : SE X W (.Dict keys values pos) (mDisp k ms) := by
  obtain ⟨trs, hp, hr⟩ := h.ex
  refine ⟨peImp (pe_disp hp hall hl h0 h15) fun σ H Q ⟨G, s, M, S, N, p⟩ q hq => ?_⟩
  obtain ⟨S1, e1⟩ := S.lay (o := .dK []) hq
  have nF : ¬ G.F q := fun z => S.fthere q z hq
  have nφ := S.newne hq
  have p : Post X.K X.mg W G σ H (fun G' H' x v => RW X.K X.mg G' H' x v) Q ((ms s M).bind k) := p
  refine hr _ _ _ ⟨G, s, M, S1, N.ext e1, ?_⟩
  cases em : ms s M with
  | bad => rw [em] at p; exact p.elim
  | er x M1 => rw [em] at p; exact fun G' H' c d e => p G' H' c d (e1.trans e)
  | ok vs M1 =>
    rw [em] at p
    replace p : Post X.K X.mg W G σ H (fun G' H' x v => RW X.K X.mg G' H' x v) Q (k vs M1) := p
    intro G2 H2 ys e2 S2 r2
    have hx : (upd H q (.dK [])) q = some (.dK []) := upd_same
    have nn : (upd H q (.dK [])) q ≠ none := by rw [hx]; simp
    have hx2 : H2 q = some (.dK []) := by rw [e2.keep q nn nφ]; exact hx
    have nφ2 : q ∉ G2.φ := fun z => (e2.φnew q z).elim nφ nn
    have nF2 : ¬ G2.F q := fun z => (e2.Fnew q z).elim nF fun z => z.elim nn nφ
    have eA : Ext G H G2 H2 := e1.trans e2
    have hlen := Paired.len r2
    have common : ∀ (hc : vs.length = ks.length ∧ ks.Nodup ∧ ks.length ≤ 15), ys.length = ks.length ∧ mergeK [] (ks.zip ys) = ks.zip ys := fun hc => by
      have hy : ys.length = ks.length := by rw [hlen]; exact hc.1
      refine ⟨hy, ?_⟩
      have := mergeK_new (ks.zip ys) [] (by rw [List.nil_append, zip_keys hy]; exact hc.2.1)
      simpa using this
    have e0 : ∀ o, Ext0 G2 H2 G2 (upd H2 q o) := fun o => ext0_side nF2 (fun xs z => by rw [hx2] at z; cases z) (fun a b z => by rw [hx2] at z; cases z)
    have S3 : ∀ o, SimM X.K X.mg G2 M1 (upd H2 q o) := fun o => S2.side nφ2 nF2 (fun xs z => by rw [hx2] at z; cases z) (fun a b z => by rw [hx2] at z; cases z)
    have eB : ∀ o, Ext G H G2 (upd H2 q o) := fun o => eA.side hq nF
    rcases hk with rfl | rfl
    · unfold dispK at p
      split at p
      · rename_i ds ed
        split at p
        · rename_i hc
          obtain ⟨c1, c2⟩ := common hc
          refine ⟨c1, hx2, ks.zip ys, rfl, by rw [List.length_zip]; have := hc.2.2; omega, ?_⟩
          rw [c2]
          have e4 : Ext0 G2 (upd H2 q (.dK (ks.zip ys))) (G2.fix q) (upd H2 q (.dK (ks.zip ys))) := ⟨⟨[], by simp [Gh.fix]⟩, fun _ _ h => h, fun _ _ _ h => h, fun b h => ⟨.inr h, rfl⟩⟩
          have S4 := (S3 (.dK (ks.zip ys))).grow e4 rfl (fun _ _ => rfl) (fun a ha h z => z.elim (fun z => nφ2 (z ▸ ha)) h) (fun a h => h.elim (fun z => by rw [z, upd_same]; simp) ((S3 _).fthere a))
          refine p (G2.fix q) _ _ ⟨(eB _).toExt0.trans e4, (eB _).keep, (eB (.dK [])).φnew, fun a h => h.elim (fun z => .inr (.inl (z ▸ hq))) ((eB (.dK [])).Fnew a)⟩ S4 (RV.dct (.inl rfl) upd_same ?_)
          exact rks_zip (RVs.ext0 ((e0 _).trans e4) _ _ (allD_ok ed r2))
        · exact p.elim
      · exact p.elim
    · unfold dispN at p
      split at p
      · rename_i hc
        obtain ⟨c1, c2⟩ := common hc
        refine ⟨c1, hx2, ks.zip ys, rfl, by rw [List.length_zip]; have := hc.2.2; omega, ?_⟩
        rw [c2]
        have e4 : Ext0 G2 (upd H2 q (.dK (ks.zip ys))) (G2.push q) (upd H2 q (.dK (ks.zip ys))) := ext_push0 .refl
        have S4 := (S3 (.dK (ks.zip ys))).push nφ2 (by rw [upd_same]; simp) (o := .dct ((ks.zip vs).map fun p => (keyD p.1, p.2))) ⟨nF2, _, upd_same, rws_zip (RWs.ext0 ((e0 _).trans e4) r2)⟩
        refine p (G2.push q) _ _ ⟨(eB _).toExt0.trans e4, (eB _).keep, fun a h => (List.mem_append.mp h).elim ((eB (.dK [])).φnew a) fun h => by
          have : a = q := by simpa using h
          rw [this]
          exact .inr hq, (eB (.dK [])).Fnew⟩ S4 ⟨q, rfl, ?_⟩
        show (G2.φ ++ [q])[M1.length]? = some q
        rw [← S2.len]
        simp
      · exact p.elim

/-! ### (a, b, ..) = (x, y, ..): through a tuple -/
def sTup (n : Nat) (a : AM) (g : GMs) : SM := fun s M => (a s M).bindS s fun vs M1 => if vs.length = n ∧ n ≤ 1000 then match g vs s M1 with
  | some (s', M') => .nx s' M'
  | none => .bad else .bad
theorem ss_tup {es ts : List Expr} {k k2 : Nat} {p1 p2 : Pos} {ma : AM} {g : GMs} {n : Nat} (hc : X.calm = true) (ha : SA X W es ma) (hg : SGs X ts g) (hn : (assignEach ts X.env).length = n := by rfl) (hst : (assignEach ts X.env).findIdx? (·.1) = none := by rfl)
    (hs : swapsWithSole [.Tuple ts k p1] (.Tuple es k2 p2) pos.line X.env = pure false := by rfl) (hw : swappedStores [.Tuple ts k p1] (.Tuple es k2 p2) X.env = pure none := by rfl)
    (h1 : (assignEach [.Tuple ts k p1] X.env).map (·.2) = [assign (.Tuple ts k p1) X.env] := by rfl) : SS X W (.Assign [.Tuple ts k p1] (.Tuple es k2 p2) pos) (sTup n ma g) := by
  refine ⟨psImp (ps_asg (pe_tup ha.pa) (pg_tup hc hg.pgs hn hst) hs hw h1) fun D σ H ⟨G, s, M, S, N, p⟩ => ⟨G, s, M, S, N, PostS.bind N p fun vs M1 G1 H1 xs e1 S1 r1 p1 => ?_⟩⟩
  split at p1
  · rename_i hl
    have hlen := Paired.len r1
    refine ⟨by rw [hlen, hl.1]; exact Nat.le_trans hl.2 (by decide), fun q hq => ?_⟩
    obtain ⟨S2, e2⟩ := S1.lay (o := .tup xs) hq
    refine ⟨q, xs, rfl, .inl (.inl upd_same), by rw [hlen]; exact hl.1, G1, s, M1, vs, S2, (N.ext e1).ext e2, RWs.ext e2 r1, ?_⟩
    exact PostG.ext e2 (PostG.of p1)
  · exact p1.elim
end
end Zm
namespace Zm
open PySem PySem.Spec PyProof.Rows L2

/-- where a def of the text stands -/
structure DefAt (K : PySem.W.Frag) (mg : Str → Option Value) (x : Str) (st : Stmt) : Prop where
  ex : ∃ f fd, Fun K x x st f fd ∧ mg x = some (.ref f)
/-- what a def does -/
structure DefZ (P : Program) (w : World) (K : PySem.W.Frag) (mg : Str → Option Value) (base : Heap) (k : Nat) (x : Str) (st : Stmt) (ps : List Str) (den : Den) : Prop where
  ex : ∃ f fd, Fun K x x st f fd ∧ mg x = some (.ref f) ∧ FnZ P w K mg base k f fd ps den
/-- how the arguments of a def of the text bind -/
def BindZ (x : Str) (st : Stmt) (ps : List Str) : Prop := ∀ (kV doc pm : Value) (an : Option Addr) (cdv ct : Value) (us : List Value), us.length = ps.length →
  bindArgs (PySem.W.fnOf x x (defArgs st) (defBody st) (defScope st) .none kV doc pm an cdv ct) ⟨us, []⟩ = pure (ps.zip us)
def KBindZ (x : Str) (st : Stmt) (ps ks : List Str) (np nk : Nat) (ix : List Nat) : Prop := ∀ (kV doc pm : Value) (an : Option Addr) (cdv ct : Value) (us ws : List Value), us.length = np → ws.length = nk →
  bindArgs (PySem.W.fnOf x x (defArgs st) (defBody st) (defScope st) .none kV doc pm an cdv ct) ⟨us, ks.zip ws⟩ = pure (ps.zip (pickBy ix (us ++ ws))) ∧ (pickBy ix (us ++ ws)).length = ps.length
theorem defZ {P : Program} {w : World} {K : PySem.W.Frag} {mg : Str → Option Value} {base : Heap} {x : Str} {st : Stmt} {N ps : List Str} {k : Nat} {b : SM} (D : DefAt K mg x st) (S : FnScope N ps (defScope st)) (hps : ps.length ≤ N.length)
    (hbody : ∀ (f : Addr) (cdv : Value) (A : Around) (outer : List Env) (s : Shared) (H : Hp) (E : XK), Room k (A.deeper (envOfC x (defScope st) s.heap.objs.size f cdv)) → (CxZ P w K mg base N x (defScope st) f cdv A outer s H E).A.guards = some [] →
      SSs (CxZ P w K mg base N x (defScope st) f cdv A outer s H E) (fun c d _ H' => E c d H') (defBody st) b) : DefZ P w K mg base (k + 1) x st ps (trim (body N.length b)) := by
  obtain ⟨f, fd, F, g⟩ := D.ex
  exact ⟨f, fd, F, g, (Fun.fnz F S hps fun cdv A outer s H E hr hG => hbody f cdv A outer s H E hr hG).trim⟩
theorem defAt {K : PySem.W.Frag} {h : Heap} {mg : Str → Option Value} {x : Str} {st : Stmt} {f : Addr} {oc : Value} {od an : Option Addr} {osl : Array (Option Value)} {kV doc pm cdv ct : Value} (X : K.In h) (G : h.Ns mainGlobals mg) (a : PySem.W.nsIn K mainGlobals x = some (some (.ref f)))
    (l : K.lookup f = some ⟨oc, od, .func (PySem.W.fnOf x x (defArgs st) (defBody st) (defScope st) .none kV doc pm an cdv ct), osl⟩) (c : PySem.W.codeIn K cdv x = true) (k : PySem.W.keepIn K (.ref f) = true) : DefAt K mg x st :=
  ⟨f, _, fun_mk l c k, PySem.W.mg_of X G a⟩
/-- the law's own def, for the end -/
theorem defZ_law {P : Program} {w : World} {K : PySem.W.Frag} {mg : Str → Option Value} {k : Nat} {st : Stmt} {den : Den} {fa : Addr} (hfa : mg "law" = some (.ref fa)) (hb : BindZ "law" st ["script"])
    (D : ∀ base : Heap, DefZ P w K mg base k "law" st ["script"] den) (D0 : DefAt K mg "law" st) : ∃ fd : FuncData, (∀ (s : Shared) (u : Value), BindsTo s fd ⟨[u], []⟩ [("script", u)]) ∧ ∀ base : Heap, FnZ P w K mg base k fa fd ["script"] den := by
  obtain ⟨f, fd, F, g⟩ := D0.ex
  have e := hfa.symm.trans g
  cases e
  refine ⟨fd, fun s u => ?_, fun base => ?_⟩
  · obtain ⟨oc, od, kV, doc, pm, an, cdv, ct, osl, rfl, lk, hcd⟩ := F.ex
    exact .of_eq (hb kV doc pm an cdv ct [u] rfl)
  · obtain ⟨f', fd', F', g', Z⟩ := (D base).ex
    have e := g.symm.trans g'
    cases e
    obtain ⟨_, _, _, _, _, _, _, _, _, _, l1, _⟩ := F.ex
    obtain ⟨_, _, _, _, _, _, _, _, _, _, l2, _⟩ := F'.ex
    rw [l1] at l2
    cases l2
    exact Z
section
variable {X : Cx} {W : WX} {k : Nat} {ps : List Str} {den : Den} {x : Str} {st : Stmt} {p pos : Pos} {e : Expr} {es : List Expr} {ms mk : AM}
theorem se_callD {n : Nat} (D : DefZ X.prog X.w X.K X.mg X.base k x st ps den) (hb : BindZ x st ps) (hr : Room k X.A) (hG : X.A.guards = some []) (tk : Takes X W) (hg : Gl X x)
    (ha : SA X W (e :: es) ms) (hn : ps.length = n := by rfl) (hdb : (x == ("__debug__" : Str)) = false := by decide) (he : starEach (e :: es) X.env = (false, eval e X.env) :: starEach es X.env := by rfl)
    (hpl : (backTo pos (starEach es X.env)).any (·.1) = false := by rfl) : SE X W (.Call (.Name x p) (e :: es) [] pos) (mCall n den ms) := by
  obtain ⟨f, fd, F, g, Z⟩ := D.ex
  exact se_call Z hr hG tk hg g F.kp (F.binds hb) ha hn hdb he hpl
theorem se_callDK0 {nk : Nat} {ks : List Str} {ix : List Nat} {kws : List Keyword} (D : DefZ X.prog X.w X.K X.mg X.base k x st ps den) (hb : KBindZ x st ps ks 0 nk ix) (hr : Room k X.A) (hG : X.A.guards = some []) (tk : Takes X W) (hg : Gl X x)
    (hkw : SK X W kws mk)
    (hall : (backToKw pos (keywordEach kws X.env)).all (·.1.isSome) = true := by rfl) (hks : (backToKw pos (keywordEach kws X.env)).filterMap (·.1) = ks := by rfl)
    (hdb : (x == ("__debug__" : Str)) = false := by decide)
    (hpl : ((backTo pos (starEach [] X.env)).any (·.1) || (backToKw pos (keywordEach kws X.env)).any (·.1.isNone)) = false := by rfl) : SE X W (.Call (.Name x p) [] kws pos) (mCallK 0 nk den ix mNil mk) := by
  obtain ⟨f, fd, F, g, Z⟩ := D.ex
  exact se_callK0 Z hr hG tk hg g F.kp (kbz F hb) hkw hall hks hdb hpl
/-! ### what is walked, in short -/
theorem si_seqE {tg e : Expr} {m : EM} (h : SE X W e m) : SI X W tg e (mIt m) := si_seq h (pi_list h.pe) (pi_tup h.pe)
theorem si_enumE {ts : List Expr} {kk : Nat} {tpos : Pos} (hg : Gl X "enumerate") (hm : X.mg "enumerate" = none) (ha : SA X W [e] ms) (hs : starEach [e] X.env = [(false, eval e X.env)] := by rfl) : SI X W (.Tuple ts kk tpos) (.Call (.Name "enumerate" p) [e] [] pos) (mEnum ms) :=
  si_enum ha (pi_enum hg hm ha.pa hs) (pi_enumT hg hm ha.pa hs)
theorem si_range1E {tg : Expr} (hg : Gl X "range") (hm : X.mg "range" = none) (ha : SA X W [e] ms) (hs : starEach [e] X.env = [(false, eval e X.env)] := by rfl) : SI X W tg (.Call (.Name "range" p) [e] [] pos) (mRange1 ms) :=
  si_range1 (pi_range1 hg hm ha.pa hs)
end
end Zm
namespace Zm
open PySem PySem.Spec PyProof.Rows L2
variable {X : Cx} {W : WX}
/-! ### a range, laid out as a list -/
def ranD (lo hi : Int) : List PyData := (List.range (hi - lo).toNat).map fun i => .int (lo + (i : Nat))
def okR (i : Int) : Bool := decide (0 ≤ i) && decide (i ≤ 16777216)
theorem okR_rg {a b : Int} (h1 : okR a = true) (h2 : okR b = true) : RgOk a b := by
  unfold okR at h1 h2
  rw [Bool.and_eq_true, decide_eq_true_eq, decide_eq_true_eq] at h1 h2
  exact .of_le h1.1 h2.2 h1.2 h2.1
theorem rvs_rgV {K : PySem.W.Frag} {F : Addr → Prop} {H : Hp} (a b : Int) : RVs K F H (rgV a b) (ranD a b) := by
  unfold rgV ranD
  induction List.range (b - a).toNat with
  | nil => exact .nil
  | cons n ns ih => exact .cons (.int _) ih
def mLR1 (m : EM) : EM := fun s M => (m s M).bind fun v M1 => match v with
  | .d (.int j) => if okR j then .ok (.d (.list (ranD 0 j))) M1 else .bad
  | _ => .bad
def mLR1N (m : EM) : EM := fun s M => (m s M).bind fun v M1 => match v with
  | .d (.int j) => if okR j then .ok (.obj M1.length) (M1 ++ [.lst ((ranD 0 j).map .d)]) else .bad
  | _ => .bad
theorem se_lr1 {a : Expr} {m : EM} {p p2 pos pos2 : Pos} (hc : X.calm = true) (hgl : Gl X "list") (hml : X.mg "list" = none) (hg : Gl X "range") (hm : X.mg "range" = none) (ha : SE X W a m)
    (na : starEach [a] X.env = (false, eval a X.env) :: starEach [] X.env := by rfl)
    (nb : starEach [.Call (.Name "range" p2) [a] [] pos2] X.env = (false, eval (.Call (.Name "range" p2) [a] [] pos2) X.env) :: starEach [] X.env := by rfl) : SE X W (.Call (.Name "list" p) [.Call (.Name "range" p2) [a] [] pos2] [] pos) (mLR1 m) := by
  refine ⟨peImp (pe_listRg hc hgl hml (prg_1 hg hm ha.pe na) nb) fun σ H Q ⟨G, s, M, S, N, p⟩ => ⟨G, s, M, S, N, Post.bind p fun v M1 G1 H1 x e1 S1 r1 p1 => ?_⟩⟩
  split at p1
  · rename_i j
    have r1 : RV X.K G1.F H1 x (.int j) := r1
    cases r1
    split at p1
    · rename_i hj
      refine ⟨j, rfl, okR_rg (by decide) hj, fun q hq => ?_⟩
      obtain ⟨S2, e2⟩ := S1.layF (o := .lst (rgV 0 j)) hq
      exact p1 _ _ _ e2 S2 (RV.lst (.inl rfl) upd_same (rvs_rgV 0 j))
    · exact p1.elim
  · exact p1.elim
def rg2 (vs : List Val) : Option (List PyData) := match vs with
  | [.d (.int i), .d (.int j)] => if okR i && okR j then some (ranD i j) else none
  | _ => none
/-! ### a tuple times a number -/
theorem tuple_mul1 (l : Addr) (items : Array Value) (n : Nat) (dd : Option Addr) (sl : Array (Option Value)) (x : Int) (u : Tok) (c0 : (decide (x < -(2 ^ 63)) || decide (x ≥ 2 ^ 63)) = false) (c1 : (items.isEmpty || x == 1) = true) :
    Meets (Builtin.«tuple.__mul__» ⟨[.ref l, .int x u], []⟩) (fun _ R s => s.heap.get? l = some { cls := .type "tuple", dict := dd, data := .seq items n, slots := sl } ∧ R (.ok (.ret (Value.ref l))) s) :=
  .of_wp fun prog w A R s h => by
    obtain ⟨hp, g, d, tk, os⟩ := s
    obtain ⟨hl, h⟩ := h
    have f1 := AutoSeq1.idx_int
    wp_walk using wpAny_loadPart' hl
    repeat (first
      | (refine wpAny_ite_false (decide_eq_false (by rw [c0]; exact Bool.false_ne_true)) ?_; wp_walk using wpAny_loadPart' hl)
      | (refine wpAny_ite_true (decide_eq_true (by rw [c1])) ?_; wp_walk using wpAny_loadPart' hl))
    exact ⟨_, rfl, h⟩
def rRepT1 (K : PySem.W.Frag) : R2 := fun x y H Q => ∃ l k xs, x = .ref l ∧ y = .int k ∧ SqT K H l xs ∧ (xs = [] ∨ k = 1) ∧ k.natAbs ≤ 1000 ∧ Q x H
theorem op_repT1 : OpR X (binaryOp .Mult) (rRepT1 X.K) := by
  intro pins s σ H x y v u Q I rx ry h
  obtain ⟨l, k, xs, rfl, rfl, hT, hk, hz, q⟩ := h
  cases rx
  obtain ⟨t, rfl⟩ := ry
  obtain ⟨its, r, ⟨⟨cls, dd, data, sl⟩, ho, hc, n, hd⟩, hs⟩ := I.tuple hT
  simp only at hc hd
  subst hc hd
  have hle : its.length = xs.length := r.length.symm
  have c0 : (decide (k < -(2 ^ 63)) || decide (k ≥ 2 ^ 63)) = false := by
    rw [decide_eq_false (by omega), decide_eq_false (by omega)] <;> rfl
  have c1 : (its.toArray.isEmpty || k == 1) = true := by
    rcases hk with rfl | rfl
    · have : its = [] := List.eq_nil_of_length_eq_zero hle
      subst this
      rfl
    · rw [Bool.or_eq_true]
      exact .inr rfl
  refine wpAny_binaryOp_repeat_ref (T := "tuple") (U := "int") (by decide) ⟨_, ho, rfl⟩ (fun s' => typeIs_int s' k t) noFill_tuple_mul F.fills_int_mul F.slot_int_rmul repeat_tuple F.slot_int_index.lookup
    (call_meets F.slot_int_rmul (typeIs_int s k t) F.entry_int_rmul (F.args_int_rmul_2 _ _) (int_rmul_tuple k t l its.toArray n dd sl)
      ⟨ho, rfl, ⟨_, ho, rfl⟩, call_meets F.slot_tuple_mul ⟨_, ho, rfl⟩ F.entry_tuple_mul (F.args_tuple_mul_2 _ _) (tuple_mul1 l its.toArray n dd sl k t c0 c1) ⟨ho, ?_⟩⟩)
  exact ⟨.ref l, _, I, rfl, q⟩
theorem tuple_mul0 (l : Addr) (items : Array Value) (n : Nat) (dd : Option Addr) (sl : Array (Option Value)) (x : Int) (u : Tok) (c0 : (decide (x < -(2 ^ 63)) || decide (x ≥ 2 ^ 63)) = false) (c1 : (items.isEmpty || x == 1) = false) (c2 : (decide (x ≤ 0) || items.isEmpty) = true) :
    Meets (Builtin.«tuple.__mul__» ⟨[.ref l, .int x u], []⟩) (fun _ R s => s.heap.get? l = some { cls := .type "tuple", dict := dd, data := .seq items n, slots := sl } ∧
      R (.ok (.ret (Value.ref s.heap.objs.size))) { s with heap := s.heap.push { cls := Value.type "tuple", data := Data.seq #[] }, toks := s.toks }) :=
  .of_wp fun prog w A R s h => by
    obtain ⟨hp, g, d, tk, os⟩ := s
    obtain ⟨hl, h⟩ := h
    have f1 := AutoSeq1.idx_int
    wp_walk using wpAny_loadPart' hl
    repeat (first
      | (refine wpAny_ite_false (decide_eq_false (by rw [c0]; exact Bool.false_ne_true)) ?_; wp_walk using wpAny_loadPart' hl)
      | (refine wpAny_ite_false (decide_eq_false (by rw [c1]; exact Bool.false_ne_true)) ?_; wp_walk using wpAny_loadPart' hl)
      | (refine wpAny_ite_true (decide_eq_true (by rw [c2])) ?_; wp_walk using wpAny_loadPart' hl))
    exact ⟨_, rfl, h⟩
def rRepT0 (K : PySem.W.Frag) : R2 := fun x y H Q => ∃ l k xs, x = .ref l ∧ y = .int k ∧ SqT K H l xs ∧ xs ≠ [] ∧ k ≤ 0 ∧ -1000 ≤ k ∧ ∀ p, H p = none → Q (.ref p) (upd H p (.tup []))
theorem op_repT0 : OpR X (binaryOp .Mult) (rRepT0 X.K) := by
  intro pins s σ H x y v u Q I rx ry h
  obtain ⟨l, k, xs, rfl, rfl, hT, hne, h1, h2, q⟩ := h
  cases rx
  obtain ⟨t, rfl⟩ := ry
  obtain ⟨its, r, ⟨⟨cls, dd, data, sl⟩, ho, hc, n, hd⟩, hs⟩ := I.tuple hT
  simp only at hc hd
  subst hc hd
  have hle : its.length = xs.length := r.length.symm
  have hi : its.toArray.isEmpty = false := by
    cases its with
    | nil => exact absurd (List.eq_nil_of_length_eq_zero hle.symm) hne
    | cons a b => rfl
  have c0 : (decide (k < -(2 ^ 63)) || decide (k ≥ 2 ^ 63)) = false := by
    rw [decide_eq_false (by omega), decide_eq_false (by omega)] <;> rfl
  have c1 : (its.toArray.isEmpty || k == 1) = false := by
    rw [hi, Bool.false_or]
    exact beq_eq_false_iff_ne.mpr (by omega)
  have c2 : (decide (k ≤ 0) || its.toArray.isEmpty) = true := by
    rw [decide_eq_true h1]
    rfl
  refine wpAny_binaryOp_repeat_ref (T := "tuple") (U := "int") (by decide) ⟨_, ho, rfl⟩ (fun s' => typeIs_int s' k t) noFill_tuple_mul F.fills_int_mul F.slot_int_rmul repeat_tuple F.slot_int_index.lookup
    (call_meets F.slot_int_rmul (typeIs_int s k t) F.entry_int_rmul (F.args_int_rmul_2 _ _) (int_rmul_tuple k t l its.toArray n dd sl)
      ⟨ho, rfl, ⟨_, ho, rfl⟩, call_meets F.slot_tuple_mul ⟨_, ho, rfl⟩ F.entry_tuple_mul (F.args_tuple_mul_2 _ _) (tuple_mul0 l its.toArray n dd sl k t c0 c1 c2) ⟨ho, ?_⟩⟩)
  refine ⟨.ref s.heap.objs.size, _, I.laid (t' := s.toks) (o := .tup []) (fun b ob q => Heap.get?_push_of_some _ q) (Nat.le_refl _) ?_, rfl, q _ (I.hok.fresh (Nat.le_refl _))⟩
  exact ⟨Nat.zero_le _, [], .nil, IsTup.new _ _⟩
/-- a product of ints, or so many times a tuple or a list -/
def vMulX (v w : Val) (M : Mm) : Out Val := match v, w with
  | .d (.int a), .d (.int b) => if smallI a || smallI b then .ok (.d (.int (a * b))) M else .bad
  | .d (.tuple ds), .d (.int k) => if ds.isEmpty || decide (k = 1) then (if k.natAbs ≤ 1000 then .ok (.d (.tuple ds)) M else .bad)
    else if 2 ≤ k ∧ k ≤ 1000 ∧ ds.length ≤ 1000 then .ok (.d (.tuple (List.replicate k.toNat ds).flatten)) M else if k ≤ 0 ∧ -1000 ≤ k then .ok (.d (.tuple [])) M else .bad
  | v, .d (.int k) => match trackD v M with
    | some ds => if k.natAbs ≤ 1000000000 ∧ ds.length * k.toNat ≤ 16777216 then .ok (.d (.list (List.replicate k.toNat ds).flatten)) M else .bad
    | none => .bad
  | _, _ => .bad
theorem RVs.rep {K : PySem.W.Frag} {F : Addr → Prop} {H : Hp} {xs : List V} {ds : List PyData} (h : RVs K F H xs ds) : ∀ n : Nat, RVs K F H (List.replicate n xs).flatten (List.replicate n ds).flatten
  | 0 => .nil
  | n + 1 => by
    rw [List.replicate_succ, List.replicate_succ, List.flatten_cons, List.flatten_cons]
    exact RVs.append h (RVs.rep h n)
theorem oz_mulx : OpZ X (fun x y H Q => (rI CMul fun i j => .int (i * j)) x y H Q ∨ rRepT1 X.K x y H Q ∨ rRepT X.K x y H Q ∨ rRep x y H Q ∨ rRepT0 X.K x y H Q) vMulX := by
  intro W G M σ H Q x y v w S r1 r2 p
  unfold vMulX at p
  split at p
  · rename_i a b
    have r1 : RV X.K G.F H x (.int a) := r1
    have r2 : RV X.K G.F H y (.int b) := r2
    cases r1; cases r2
    split at p
    · rename_i hc
      rw [Bool.or_eq_true] at hc
      exact .inl ⟨a, b, rfl, rfl, hc.imp smallI_ok smallI_ok, p G H _ .refl S (RV.int _)⟩
    · exact p.elim
  · rename_i ds k
    have q1 := r1
    have r1 : RV X.K G.F H x (.tuple ds) := r1
    have r2 : RV X.K G.F H y (.int k) := r2
    cases r2
    cases r1 with
    | @tup pa xs _ h1 h2 =>
      split at p
      · rename_i hc
        split at p
        · rename_i hz
          refine .inr (.inl ⟨pa, k, xs, rfl, rfl, SqT.of h1, ?_, hz, p G H _ .refl S q1⟩)
          rw [Bool.or_eq_true, decide_eq_true_eq] at hc
          refine hc.imp (fun e => ?_) id
          cases ds with
          | nil => cases h2; rfl
          | cons _ _ => cases e
        · exact p.elim
      · rename_i hc
        split at p
        · rename_i hz
          refine .inr (.inr (.inl ⟨pa, k, xs, rfl, rfl, SqT.of h1, fun e => ?_, hz.1, hz.2.1, by rw [h2.len]; exact hz.2.2, fun q hq => ?_⟩))
          · subst e
            cases h2
            exact hc rfl
          · obtain ⟨S2, e2⟩ := S.lay (o := .tup (List.replicate k.toNat xs).flatten) hq
            exact p _ _ _ e2 S2 (RV.tup upd_same (RVs.rep (RVs.ext e2 _ _ h2) _))
        · split at p
          · rename_i hz
            refine .inr (.inr (.inr (.inr ⟨pa, k, xs, rfl, rfl, SqT.of h1, fun e => ?_, hz.1, hz.2, fun q hq => ?_⟩)))
            · subst e
              cases h2
              exact hc rfl
            · obtain ⟨S2, e2⟩ := S.lay (o := .tup []) hq
              exact p _ _ _ e2 S2 (RV.tup upd_same .nil)
          · exact p.elim
  · rename_i k n1 n2
    split at p
    · rename_i ds hd
      split at p
      · rename_i hz
        obtain ⟨pa, xs, rfl, h1, h2⟩ := trackD_ok S r1 hd
        have r2 : RV X.K G.F H y (.int k) := r2
        cases r2
        refine .inr (.inr (.inr (.inl ⟨pa, k, xs, rfl, rfl, h1, by omega, by omega, by rw [h2.len]; exact hz.2, fun q hq => ?_⟩)))
        obtain ⟨S2, e2⟩ := S.layF (o := .lst (List.replicate k.toNat xs).flatten) hq
        exact p _ _ _ e2 S2 (RV.lst (.inl rfl) upd_same (RVs.rep (RVs.ext e2 _ _ h2) _))
      · exact p.elim
    · exact p.elim
  · exact p.elim
theorem se_mulx {a b : Expr} {ma mb : EM} {pos : Pos} (ha : SE X W a ma) (hb : SE X W b mb) : SE X W (.BinOp a .Mult b pos) (mOp vMulX ma mb) :=
  se_op (OpR.or op_mul (OpR.or op_repT1 (OpR.or op_repT (OpR.or op_rep op_repT0)))) oz_mulx ha hb
end Zm
namespace Zt
open PySem PySem.Spec PyProof.Rows L2 SrtO Srt
variable {prog : Program} {w : World} {A : Around} {s : Shared} {E : Value → Shared → Prop}
/-- a tuple of one word and two numbers -/
def IsTri (h : Heap) (z : Str) (v : Value) (x y : Int) : Prop := ∃ a o r t u n, v = .ref a ∧ h.get? a = some o ∧ o.cls = .type "tuple" ∧ o.data = .seq #[.str z r, .int x t, .int y u] n
theorem IsTri.keeps {h h' : Heap} {z : Str} {v : Value} {x y : Int} (p : IsTri h z v x y) (k : ∀ b o, h.get? b = some o → o.cls = .type "tuple" → h'.get? b = some o) : IsTri h' z v x y := by
  obtain ⟨a, o, r, t, u, n, e, ho, hc, hd⟩ := p
  exact ⟨a, o, r, t, u, n, e, k _ _ ho hc, hc, hd⟩
theorem tri_firsts {h : Heap} {z : Str} : ∀ {its : List Value}, (∀ v ∈ its, ∃ x y, IsTri h z v x y) → ∃ heads : List Value, PySem.W.KatTups h its heads ∧ heads.length = its.length ∧ ∀ f ∈ heads, ∃ t, f = Value.str z t
  | [], _ => ⟨[], PySem.W.KatTups.nil, rfl, fun _ mp => by simp at mp⟩
  | v :: its, trs => by
    obtain ⟨heads, g1, g2, g3⟩ := tri_firsts (its := its) fun v' mp => trs v' (List.mem_cons_of_mem _ mp)
    obtain ⟨x, y, a, o, r, t, u, n, e, go1, gc, gd⟩ := trs v (List.mem_cons_self ..)
    subst e
    refine ⟨.str z r :: heads, PySem.W.KatTups.cons go1 gc gd rfl g1, by rw [List.length_cons, List.length_cons, g2], fun f mp => ?_⟩
    rcases List.mem_cons.mp mp with rfl | mp
    · exact ⟨_, rfl⟩
    · exact g3 f mp
theorem tri_cmp {z : Str} {its : List Value} {k : Value → Int × Int} (trs : ∀ v ∈ its, IsTri s.heap z v (k v).1 (k v).2) : Cmp prog w A s (tuples' true) (fun p => p.1 ∈ its) (lt2 fun v u => lexB (k v) (k u)) := by
  intro p q mp mq
  have g1 := trs _ mp
  have g2 := trs _ mq
  show wpAny (model prog w) A (keyLt' (tuples' true) p.1 q.1) (fun r s' => s' = s ∧ r = lexB (k p.1) (k q.1)) (fun _ _ => False) s
  unfold lexB
  generalize (k p.1).1 = x at g1 ⊢
  generalize (k p.1).2 = y at g1 ⊢
  generalize (k q.1).1 = x' at g2 ⊢
  generalize (k q.1).2 = y' at g2 ⊢
  obtain ⟨a, o, r0, t, u, n, e, go1, gc, gd⟩ := g1
  obtain ⟨a', o', r1, t', u', n', e', go2, gc2, gd2⟩ := g2
  rw [e, e']
  refine PySem.W.kat_lt go1 gd go2 gd2 ?_
  show PySem.W.KatLex prog w A true (decide (3 < 3)) _ [(.str z r0, .str z r1), (.int x t, .int x' t'), (.int y u, .int y' u')] 0 s
  refine PySem.W.kat_cons (SeqAt.EqAt.str_str z r0 z r1 prog w _ _ ?_)
  refine PySem.W.kat_go (fun _ => ?_) (fun e0 => absurd e0 (by simp))
  refine PySem.W.kat_yes (PySem.W.kat_cons (SeqAt.EqAt.int_int x t x' t' prog w _ _ ?_))
  refine PySem.W.kat_go (fun c1 => ?_) (fun c1 => ?_)
  · have same1 : x = x' := by simpa using c1
    refine PySem.W.kat_yes (PySem.W.kat_cons (SeqAt.EqAt.int_int y u y' u' prog w _ _ ?_))
    refine PySem.W.kat_go (fun c2 => ?_) (fun c2 => ?_)
    · have same2 : y = y' := by simpa using c2
      have both : (if x = x' then decide (y < y') else decide (x < x')) = false := by
        rw [if_pos same1, same2]
        exact decide_eq_false (Int.lt_irrefl _)
      exact PySem.W.kat_yes (PySem.W.kat_nil ⟨rfl, both.symm⟩)
    · have both : (if x = x' then decide (y < y') else decide (x < x')) = decide (y < y') := if_pos same1
      refine PySem.W.kat_no (PySem.W.kat_one _ _ (PyProof.Rows.lt_int ?_))
      exact (show s = s ∧ decide (y < y') = (if x = x' then decide (y < y') else decide (x < x')) from ⟨rfl, both.symm⟩)
  · have same1 : ¬ x = x' := by simpa using c1
    have both : (if x = x' then decide (y < y') else decide (x < x')) = decide (x < x') := if_neg same1
    refine PySem.W.kat_no (PySem.W.kat_one _ _ (PyProof.Rows.lt_int ?_))
    exact (show s = s ∧ decide (x < x') = (if x = x' then decide (y < y') else decide (x < x')) from ⟨rfl, both.symm⟩)
theorem tris_sortable {z : Str} {a : Addr} {its : List Value} {k : Value → Int × Int} (some1 : 0 < its.length) (trs : ∀ v ∈ its, IsTri s.heap z v (k v).1 (k v).2) (tops : ∀ o, s.heap.get? a = some o → o.cls ≠ .type "tuple") : SortableO prog w A s a its fun v u => lexB (k v) (k u) := by
  intro h' stay
  have held : ∀ v ∈ its, IsTri h' z v (k v).1 (k v).2 := fun v mp => (trs v mp).keeps fun b o e c => stay b o (fun z => by subst z; exact tops o e c) e
  obtain ⟨heads, g1, g2, g3⟩ := tri_firsts fun v mp => ⟨_, _, held v mp⟩
  refine ⟨tuples' true, fun Q E fin => ?_, tri_cmp held⟩
  refine PySem.W.kat_kind (T := .type "str") g1 (by omega) (fun f mp => ?_) (by rfl) ?_
  · obtain ⟨t, rfl⟩ := g3 f mp
    exact PySem.W.Looks.now
  · have e : (Value.type "str" != Value.type "tuple") = true := by first | decide +kernel | rfl | decide
    rw [e]
    exact fin
theorem sorted_tris {z : Str} {l : Addr} {its : List Value} {k : Value → Int × Int} {Q : Value → Shared → Prop} (lst : s.heap.IsList l its.toArray) (short : its.length ≤ sizeLine) (trs : ∀ v ∈ its, IsTri s.heap z v (k v).1 (k v).2)
    (h : ∀ (h' : Heap) (d : Addr) (res : List Value), Srtd (fun v u => lexB (k v) (k u)) res → Stb (fun v u => lexB (k v) (k u)) res its → (∀ b o, s.heap.get? b = some o → h'.get? b = some o) → s.heap.objs.size ≤ d → (∃ n, h'.get? d = some (seqObj "list" res.toArray n)) → Q (.ref d) { s with heap := h' }) :
    wpAny (model prog w) A (call (.builtin "sorted") [.ref l]) Q E s := by
  refine sorted_ord (swo_lex k) lst short (fun g2 hN a tops old => ?_) fun res srt stb => ?_
  · refine tris_sortable (z := z) (s := { s with heap := hN }) (by omega) (fun v mp => (trs v mp).keeps fun b o e _ => (old b o e).2) fun o e => ?_
    have e' : some o = some (seqObj "list" its.toArray 0) := e.symm.trans tops
    cases e'
    intro c
    exact absurd (Value.type.inj c) (by decide)
  · exact h _ _ res srt stb (fun b o e => sortedAll_old e) (Nat.le_succ _) (sortedAll_at s.heap its res.toArray)
end Zt
namespace Zm
open PySem PySem.Spec PyProof.Rows L2
/-- a tuple of one word and two numbers -/
def triD (z : Str) (p : Int × Int) : PyData := .tuple [.str z, .int p.1, .int p.2]
def toT (z : Str) : PyData → Option (Int × Int)
  | .tuple [.str y, .int a, .int b] => if y = z then some (a, b) else none
  | _ => none
theorem toT_ok {z : Str} {d : PyData} {p : Int × Int} (h : toT z d = some p) : d = triD z p := by
  unfold toT at h
  split at h
  · split at h
    · rename_i e; cases h; subst e; rfl
    · cases h
  · cases h
def allT (z : Str) : List PyData → Option (List (Int × Int))
  | [] => some []
  | d :: r => match toT z d, allT z r with
    | some p, some ps => some (p :: ps)
    | _, _ => none
theorem allT_ok {z : Str} : ∀ {ds : List PyData} {ps : List (Int × Int)}, allT z ds = some ps → ds = ps.map (triD z)
  | [], _, h => by cases h; rfl
  | d :: r, ps, h => by
    unfold allT at h
    split at h
    · rename_i p qs e1 e2
      cases h
      rw [toT_ok e1, allT_ok e2]
      rfl
    · cases h
/-- the word ahead -/
def headW : List PyData → Option Str
  | .tuple (.str z :: _) :: _ => some z
  | _ => none
def kT (H : Hp) (v : V) : Int × Int := match v with
  | .ref t => match H t with
    | some (.tup [_, .int a, .int b]) => (a, b)
    | _ => (0, 0)
  | _ => (0, 0)
theorem rvs_tris {K : PySem.W.Frag} {F : Addr → Prop} {H : Hp} {z : Str} : ∀ {ps : List (Int × Int)} {xs : List V}, RVs K F H xs (ps.map (triD z)) → xs.map (kT H) = ps ∧ ∀ x ∈ xs, ∃ t, x = V.ref t ∧ H t = some (.tup [.str z, .int (kT H x).1, .int (kT H x).2])
  | [], _, h => by cases h; exact ⟨rfl, fun _ h => by cases h⟩
  | (a, b) :: ps, _, h => by
    cases h with
    | @cons v vs _ _ h1 h2 =>
      obtain ⟨e1, e2⟩ := rvs_tris h2
      have h1 : RV K F H v (.tuple [.str z, .int a, .int b]) := h1
      cases h1 with
      | @tup t ys _ g1 g2 =>
        cases g2 with
        | cons g2 g3 =>
          cases g3 with
          | cons g3 g4 =>
            cases g4 with
            | cons g4 g5 =>
              cases g5; cases g2; cases g3; cases g4
              have ek : kT H (.ref t) = (a, b) := by simp [kT, g1]
              refine ⟨by rw [List.map_cons, e1, ek], fun x hx => ?_⟩
              rcases List.mem_cons.mp hx with rfl | hx
              · exact ⟨t, rfl, by rw [ek]; exact g1⟩
              · exact e2 x hx
theorem rvs_of_kT {K : PySem.W.Frag} {F : Addr → Prop} {H : Hp} {z : Str} : ∀ {xs : List V}, (∀ x ∈ xs, ∃ t, x = V.ref t ∧ H t = some (.tup [.str z, .int (kT H x).1, .int (kT H x).2])) → RVs K F H xs ((xs.map (kT H)).map (triD z))
  | [], _ => .nil
  | x :: xs, h => by
    obtain ⟨t, e, ht⟩ := h x List.mem_cons_self
    subst e
    exact .cons (.tup ht (.cons (.str _) (.cons (.int _) (.cons (.int _) .nil)))) (rvs_of_kT fun y hy => h y (List.mem_cons_of_mem _ hy))
def rSortT (K : PySem.W.Frag) : List V → Hp → VK → Prop := fun vs H Q => ∃ (a : Addr) (xs : List V) (z : Str) (k : V → Int × Int), vs = [V.ref a] ∧ SqL K H a xs ∧ (∀ x ∈ xs, ∃ t, x = V.ref t ∧ H t = some (.tup [.str z, .int (k x).1, .int (k x).2])) ∧
  ∀ ys p, SrtO.Srtd (ltP k) ys → SrtO.Stb (ltP k) ys xs → H p = none → Q (.ref p) (upd H p (.lst ys))
section
variable {X : Cx}
theorem vals3 {x y z : V} {us : List Value} (r : Vals [x, y, z] us) : ∃ u v w, us = [u, v, w] ∧ RelV x u ∧ RelV y v ∧ RelV z w := by
  cases r with
  | cons a r => cases r with
    | cons b r => cases r with
      | cons c r => cases r; exact ⟨_, _, _, rfl, a, b, c⟩
theorem cr_sortT3 : CallR X (.builtin "sorted") (rSortT X.K) := by
  intro pins s σ H vs us Q I r h
  obtain ⟨a, xs, z, k, rfl, hs, hx, q⟩ := h
  obtain ⟨ivs, rv, isl, big⟩ := I.list hs
  obtain ⟨u, rfl, ru⟩ := vals1 r
  obtain rfl : u = Value.ref a := ru
  obtain ⟨b1, b2⟩ := refs_back rv fun x m => by
    obtain ⟨t, e, _⟩ := hx x m
    exact ⟨t, e⟩
  refine Zt.sorted_tris (z := z) (k := fun u => k (backV u)) isl.isList (by rw [← rv.length]; exact big) (fun v hv => ?_) fun h' d res h1 h2 kp hd hn => ?_
  · obtain ⟨t, rfl⟩ := b2 v hv
    have hm : V.ref t ∈ xs := by rw [b1]; exact List.mem_map.mpr ⟨_, hv, rfl⟩
    obtain ⟨t', e, ht⟩ := hx _ hm
    cases e
    obtain ⟨_, jts, r2, o, ho, hc, n, hd⟩ := I.hok _ _ ht
    obtain ⟨u0, u1, u2, rfl, rz, ri, rj⟩ := vals3 r2
    obtain ⟨t0, rfl⟩ := rz
    obtain ⟨t1, rfl⟩ := ri
    obtain ⟨t2, rfl⟩ := rj
    exact ⟨t, o, t0, t1, t2, n, rfl, ho, hc, hd⟩
  · have back : ∀ u ∈ res, ∃ a, u = Value.ref a := fun u hu => b2 u (h2.perm.mem_iff.mp hu)
    obtain ⟨n, hn⟩ := hn
    have stb : SrtO.Stb (ltP k) (res.map backV) xs := by
      rw [b1]
      exact SrtO.Stb.map (ltP_swo k) backV h2
    refine ⟨.ref d, upd H d (.lst (res.map backV)), I.laid (t' := s.toks) kp hd ⟨?_, res, n, vals_back back, hn⟩, rfl, q _ d (SrtO.srtd_map h1) stb (I.hok.fresh hd)⟩
    rw [stb.len]
    exact big
/-- sorted of ints, of pairs, of words with two numbers -/
def vSortX (vs : List Val) (M : Mm) : Out Val := match vs with
  | [v] => match listD v M with
    | some ds => match sortD ds with
      | some es => .ok (.d (.list es)) M
      | none => match headW ds with
        | some z => match allT z ds with
          | some ps => .ok (.d (.list ((sortP ps).map (triD z)))) M
          | none => .bad
        | none => .bad
    | none => .bad
  | _ => .bad
theorem cz_sortX : CallZ X (fun xs H Q => (rSortedI X.K xs H Q ∨ rSortedPO X.K xs H Q) ∨ rSortT X.K xs H Q) vSortX := by
  intro W G M σ H Q xs vs S r p
  unfold vSortX at p
  split at p
  · rename_i v
    split at p
    · rename_i ds hd
      split at p
      · rename_i es he
        refine .inl (cz_sorted W G M σ H Q xs [v] S r ?_)
        have e : vSorted [v] M = .ok (.d (.list es)) M := by
          show (match listD v M with
            | some ds => match sortD ds with
              | some es => Out.ok (Val.d (.list es)) M
              | none => .bad
            | none => .bad) = _
          rw [hd]
          show (match sortD ds with
              | some es => Out.ok (Val.d (.list es)) M
              | none => .bad) = _
          rw [he]
        rw [e]
        exact p
      · split at p
        · rename_i z hz
          split at p
          · rename_i ps hp
            cases r with
            | cons r1 r2 =>
              cases r2
              obtain ⟨a, ys, rfl, h, hr⟩ := listD_ok S r1 hd
              have e := allT_ok hp
              subst e
              obtain ⟨e1, e2⟩ := rvs_tris hr
              refine .inr ⟨a, ys, z, kT H, rfl, h, e2, fun zs q hs hb hq => ?_⟩
              have hz : ∀ x ∈ zs, ∃ t, x = V.ref t ∧ H t = some (.tup [.str z, .int (kT H x).1, .int (kT H x).2]) := fun x hx => e2 x (hb.perm.mem_iff.mp hx)
              have e3 : zs.map (kT H) = sortP ps := by
                refine sortP_eq (by rw [← e1]; exact hb.perm.map _) ?_
                refine List.pairwise_map.mpr (List.Pairwise.imp (fun {x y} h => ?_) hs)
                have h : SrtO.lexB (kT H y) (kT H x) = false := h
                rw [leP_iff]
                have := SrtO.lexB_no.mp h
                omega
              obtain ⟨S2, e4⟩ := S.layF (o := .lst zs) hq
              refine p _ _ _ e4 S2 (RV.lst (.inl rfl) upd_same ?_)
              have := rvs_of_kT (K := X.K) (F := G.F) hz
              rw [e3] at this
              exact RVs.ext e4 _ _ this
          · exact p.elim
        · exact p.elim
    · exact p.elim
  · exact p.elim
end
end Zm
namespace Zm
open PySem PySem.Spec PyProof.Rows L2
variable {X : Cx} {W : WX}
/-! ### a star in a display -/
def mStar (a : EM) (r : AM) : AM := fun s M => (a s M).bind fun v M1 => match seqD v M1 with
  | some ds => (r s M1).bind fun ys M2 => .ok (ds.map .d ++ ys) M2
  | none => .bad
/-! ### list(range(a, b)) -/
def mLR2 (a b : EM) : EM := fun s M => (a s M).bind fun v M1 => (b s M1).bind fun w M2 => match v, w with
  | .d (.int i), .d (.int j) => if decide (-1000 ≤ i) && decide (i ≤ 1000000) && decide (-1000 ≤ j) && decide (j ≤ 1000000) then .ok (.d (.list (ranD i j))) M2 else .bad
  | _, _ => .bad
end Zm
namespace Zm
open PySem PySem.Spec PyProof.Rows L2
variable {X : Cx} {W : WX}
/-! ### one of two readings -/
theorem se_either {e : Expr} {m m1 m2 : EM} (h1 : SE X W e m1) (h2 : SE X W e m2) (h : ∀ s M, m s M = m1 s M ∨ m s M = m2 s M) : SE X W e m := by
  refine ⟨⟨fun pins s σ H Q I ⟨G, sl, M, S, N, p⟩ => ?_⟩⟩
  rcases h sl M with q | q
  · exact h1.pe.run pins s σ H Q I ⟨G, sl, M, S, N, by rw [← q]; exact p⟩
  · exact h2.pe.run pins s σ H Q I ⟨G, sl, M, S, N, by rw [← q]; exact p⟩
theorem st_either {e : Expr} {m m1 m2 : TM} (h1 : ST X W e m1) (h2 : ST X W e m2) (h : ∀ s M, m s M = m1 s M ∨ m s M = m2 s M) : ST X W e m := by
  refine ⟨⟨fun pins s σ H Q I ⟨G, sl, M, S, N, p⟩ => ?_⟩⟩
  rcases h sl M with q | q
  · exact h1.pt.run pins s σ H Q I ⟨G, sl, M, S, N, by rw [← q]; exact p⟩
  · exact h2.pt.run pins s σ H Q I ⟨G, sl, M, S, N, by rw [← q]; exact p⟩
/-- an operation that is one of two, by its values -/
theorem mOp_either {f f1 f2 : Val → Val → Mm → Out Val} {a b : EM} (h : ∀ v w M, f v w M = f1 v w M ∨ f v w M = f2 v w M) (s : Sl) (M : Mm) : mOp f a b s M = mOp f1 a b s M ∨ mOp f a b s M = mOp f2 a b s M := by
  unfold mOp Out.bind
  cases a s M with
  | bad => exact .inl rfl
  | er _ _ => exact .inl rfl
  | ok v M1 =>
    dsimp only
    cases b s M1 with
    | bad => exact .inl rfl
    | er _ _ => exact .inl rfl
    | ok w M2 => exact h v w M2
/-! ### dicts with plain keys (ints and texts) -/
/-- what a dict holds -/
def dctV (v : Val) (M : Mm) : Option (List (PyData × Val)) := match v with
  | .d (.dict kvs) => some (kvs.map fun p => (p.1, .d p.2))
  | .obj i => match M[i]? with
    | some (.dct kvs) => some kvs
    | _ => none
  | _ => none
def eqK : PyData → PyData → Bool
  | .int a, .int b => decide (a = b)
  | .str a, .str b => decide (a = b)
  | _, _ => false
/-- a plain key -/
def keyV : Val → Option PyData
  | .d (.int i) => some (.int i)
  | .d (.str x) => some (.str x)
  | _ => none
def findD {α : Type} (k : PyData) (kvs : List (PyData × α)) : Option α := (kvs.find? fun p => eqK p.1 k).map (·.2)
def putD {α : Type} (kvs : List (PyData × α)) (k : PyData) (v : α) : List (PyData × α) :=
  if (kvs.any fun p => eqK p.1 k) = true then kvs.map (fun p => if eqK p.1 k = true then (p.1, v) else p) else kvs ++ [(k, v)]
theorem eqK_keyD (a b : Key) : eqK (keyD a) (keyD b) = decide (a = b) := by
  cases a <;> cases b <;> simp [keyD, eqK]
section
variable {K : PySem.W.Frag} {mg : Str → Option Value} {G : Gh} {H : Hp} {M : Mm} {x : V} {v : Val} {kvs : List (PyData × Val)}
abbrev PKs (K : PySem.W.Frag) (mg : Str → Option Value) (G : Gh) (H : Hp) : List (Key × V) → List (PyData × Val) → Prop := Paired (fun (y : Key × V) (k : PyData × Val) => k.1 = keyD y.1 ∧ RW K mg G H y.2 k.2)
theorem keyV_ok {k : PyData} (h : keyV v = some k) (r : RW K mg G H x v) : ∃ y : Key, k = keyD y ∧ x = kV y := by
  unfold keyV at h
  split at h
  · rename_i i
    cases h
    have r : RV K G.F H x (.int i) := r
    cases r
    exact ⟨.inl i, rfl, rfl⟩
  · rename_i z
    cases h
    have r : RV K G.F H x (.str z) := r
    cases r
    exact ⟨.inr z, rfl, rfl⟩
  · cases h
theorem rks_pks : ∀ {ys : List (Key × V)} {ds : List (PyData × PyData)}, RKs K G.F H ys ds → PKs K mg G H ys (ds.map fun p => (p.1, .d p.2))
  | _, _, .nil => .nil
  | _, _, .cons h t => .cons ⟨rfl, h⟩ (rks_pks t)
theorem dctV_ok (S : SimM K mg G M H) (r : RW K mg G H x v) (h : dctV v M = some kvs) : ∃ a ys, x = .ref a ∧ Rd H a (.dK ys) ∧ PKs K mg G H ys kvs := by
  unfold dctV at h
  split at h
  · rename_i ds
    cases h
    have r : RV K G.F H x (.dict ds) := r
    cases r with
    | dct h1 h2 h3 => exact ⟨_, _, rfl, .inl h2, rks_pks h3⟩
  · rename_i i
    obtain ⟨a, rfl, hi⟩ := r
    split at h
    · rename_i us e
      cases h
      obtain ⟨_, ys, h2, h3⟩ := S.obj i a _ hi e
      exact ⟨a, ys, rfl, .inl h2, h3⟩
    · cases h
  · cases h
theorem findD_ok (y : Key) : ∀ {ys : List (Key × V)} {kvs : List (PyData × Val)}, PKs K mg G H ys kvs →
    (findD (keyD y) kvs = none ∧ valV ys y = none) ∨ ∃ v x, findD (keyD y) kvs = some v ∧ valV ys y = some x ∧ RW K mg G H x v
  | _, _, .nil => .inl ⟨rfl, rfl⟩
  | z :: ys, k :: kvs, .cons h t => by
    unfold findD valV
    rw [List.find?_cons, List.find?_cons, h.1, eqK_keyD]
    by_cases e : z.1 = y
    · rw [decide_eq_true e]
      exact .inr ⟨_, _, rfl, rfl, h.2⟩
    · rw [decide_eq_false e]
      exact findD_ok y t
theorem any_ok (y : Key) : ∀ {ys : List (Key × V)} {kvs : List (PyData × Val)}, PKs K mg G H ys kvs → (kvs.any fun p => eqK p.1 (keyD y)) = ys.any fun p => decide (p.1 = y)
  | _, _, .nil => rfl
  | z :: ys, k :: kvs, .cons h t => by rw [List.any_cons, List.any_cons, h.1, eqK_keyD, any_ok y t]
theorem putD_ok (y : Key) {u : V} {w : Val} (r : RW K mg G H u w) {ys : List (Key × V)} {kvs : List (PyData × Val)} (p : PKs K mg G H ys kvs) : PKs K mg G H (putK ys y u) (putD kvs (keyD y) w) := by
  unfold putK putD
  rw [any_ok y p]
  split
  · rename_i hq
    clear hq
    induction p with
    | nil => exact .nil
    | @cons z k ys kvs h t ih =>
      rw [List.map_cons, List.map_cons]
      refine .cons ?_ ih
      rw [h.1, eqK_keyD]
      by_cases e : z.1 = y
      · rw [decide_eq_true e, if_pos e, if_pos rfl]
        exact ⟨rfl, r⟩
      · rw [decide_eq_false e, if_neg e, if_neg (by decide)]
        exact h
  · exact Paired.app p (.cons ⟨rfl, r⟩ .nil)
end
/-! ### in, [], get -/
def vDIn (neg : Bool) (y v : Val) (M : Mm) : Out Val := match keyV y, dctV v M with
  | some k, some kvs => .ok (.d (.bool (xor neg (findD k kvs).isSome))) M
  | _, _ => .bad
def vDIx (v y : Val) (M : Mm) : Out Val := match dctV v M, keyV y with
  | some kvs, some k => match findD k kvs with
    | some u => .ok (rd u M) M
    | none => .bad
  | _, _ => .bad
section
variable {a b c : Expr} {ma mb mc : EM} {pos apos : Pos}
theorem oz_din {neg : Bool} : OpZ X (fun y x H Q => ∃ a o, x = .ref a ∧ DGet H a y o ∧ Q (.bl (xor neg o.isSome)) H) (vDIn neg) := by
  intro W G M σ H Q y x w v S r1 r2 p
  unfold vDIn at p
  split at p
  · rename_i k kvs hk hd
    obtain ⟨y', rfl, rfl⟩ := keyV_ok hk r1
    obtain ⟨a, ys, rfl, h1, h2⟩ := dctV_ok S r2 hd
    refine ⟨a, valV ys y', rfl, .inl ⟨ys, y', h1, rfl, rfl⟩, ?_⟩
    rcases findD_ok y' h2 with ⟨e1, e2⟩ | ⟨v, x, e1, e2, _⟩
    · rw [e1] at p
      rw [e2]
      exact p G H _ .refl S (RV.bl _)
    · rw [e1] at p
      rw [e2]
      exact p G H _ .refl S (RV.bl _)
  · exact p.elim
theorem oz_dix : OpZ X (fun x y H Q => ∃ a v, x = .ref a ∧ DGet H a y (some v) ∧ Q v H) vDIx := by
  intro W G M σ H Q x y v w S r1 r2 p
  unfold vDIx at p
  split at p
  · rename_i kvs k hd hk
    obtain ⟨y', rfl, rfl⟩ := keyV_ok hk r2
    obtain ⟨a, ys, rfl, h1, h2⟩ := dctV_ok S r1 hd
    rcases findD_ok y' h2 with ⟨e1, e2⟩ | ⟨v, x, e1, e2, e3⟩
    · rw [e1] at p
      exact p.elim
    · rw [e1] at p
      exact ⟨a, x, rfl, .inl ⟨ys, y', h1, rfl, e2.symm⟩, p G H x .refl S (rd_ok S e3)⟩
  · exact p.elim
theorem se_dix (hu : X.A.units + 1 < cLine) (ha : SE X W a ma) (hb : SE X W b mb) (hs : NoSl b := by intro _ _; rfl) : SE X W (.Subscript a b pos) (mOp vDIx ma mb) :=
  ⟨peImp (pe_dget hu ha.pe hb.pe hs) fun _ _ _ h => TEm.op oz_dix h⟩
theorem pc_dinZ (hu : X.A.units + 1 < cLine) (ha : SE X W a ma) (hb : SE X W b mb) : PC X .In a b (TEm X.K X.mg W (mOp (vDIn false) ma mb)) :=
  ⟨fun pins s σ H Q I h => (pc_din hu ha.pe hb.pe).run pins s σ H Q I (by
    have := TEm.op oz_din h
    simp only [Bool.false_xor] at this
    exact this)⟩
theorem pc_dnotinZ (hu : X.A.units + 1 < cLine) (ha : SE X W a ma) (hb : SE X W b mb) : PC X .NotIn a b (TEm X.K X.mg W (mOp (vDIn true) ma mb)) :=
  ⟨fun pins s σ H Q I h => (pc_dnotin hu ha.pe hb.pe).run pins s σ H Q I (by
    have := TEm.op oz_din h
    simp only [Bool.true_xor] at this
    exact this)⟩
/-- v is a dict -/
def isDct (v : Val) (M : Mm) : Bool := (dctV v M).isSome
def vIxX (v y : Val) (M : Mm) : Out Val := if isDct v M = true then vDIx v y M else vIx v y M
def vInX (neg : Bool) (y v : Val) (M : Mm) : Out Val := if isDct v M = true then vDIn neg y v M else vIn neg y v M
theorem ixX_either (v w : Val) (M : Mm) : vIxX v w M = vIx v w M ∨ vIxX v w M = vDIx v w M := by
  unfold vIxX
  split
  · exact .inr rfl
  · exact .inl rfl
theorem inX_either {neg : Bool} (v w : Val) (M : Mm) : vInX neg v w M = vIn neg v w M ∨ vInX neg v w M = vDIn neg v w M := by
  unfold vInX
  split
  · exact .inr rfl
  · exact .inl rfl
theorem se_ixX (hu : X.A.units + 65 < cLine) (ha : SE X W a ma) (hb : SE X W b mb) (hs : PlainIx b := by intro _ _; rfl) (hs2 : NoSl b := by intro _ _; rfl) : SE X W (.Subscript a b pos) (mOp vIxX ma mb) :=
  se_either (se_ix ha hb hs) (se_dix (by omega) ha hb hs2) (mOp_either ixX_either)
theorem mT_either {m m1 m2 : EM} (h : ∀ s M, m s M = m1 s M ∨ m s M = m2 s M) (s : Sl) (M : Mm) : mT m s M = mT m1 s M ∨ mT m s M = mT m2 s M := by
  unfold mT
  rcases h s M with q | q
  · rw [q]; exact .inl rfl
  · rw [q]; exact .inr rfl
theorem st_inX (hu : X.A.units + 65 < cLine) (ha : SE X W a ma) (hb : SE X W b mb) (hm : behindInMarks .In b = false := by rfl) : ST X W (.Compare a [.In] [b] pos) (mT (mOp (vInX false) ma mb)) :=
  st_either (st_in hu ha hb hm) ⟨ptImp (pt_cmp (pc_dinZ (by omega) ha hb) hm) fun _ _ _ h => TTm.of h⟩ (mT_either (mOp_either inX_either))
theorem st_notInX (hu : X.A.units + 65 < cLine) (ha : SE X W a ma) (hb : SE X W b mb) (hm : behindInMarks .NotIn b = false := by rfl) : ST X W (.Compare a [.NotIn] [b] pos) (mT (mOp (vInX true) ma mb)) :=
  st_either (st_notIn hu ha hb hm) ⟨ptImp (pt_cmp (pc_dnotinZ (by omega) ha hb) hm) fun _ _ _ h => TTm.of h⟩ (mT_either (mOp_either inX_either))
/-- d.get(k), d.get(k, x) -/
def vGet (v : Val) (vs : List Val) (M : Mm) : Out Val := match vs with
  | [y] => match dctV v M, keyV y with
    | some kvs, some k => .ok (match findD k kvs with | some u => rd u M | none => .d .none) M
    | _, _ => .bad
  | [y, z] => match dctV v M, keyV y with
    | some kvs, some k => .ok (match findD k kvs with | some u => rd u M | none => rd z M) M
    | _, _ => .bad
  | _ => .bad
def mGet (o : EM) (ms : AM) : EM := fun s M => (o s M).bind fun v M1 => if isDct v M1 = true then (ms s M1).bind fun vs M2 => vGet v vs M2 else .bad
end
/-! ### d[k] = v -/
def rSetD : V → V → V → Hp → (Hp → Prop) → Prop := fun o i v H Q => ∃ a H4, o = .ref a ∧ DPut H a i v H4 ∧ Q H4
theorem set_dictZ (hu : X.A.units + 65 < cLine) : PSet X rSetD := by
  intro pins s σ H o i v ov iv u Q I ro ri rv h
  obtain ⟨a, H4, rfl, g, q⟩ := h
  obtain rfl : ov = Value.ref a := ro
  exact d_setItem (by omega) I g ri rv fun s4 I4 => ⟨H4, I4, q⟩
theorem PSet.or {t t' : TSet} (h : PSet X t) (h' : PSet X t') : PSet X (fun o i v H Q => t o i v H Q ∨ t' o i v H Q) :=
  fun pins s σ H o i v ov iv u Q I ro ri rv q => q.elim (h pins s σ H o i v ov iv u Q I ro ri rv) (h' pins s σ H o i v ov iv u Q I ro ri rv)
def vSetD : SetF := fun o i v M => match o, keyV i with
  | .obj j, some k => match M[j]? with
    | some (.dct kvs) => if kvs.length < 16777216 then some (M.set j (.dct (putD kvs k v))) else none
    | _ => none
  | _, _ => none
theorem sz_dict : SetZ X rSetD vSetD := by
  intro G M H Q o i x vo vi v S r1 r2 r3 p
  unfold vSetD at p
  split at p
  · rename_i M' e
    split at e
    · rename_i j k hk
      obtain ⟨a, rfl, hj⟩ := r1
      obtain ⟨y, rfl, rfl⟩ := keyV_ok hk r2
      split at e
      · rename_i kvs ho
        obtain ⟨nF, ys, hx, rx⟩ := S.obj j a _ hj ho
        split at e
        · rename_i hl
          cases e
          obtain ⟨S2, e3⟩ := S.write (u := .dK (putK ys y x)) (o := .dct (putD kvs (keyD y) v)) hj nF (fun xs z => by rw [hx] at z; cases z) (fun q v z => by rw [hx] at z; cases z)
            (fun e3 => ⟨nF, _, upd_same, putD_ok y (RW.ext e3 r3) (Paired.mapP rx fun _ _ q => ⟨q.1, RW.ext e3 q.2⟩)⟩)
          exact ⟨a, _, rfl, DPut.k hx (by rw [Paired.len rx]; exact hl), p G _ e3 S2⟩
        · cases e
      · cases e
    · cases e
  · exact p.elim
def vSetX : SetF := fun o i v M => if isDct o M = true then vSetD o i v M else vSetL o i v M
theorem sz_X : SetZ X (fun o i v H Q => rSetL o i v H Q ∨ rSetD o i v H Q) vSetX := by
  intro G M H Q o i x vo vi v S r1 r2 r3 p
  unfold vSetX at p
  split at p
  · rename_i M' e
    split at e
    · exact .inr (sz_dict G M H Q o i x vo vi v S r1 r2 r3 (by rw [e]; exact p))
    · exact .inl (sz_list G M H Q o i x vo vi v S r1 r2 r3 (by rw [e]; exact p))
  · exact p.elim
theorem set_X (hu : X.A.units + 65 < cLine) : PSet X (fun o i v H Q => rSetL o i v H Q ∨ rSetD o i v H Q) := PSet.or set_list (set_dictZ hu)
/-! ### a dict at a place is fixed -/
def fzD : List (PyData × Val) → Mm → Option (List (PyData × PyData))
  | [], _ => some []
  | (k, v) :: r, M => match rd v M, fzD r M with
    | .d x, some ds => some ((k, x) :: ds)
    | _, _ => none
theorem fzD_ok {K : PySem.W.Frag} {mg : Str → Option Value} {G : Gh} {H : Hp} {M : Mm} (S : SimM K mg G M H) : ∀ {ys : List (Key × V)} {kvs : List (PyData × Val)} {ds : List (PyData × PyData)}, PKs K mg G H ys kvs → fzD kvs M = some ds → RKs K G.F H ys ds
  | _, _, ds, .nil, h => by cases h; exact .nil
  | z :: ys, (k, v) :: kvs, ds, .cons h t, e => by
    unfold fzD at e
    split at e
    · rename_i x es e1 e2
      cases e
      have hk : k = keyD z.1 := h.1
      rw [hk]
      have r := rd_ok S h.2
      dsimp only at r
      rw [e1] at r
      exact .cons r (fzD_ok S t e2)
    · cases e
def mFrzX (m : EM) : EM := fun s M => (m s M).bind fun v M1 => match v with
  | .obj i => match M1[i]? with
    | some (.frz x) => .ok (.d x) M1
    | some (.lst vs) => match fzL vs M1 with
      | some ds => .ok (.d (.list ds)) (M1.set i (.frz (.list ds)))
      | none => .bad
    | some (.dct kvs) => match fzD kvs M1 with
      | some ds => .ok (.d (.dict ds)) (M1.set i (.frz (.dict ds)))
      | none => .bad
    | _ => .bad
  | v => .ok v M1
/-! ### {k: v}, one key that is reckoned -/
def vDisp1 (y v : Val) (M : Mm) : Out Val := match keyV y, v with
  | some k, .d x => .ok (.d (.dict [(k, x)])) M
  | _, _ => .bad
abbrev mDisp1 (mk mv : EM) : EM := mOp vDisp1 mk mv
/-! ### a list of one's own is fixed ahead of a statement (nothing happens in Python) -/
def frzAt (i : Nat) (s : Sl) (M : Mm) : Mm := match s[i]? with
  | some (some (.obj j)) => match M[j]? with
    | some (.lst vs) => match fzL vs M with
      | some ds => M.set j (.frz (.list ds))
      | none => M
    | some (.dct kvs) => match fzD kvs M with
      | some ds => M.set j (.frz (.dict ds))
      | none => M
    | _ => M
  | _ => M
def sGh (i : Nat) (b : SM) : SM := fun s M => b s (frzAt i s M)
theorem frzAt_ok {K : PySem.W.Frag} {mg : Str → Option Value} {G : Gh} {H : Hp} {M : Mm} {s : Sl} {σ : L2.St} (i : Nat) (S : SimM K mg G M H) (N : SimS K mg G s σ H) : ∃ G', Ext G H G' H ∧ SimM K mg G' (frzAt i s M) H := by
  unfold frzAt
  split
  · rename_i j hs
    obtain ⟨x, _, hr⟩ := N.at_ i _ hs
    obtain ⟨a, rfl, hi⟩ := hr
    split
    · rename_i vs ev
      split
      · rename_i ds ed
        obtain ⟨nF, xs, hx, rx⟩ := S.obj j a _ hi ev
        have rv := allD_ok ed (rws_rd S rx)
        have e : Ext G H (G.fix a) H := ext_fix (List.mem_of_getElem? hi)
        have rl : RV K (G.fix a).F H (.ref a) (.list ds) := .lst (.inl rfl) hx (RVs.ext e _ _ rv)
        obtain ⟨S2, e2⟩ := S.freeze hi nF rl
        exact ⟨_, e2, S2⟩
      · exact ⟨G, .refl, S⟩
    · rename_i kvs ev
      split
      · rename_i ds ed
        obtain ⟨nF, ys, hx, rx⟩ := S.obj j a _ hi ev
        have rv := fzD_ok S rx ed
        have e : Ext G H (G.fix a) H := ext_fix (List.mem_of_getElem? hi)
        have rl : RV K (G.fix a).F H (.ref a) (.dict ds) := .dct (.inl rfl) hx (RKs.ext e _ _ rv)
        obtain ⟨S2, e2⟩ := S.freeze hi nF rl
        exact ⟨_, e2, S2⟩
      · exact ⟨G, .refl, S⟩
    · exact ⟨G, .refl, S⟩
  · exact ⟨G, .refl, S⟩
theorem ss_gh {st : Stmt} {b : SM} (i : Nat) (h : SS X W st b) : SS X W st (sGh i b) := by
  refine ⟨psImp h.ps fun D σ H ⟨G, s, M, S, N, p⟩ => ?_⟩
  obtain ⟨G', e, S'⟩ := frzAt_ok i S N
  exact ⟨G', s, _, S', N.ext e, PostS.ext e p⟩
end Zm
namespace Zm
open PySem PySem.Spec PyProof.Rows L2
/-! ### what the denotations come to, step by step -/
section
variable {α β γ : Type} {s : Sl} {M : Mm}
theorem z_bok {v : α} {f : α → Mm → Out γ} : Out.bind (.ok v M) f = f v M := rfl
theorem z_bsok {v : α} {f : α → Mm → SO} : Out.bindS (.ok v M) s f = f v M := rfl
theorem z_bbad {f : α → Mm → Out γ} : Out.bind (.bad : Out α) f = .bad := rfl
theorem z_bsbad {f : α → Mm → SO} : Out.bindS (.bad : Out α) s f = .bad := rfl
theorem z_seqbad {b : SM} : SO.seq .bad b = .bad := rfl
theorem z_outbad : SO.out .bad = .bad := rfl
theorem z_asgbad {g : GM} : Out.asg .bad s g = .bad := rfl
theorem small_fmod {x m : Int} (h1 : 0 < m) (h2 : m ≤ 18446744073709551616) : smallI (x.fmod m) = true := by
  have a := Int.fmod_nonneg_of_pos x h1
  have b := Int.fmod_lt_of_pos x h1
  unfold smallI
  rw [decide_eq_true (by omega), decide_eq_true (by omega)]; rfl
theorem small_lit {i : Int} (h1 : -18446744073709551616 < i) (h2 : i < 18446744073709551616) : smallI i = true := by
  unfold smallI
  rw [decide_eq_true h1, decide_eq_true h2]; rfl
theorem fits_le {n : Nat} (h : n ≤ 16777216) : fitsL n = true := decide_eq_true h
theorem smallR_lit {i : Int} (h1 : -4611686018427387904 ≤ i) (h2 : i < 4611686018427387904) : smallR i = true := by
  unfold smallR
  rw [decide_eq_true h1, decide_eq_true h2]; rfl
theorem z_na64 : Int.natAbs 64 = 64 := rfl
theorem z_r1 {j : Int} (h1 : -4611686018427387904 ≤ j) (h2 : j < 4611686018427387904) : range1 [.d (.int j)] M = .ok (rangeL 0 j.toNat) M := by
  show (if smallR j then Out.ok (rangeL 0 j.toNat) M else .bad) = _
  rw [smallR_lit h1 h2]
  rfl
theorem z_r2 {i j : Int} (h3 : -4611686018427387904 ≤ i) (h4 : i < 4611686018427387904) (h1 : -4611686018427387904 ≤ j) (h2 : j < 4611686018427387904) : range2 [.d (.int i), .d (.int j)] M = .ok (rangeL i (j - i).toNat) M := by
  show (if smallR i && smallR j then Out.ok (rangeL i (j - i).toNat) M else .bad) = _
  rw [smallR_lit h1 h2, smallR_lit h3 h4]
  rfl
theorem z_bif {c : Prop} [Decidable c] {x y : Out α} {f : α → Mm → Out γ} : Out.bind (if c then x else y) f = if c then x.bind f else y.bind f := by split <;> rfl
theorem z_bsif {c : Prop} [Decidable c] {x y : Out α} {f : α → Mm → SO} : Out.bindS (if c then x else y) s f = if c then x.bindS s f else y.bindS s f := by split <;> rfl
theorem z_noer {v : α} : Out.noer (.ok v M) = .ok v M := rfl
theorem z_seqn {b : SM} : SO.seq (.nx s M) b = b s M := rfl
theorem z_seqr {b : SM} {v : Val} : SO.seq (.rt v M) b = .rt v M := rfl
theorem z_seqif {b : SM} {c : Prop} [Decidable c] {x y : SO} : SO.seq (if c then x else y) b = if c then x.seq b else y.seq b := by split <;> rfl
theorem z_outr {v : Val} : SO.out (.rt v M) = .ok v M := rfl
theorem z_outn : SO.out (.nx s M) = .ok (.d .none) M := rfl
theorem z_outif {c : Prop} [Decidable c] {x y : SO} : SO.out (if c then x else y) = if c then x.out else y.out := by split <;> rfl
theorem z_C {x : PyData} : mC x s M = .ok (.d x) M := rfl
theorem z_op {f : Val → Val → Mm → Out Val} {a b : EM} : mOp f a b s M = (a s M).bind fun x M1 => (b s M1).bind fun y M2 => f x y M2 := rfl
theorem z_T {m : EM} : mT m s M = (m s M).bind fun v M1 => match v with
  | .d (.bool b) => .ok b M1
  | _ => .bad := rfl
theorem z_tand {a b : TM} : mTAnd a b s M = (a s M).bind fun c M1 => if c = true then b s M1 else .ok false M1 := rfl
theorem z_tor {a b : TM} : mTOr a b s M = (a s M).bind fun c M1 => if c = true then .ok true M1 else b s M1 := rfl
theorem z_tnot {a : TM} : mTNot a s M = (a s M).bind fun c M1 => .ok (!c) M1 := rfl
theorem z_and {a b : EM} : mAnd a b s M = (mT a s M).bind fun c M1 => if c = true then b s M1 else .ok (.d (.bool false)) M1 := rfl
theorem z_or {a b : EM} : mOr a b s M = (mT a s M).bind fun c M1 => if c = true then .ok (.d (.bool true)) M1 else b s M1 := rfl
theorem z_not {a : EM} : mNot a s M = (mT a s M).bind fun c M1 => .ok (.d (.bool (!c))) M1 := rfl
theorem z_if {c : TM} {a b : EM} : mIf c a b s M = (c s M).bind fun k M1 => if k = true then a s M1 else b s M1 := rfl
theorem z_nil : mNil s M = .ok [] M := rfl
theorem z_cons {a : EM} {r : AM} : mCons a r s M = (a s M).bind fun x M1 => (r s M1).bind fun xs M2 => .ok (x :: xs) M2 := rfl
theorem z_tup {a : AM} : mTup a s M = (a s M).bind fun vs M1 => match allD vs with
  | some ds => if fitsL ds.length then .ok (.d (.tuple ds)) M1 else .bad
  | none => .bad := rfl
theorem z_lst {a : AM} : mLst a s M = (a s M).bind fun vs M1 => match allD vs with
  | some ds => if fitsL ds.length then .ok (.d (.list ds)) M1 else .bad
  | none => .bad := rfl
theorem z_new {a : AM} : mNew a s M = (a s M).bind fun vs M1 => if fitsL vs.length then .ok (.obj M1.length) (M1 ++ [.lst vs]) else .bad := rfl
theorem z_allD0 : allD [] = some [] := rfl
theorem z_allD1 {x : PyData} {r : List Val} : allD (.d x :: r) = (allD r).map (x :: ·) := rfl
theorem z_allDm {ds : List PyData} : allD (ds.map .d) = some ds := by
  induction ds with
  | nil => rfl
  | cons d ds ih => rw [List.map_cons, z_allD1, ih]; rfl
theorem z_map {x : α} {f : α → β} : Option.map f (some x) = some (f x) := rfl
theorem z_sNil : sNil s M = .nx s M := rfl
theorem z_sSeq {a b : SM} : sSeq a b s M = (a s M).seq b := rfl
theorem z_sIf {c : TM} {a b : SM} : sIf c a b s M = (c s M).bindS s fun k M1 => if k = true then a s M1 else b s M1 := rfl
theorem z_sDrop {m : EM} : sDrop m s M = (m s M).bindS s fun _ M1 => .nx s M1 := rfl
theorem z_sRet {m : EM} : sRet m s M = (m s M).bindS s fun v M1 => .rt v M1 := rfl
theorem z_sAsg {m : EM} {g : GM} : sAsg m g s M = (m s M).asg s g := rfl
theorem z_asg {v : Val} {g : GM} : Out.asg (.ok v M) s g = match g v s M with
  | some (s', M') => .nx s' M'
  | none => .bad := rfl
theorem z_asgif {c : Prop} [Decidable c] {x y : Out Val} {g : GM} : Out.asg (if c then x else y) s g = if c then x.asg s g else y.asg s g := by split <;> rfl
theorem z_sPar {is : List Nat} {a : AM} : sPar is a s M = (a s M).bindS s fun vs M1 => if vs.length = is.length then .nx ((is.zip vs).foldl (fun s p => s.set p.1 (some p.2)) s) M1 else .bad := rfl
theorem z_gN {i : Nat} {v : Val} : gN i v s M = some (s.set i (some v), M) := rfl
theorem z_gT {n : Nat} {g : GMs} {ds : List PyData} : gT n g (.d (.tuple ds)) s M = if ds.length = n then g (ds.map .d) s M else none := rfl
theorem z_gsNil : gsNil [] s M = some (s, M) := rfl
theorem z_gsCons {g : GM} {r : GMs} {v : Val} {vs : List Val} : gsCons g r (v :: vs) s M = (g v s M).bind fun p => r vs p.1 p.2 := rfl
theorem z_obind {x : α} {f : α → Option β} : Option.bind (some x) f = f x := rfl
theorem z_gSet {mo mi : EM} {f : SetF} {v : Val} : gSet mo mi f v s M = match mo s M with
  | .ok o M1 => match mi s M1 with
    | .ok i M2 => (f o i v M2).map fun M3 => (s, M3)
    | _ => none
  | _ => none := rfl
theorem z_B {f : List Val → Mm → Out Val} {ms : AM} : mB f ms s M = (ms s M).bind f := rfl
theorem z_It {m : EM} : mIt m s M = (m s M).bind itK := rfl
theorem z_Enum {m : AM} : mEnum m s M = (m s M).bind enumK := rfl
theorem z_R1 {m : AM} : mRange1 m s M = (m s M).bind range1 := rfl
theorem z_R2 {m : AM} : mRange2 m s M = (m s M).bind range2 := rfl
theorem z_Comp {k : List Val → Mm → Out Val} {it : AM} {g : GM} {t : TM} {e : EM} {own : List Nat} : mComp k it g t e own s M = (it s M).bind fun vs M1 => (compL g t e (wipeS s own) vs M1).bind k := rfl
theorem z_For {it : AM} {g : GM} {b : SM} : sFor it g b s M = (it s M).bindS s fun vs M1 => forL g b vs s M1 := rfl
theorem z_Yes : mYes s M = .ok true M := rfl
theorem z_M {T : String} {f : MF} {o : EM} {ms : AM} : mM T f o ms s M = (o s M).bind fun v M1 => if tyOk T v M1 = true then (ms s M1).bind fun vs M2 => f v vs M2 else .bad := rfl
theorem z_Sl {m : EM} {l h : OM} : mSl m l h s M = (m s M).bind fun v M1 => (l s M1).bind fun lo M2 => (h s M2).bind fun hi M3 => vSl v lo hi M3 := rfl
theorem z_oN : oNone s M = .ok none M := rfl
theorem z_oS {m : EM} : oSome m s M = (m s M).bind fun v M1 => match v with
  | .d (.int i) => .ok (some i) M1
  | _ => .bad := rfl
theorem z_Rev {m : EM} : mRev m s M = (m s M).bind vRev := rfl
theorem z_Neg {m : EM} : mNeg m s M = (m s M).bind fun v M1 => match v with
  | .d (.int i) => .ok (.d (.int (-i))) M1
  | _ => .bad := rfl
theorem z_IsI {T : String} {m : EM} : mIsI T m s M = (m s M).bind fun v M1 => match tyNm v M1 with
  | some n => .ok (.d (.bool (isT n T))) M1
  | none => .bad := rfl
theorem z_call {n : Nat} {den : Den} {ms : AM} : mCall n den ms s M = (ms s M).bind fun vs M1 => if vs.length = n then den vs M1 else .bad := rfl
theorem z_callK {np nk : Nat} {den : Den} {ix : List Nat} {ms mk : AM} : mCallK np nk den ix ms mk s M = (ms s M).bind fun vs M1 => (mk s M1).bind fun us M2 => if vs.length = np ∧ us.length = nk then den (pickBy ix (vs ++ us)) M2 else .bad := rfl
theorem z_chain {f g : Val → Val → Mm → Out Val} {a b c : EM} : mChain f g a b c s M = (a s M).bind fun x M1 => (b s M1).bind fun y M2 => (f x y M2).bind fun z M3 => match z with
  | .d (.bool k) => if k = true then (c s M3).bind fun w M4 => g y w M4 else .ok (.d (.bool false)) M3
  | _ => .bad := rfl
theorem z_body {n : Nat} {b : SM} {vs : List Val} : body n b vs M = (b (slots0 n vs) M).out := rfl
theorem z_rdd {x : PyData} : rd (.d x) M = .d x := rfl
theorem z_rds {x : List Int} : rd (.scr x) M = .scr x := rfl
theorem cut_len {n : Nat} (h : M.length = n) : cut n M = M := by
  subst h
  unfold cut
  rw [List.take_length]
  exact ite_self _
/-- a result that is a datum, the store as long as before -/
theorem z_trim {den : Den} {vs : List Val} {x : PyData} {M' : Mm} (h : den vs M = .ok (.d x) M') (hl : M'.length = M.length) : trim den vs M = .ok (.d x) M' := by
  unfold trim
  rw [h]
  show Out.ok (Val.d x) (cut M.length M') = _
  rw [cut_len hl]
theorem z_trimo {den : Den} {vs : List Val} {i : Nat} {M' : Mm} (h : den vs M = .ok (.obj i) M') : trim den vs M = .ok (.obj i) M' := by
  unfold trim
  rw [h]
theorem cut_app {M1 R : Mm} {n : Nat} (h : M1.length = n) (hb : M1.all (MO.below n) = true) : cut n (M1 ++ R) = M1 := by
  subst h
  unfold cut
  rw [List.take_left, if_pos hb]
theorem z_trimc {den : Den} {vs : List Val} {x : PyData} {M1 R : Mm} (h : den vs M = .ok (.d x) (M1 ++ R)) (hl : M1.length = M.length) (hb : M1.all (MO.below M.length) = true) : trim den vs M = .ok (.d x) M1 := by
  unfold trim
  rw [h]
  show Out.ok (Val.d x) (cut M.length (M1 ++ R)) = _
  rw [cut_app hl hb]
theorem z_int {v w : Int} : vAdd (.d (.int v)) (.d (.int w)) M = .ok (.d (.int (v + w))) M := rfl
theorem z_vI {c : Int → Int → Bool} {f : Int → Int → Int} {a b : Int} : vI c f (.d (.int a)) (.d (.int b)) M = if c a b then .ok (.d (.int (f a b))) M else .bad := rfl
theorem z_vB {f : Int → Int → Bool} {a b : Int} : vB f (.d (.int a)) (.d (.int b)) M = .ok (.d (.bool (f a b))) M := rfl
theorem z_le {a b : Int} : vLe (.d (.int a)) (.d (.int b)) M = .ok (.d (.bool (decide (a ≤ b)))) M := rfl
theorem z_eqi {a b : Int} : vEq (.d (.int a)) (.d (.int b)) M = .ok (.d (.bool (decide (a = b)))) M := by
  show (match some (xor false (decide (a = b))) with | some b => Out.ok (Val.d (.bool b)) M | none => .bad) = _
  rw [Bool.false_xor]
theorem z_nei {a b : Int} : vNe (.d (.int a)) (.d (.int b)) M = .ok (.d (.bool (!decide (a = b)))) M := by
  show (match some (xor true (decide (a = b))) with | some b => Out.ok (Val.d (.bool b)) M | none => .bad) = _
  rw [Bool.true_xor]
theorem z_nes {a b : Str} : vNe (.d (.str a)) (.d (.str b)) M = .ok (.d (.bool (!decide (a = b)))) M := by
  show (match some (xor true (decide (a = b))) with | some b => Out.ok (Val.d (.bool b)) M | none => .bad) = _
  rw [Bool.true_xor]
theorem z_eqs {a b : Str} : vEq (.d (.str a)) (.d (.str b)) M = .ok (.d (.bool (decide (a = b)))) M := by
  show (match some (xor false (decide (a = b))) with | some b => Out.ok (Val.d (.bool b)) M | none => .bad) = _
  rw [Bool.false_xor]
theorem z_vInt {i : Int} : vInt [.d (.int i)] M = .ok (.d (.int i)) M := rfl
theorem z_vI2 {f : Int → Int → Int} {i j : Int} : vI2 f [.d (.int i), .d (.int j)] M = .ok (.d (.int (f i j))) M := rfl
theorem z_isN {v : Val} : vIsN v (.d .none) M = .ok (.d (.bool (isN v))) M := rfl
theorem z_notN {v : Val} : vNotN v (.d .none) M = .ok (.d (.bool (!isN v))) M := rfl
end
/-! ### the deck -/
/-- what the law draws from: the script's great numbers, a seed, a count -/
structure Dk where
  cells : List Int
  st : Int
  n : Int
  pos : ∀ c ∈ cells, 0 ≤ c
def Dk.mem (q : Dk) (rest : Mm) : Mm := .lst (q.cells.map fun i => .d (.int i)) :: .lst [.obj 0, .d (.int q.st), .d (.int q.n)] :: rest
section
variable {q : Dk} {rest : Mm}
theorem dk_0 : (q.mem rest)[0]? = some (.lst (q.cells.map fun i => .d (.int i))) := rfl
theorem dk_rd0 : rd (.obj 0) (q.mem rest) = .obj 0 := rfl
theorem dk_rd1 : rd (.obj 1) (q.mem rest) = .obj 1 := rfl
theorem dk_ix0 : vIx (.obj 1) (.d (.int 0)) (q.mem rest) = .ok (.obj 0) (q.mem rest) := rfl
theorem dk_ix1 : vIx (.obj 1) (.d (.int 1)) (q.mem rest) = .ok (.d (.int q.st)) (q.mem rest) := rfl
theorem dk_ix2 : vIx (.obj 1) (.d (.int 2)) (q.mem rest) = .ok (.d (.int q.n)) (q.mem rest) := rfl
end
end Zm
namespace Zm
open PySem PySem.Spec PyProof.Rows L2
theorem lay_ints : ∀ ns : List Int, PyData.canLayAll0 (ns.map .int) = true
  | [] => rfl
  | n :: ns => by rw [List.map_cons, PyData.canLayAll0, lay_ints ns]; rfl
theorem depth_ints : ∀ ns : List Int, PyData.depthAll (ns.map .int) = 0
  | [] => rfl
  | n :: ns => by rw [List.map_cons, PyData.depthAll, depth_ints ns]; rfl
theorem shaped_ints (ns : List Int) : SeqAt.shaped (.list (ns.map .int)) = true := by
  unfold SeqAt.shaped
  rw [PyData.canLay0, lay_ints, PyData.depth, depth_ints]
  rfl
theorem fzL_d (ds : List PyData) (M : Mm) : fzL (ds.map .d) M = some ds := by
  unfold fzL
  rw [List.map_map]
  exact z_allDm
theorem seqD_obj {i : Nat} {M : Mm} {ds : List PyData} (h : M[i]? = some (.lst (ds.map .d))) : seqD (.obj i) M = some ds := by
  unfold seqD
  simp only [h]
  exact fzL_d ds M
theorem dmap (ns : List Int) : (ns.map fun i => Val.d (.int i)) = (ns.map PyData.int).map .d := by rw [List.map_map]; rfl
section
variable {q : Dk} {rest : Mm}
theorem dk_setn (v : Int) : vSetL (.obj 1) (.d (.int 2)) (.d (.int v)) (q.mem rest) = some ((Dk.mk q.cells q.st v q.pos).mem rest) := rfl
theorem dk_ne : vNe (.obj 0) (.d (.list [])) (q.mem rest) = .ok (.d (.bool (!q.cells.isEmpty))) (q.mem rest) := by
  have h : datum (.obj 0) (q.mem rest) = some (.list (q.cells.map .int)) := by
    show Option.map PyData.list (seqD (.obj 0) (q.mem rest)) = _
    rw [seqD_obj (i := 0) (ds := q.cells.map .int) (by rw [dk_0, dmap])]
    rfl
  have e : eqOut true (.obj 0) (.d (.list [])) (q.mem rest) = some (!q.cells.isEmpty) := by
    show (match datum (.obj 0) (q.mem rest), datum (.d (.list [])) (q.mem rest) with
      | some a, some b => if SeqAt.shaped a && SeqAt.shaped b then some (xor true (PyData.eqv a b)) else none
      | _, _ => none) = _
    rw [h]
    show (if SeqAt.shaped (.list (q.cells.map .int)) && SeqAt.shaped (.list []) then some (xor true (PyData.eqv (.list (q.cells.map .int)) (.list []))) else none) = _
    rw [shaped_ints]
    rw [if_pos (by decide +kernel), Bool.true_xor]
    cases q.cells <;> rfl
  unfold vNe
  rw [e]
theorem dk_ty1 : tyOk "list" (.obj 1) (q.mem rest) = true := rfl
theorem dk_ty0 : tyOk "list" (.obj 0) (q.mem rest) = true := rfl
end
end Zm
namespace Zm
open PySem PySem.Spec PyProof.Rows L2
/-! ### sizes of data, for repr -/
structure Sz (k w : Nat) (x : PyData) : Prop where
  lv : x.leavesShort 40 = true
  sh : x.showable = true
  dp : x.depth ≤ k
  wt : x.weight ≤ w
structure SzL (k w : Nat) (ds : List PyData) : Prop where
  lv : PyData.leavesShortAll 40 ds = true
  sh : PyData.showableAll ds = true
  dp : PyData.depthAll ds ≤ k
  wt : PyData.weightAll ds ≤ w
variable {k k' w w' w1 w2 : Nat} {x : PyData} {ds es : List PyData}
theorem Sz.mono (h : Sz k w x) (hk : k ≤ k' := by omega) (hw : w ≤ w' := by omega) : Sz k' w' x := ⟨h.lv, h.sh, Nat.le_trans h.dp hk, Nat.le_trans h.wt hw⟩
theorem SzL.mono (h : SzL k w ds) (hk : k ≤ k' := by omega) (hw : w ≤ w' := by omega) : SzL k' w' ds := ⟨h.lv, h.sh, Nat.le_trans h.dp hk, Nat.le_trans h.wt hw⟩
theorem SzL.nil : SzL k w [] := ⟨rfl, rfl, Nat.zero_le _, Nat.zero_le _⟩
theorem SzL.cons (h : Sz k w1 x) (r : SzL k w2 ds) : SzL k (w1 + 1 + w2) (x :: ds) :=
  ⟨by rw [PyData.leavesShortAll, h.lv, r.lv]; rfl, by rw [PyData.showableAll, h.sh, r.sh]; rfl, by have := h.dp; have := r.dp; rw [PyData.depthAll]; omega, by have := h.wt; have := r.wt; rw [PyData.weightAll]; omega⟩
theorem SzL.uncons (h : SzL k w (x :: ds)) : Sz k w x ∧ SzL k w ds := by
  obtain ⟨a, b, c, d⟩ := h
  rw [PyData.leavesShortAll, Bool.and_eq_true] at a
  rw [PyData.showableAll, Bool.and_eq_true] at b
  rw [PyData.depthAll] at c
  rw [PyData.weightAll] at d
  exact ⟨⟨a.1, b.1, by omega, by omega⟩, ⟨a.2, b.2, by omega, by omega⟩⟩
theorem SzL.uncons2 (h : SzL k w (x :: ds)) : ∃ w1 w2, w1 + 1 + w2 ≤ w ∧ Sz k w1 x ∧ SzL k w2 ds := by
  obtain ⟨a, b, c, d⟩ := h
  rw [PyData.leavesShortAll, Bool.and_eq_true] at a
  rw [PyData.showableAll, Bool.and_eq_true] at b
  rw [PyData.depthAll] at c
  rw [PyData.weightAll] at d
  exact ⟨x.weight, PyData.weightAll ds, by omega, ⟨a.1, b.1, by omega, by omega⟩, ⟨a.2, b.2, by omega, by omega⟩⟩
theorem SzL.mem (h : SzL k w ds) (hx : x ∈ ds) : Sz k w x := by
  induction ds with
  | nil => cases hx
  | cons y ds ih =>
    have := h.uncons
    rcases List.mem_cons.mp hx with rfl | hx
    · exact this.1
    · exact ih this.2 hx
theorem SzL.append : ∀ {ds : List PyData} {w1 : Nat}, SzL k w1 ds → SzL k w2 es → SzL k (w1 + w2) (ds ++ es)
  | [], _, _, r => r.mono (hk := Nat.le_refl _) (hw := by omega)
  | x :: ds, _, h, r => by
    obtain ⟨a, b, e, h1, h2⟩ := h.uncons2
    exact (SzL.cons h1 (SzL.append h2 r)).mono (hk := Nat.le_refl _) (hw := by omega)
theorem SzL.sub (h : SzL k w ds) (s : List.Sublist es ds) : SzL k w es := by
  induction s generalizing w with
  | slnil => exact h
  | cons a s ih => exact ih h.uncons.2
  | cons_cons a s ih =>
    obtain ⟨u, v, e, h1, h2⟩ := h.uncons2
    exact (SzL.cons h1 (ih h2)).mono (hk := Nat.le_refl _) (hw := by omega)
theorem cutL_sub {α : Type} (xs : List α) (lo hi : Option Int) : (cutL xs lo hi).Sublist xs := (List.take_sublist _ _).trans (List.drop_sublist _ _)
theorem SzL.len (h : SzL k w ds) : ds.length ≤ w := by
  induction ds generalizing w with
  | nil => exact Nat.zero_le _
  | cons y ds ih =>
    obtain ⟨u, v, e, h1, h2⟩ := h.uncons2
    have := ih h2
    rw [List.length_cons]
    omega
theorem Sz.tup (h : SzL k w ds) : Sz (k + 1) w (.tuple ds) := ⟨by rw [PyData.leavesShort]; exact h.lv, by rw [PyData.showable]; exact h.sh, by rw [PyData.depth]; exact Nat.succ_le_succ h.dp, by rw [PyData.weight]; exact h.wt⟩
theorem Sz.lst (h : SzL k w ds) : Sz (k + 1) w (.list ds) := ⟨by rw [PyData.leavesShort]; exact h.lv, by rw [PyData.showable]; exact h.sh, by rw [PyData.depth]; exact Nat.succ_le_succ h.dp, by rw [PyData.weight]; exact h.wt⟩
theorem log_lt {n m : Nat} (h : n < 2 ^ m) (hm : 0 < m) : n.log2 < m := by
  by_cases z : n = 0
  · subst z; exact hm
  · exact (Nat.log2_lt z).mpr h
theorem Sz.int {i : Int} (h : i.natAbs < 10 ^ 12) : Sz k 40 (.int i) := by
  have hl : i.natAbs.log2 < 40 := log_lt (Nat.lt_trans h (by decide)) (by decide)
  refine ⟨?_, ?_, Nat.zero_le _, ?_⟩
  · rw [PyData.leavesShort]
    exact decide_eq_true (Nat.le_trans (PyData.shown_int_le h) (by decide))
  · rw [PyData.showable]
    exact decide_eq_true (Nat.lt_trans hl (by decide))
  · rw [PyData.weight]
    split
    · exact Nat.zero_le _
    · omega
theorem Sz.int8 {i : Int} (h : i.natAbs < 256) : Sz k 8 (.int i) := by
  have hl : i.natAbs.log2 < 8 := log_lt h (by decide)
  obtain ⟨a, b, c, d⟩ := Sz.int (k := k) (i := i) (Nat.lt_trans h (by decide))
  refine ⟨a, b, c, ?_⟩
  rw [PyData.weight]
  split
  · exact Nat.zero_le _
  · omega
theorem Sz.none : Sz k w .none := ⟨rfl, rfl, Nat.zero_le _, Nat.zero_le _⟩
theorem Sz.bool {b : Bool} : Sz k w (.bool b) := ⟨rfl, rfl, Nat.zero_le _, Nat.zero_le _⟩
theorem Sz.shown (h : Sz k w x) (hk : k ≤ 64 := by omega) (hw : w ≤ 399000 := by omega) : fitsL x.shown.length = true := by
  refine fits_le (Nat.le_trans (PyData.shown_le 40 (by decide) x h.lv) ?_)
  have := h.wt
  omega
theorem z_repr {M : Mm} (h : Sz k w x) (hk : k ≤ 64 := by omega) (hw : w ≤ 399000 := by omega) : vRepr [.d x] M = .ok (.d (.str x.shown)) M := by
  show (if (x.showable && fitsL x.shown.length && decide (x.depth ≤ 64)) = true then Out.ok (Val.d (.str x.shown)) M else .bad) = _
  rw [h.sh, h.shown hk hw, decide_eq_true (Nat.le_trans h.dp hk)]
  rfl
/-! ### loops -/
def pairsN (n : Nat) (ds : List PyData) : List Val := (ds.zipIdx n).map fun p => .d (.tuple [.int (p.2 : Nat), p.1])
theorem z_enumt {M : Mm} : enumK [.d (.tuple ds)] M = .ok (pairsN 0 ds) M := rfl
theorem z_enuml {M : Mm} : enumK [.d (.list ds)] M = .ok (pairsN 0 ds) M := rfl
theorem z_itl {M : Mm} : itK (.d (.list ds)) M = .ok (ds.map .d) M := rfl
theorem z_itt {M : Mm} : itK (.d (.tuple ds)) M = .ok (ds.map .d) M := rfl
theorem z_its {M : Mm} {ns : List Int} : itK (.scr ns) M = .ok (ns.map fun n => .d (.int n)) M := rfl
theorem z_forn {g : GM} {b : SM} {s : Sl} {M : Mm} : forL g b [] s M = .nx s M := rfl
theorem z_forc {g : GM} {b : SM} {s s1 : Sl} {M M1 : Mm} {v : Val} {vs : List Val} (hg : g v s M = some (s1, M1)) : forL g b (v :: vs) s M = match b s1 M1 with
  | .nx s2 M2 => forL g b vs s2 M2
  | .ct s2 M2 => forL g b vs s2 M2
  | .bk s2 M2 => .nx s2 M2
  | o => o := by
  show (match g v s M with
    | some (s1, M1) => match b s1 M1 with
      | .nx s2 M2 => forL g b vs s2 M2
      | .ct s2 M2 => forL g b vs s2 M2
      | .bk s2 M2 => .nx s2 M2
      | o => o
    | none => .bad) = _
  rw [hg]
/-- a loop that keeps a word, with no return -/
theorem forL_inv {g : GM} {b : SM} (I : Sl → Mm → Prop) : ∀ (vs : List Val), (∀ v ∈ vs, ∀ s M, I s M → ∃ s1 M1, g v s M = some (s1, M1) ∧ ∃ s2 M2, b s1 M1 = .nx s2 M2 ∧ I s2 M2) →
    ∀ s M, I s M → ∃ s' M', forL g b vs s M = .nx s' M' ∧ I s' M'
  | [], _, s, M, h => ⟨s, M, rfl, h⟩
  | v :: vs, st, s, M, h => by
    obtain ⟨s1, M1, hg, s2, M2, hb, h2⟩ := st v (List.mem_cons_self ..) s M h
    obtain ⟨s', M', e, h'⟩ := forL_inv I vs (fun v hv => st v (List.mem_cons_of_mem _ hv)) s2 M2 h2
    refine ⟨s', M', ?_, h'⟩
    rw [z_forc hg, hb]
    exact e
/-- a comprehension whose turns keep a word and put out what is wanted -/
theorem compL_inv {g : GM} {t : TM} {e : EM} {s0 : Sl} (I : Mm → Prop) (R : Val → Prop) : ∀ (vs : List Val), (∀ v ∈ vs, ∀ M, I M → ∃ s1 M1, g v s0 M = some (s1, M1) ∧ ∃ c M2, t s1 M1 = .ok c M2 ∧
      if c = true then ∃ y M3, e s1 M2 = .ok y M3 ∧ I M3 ∧ R y else I M2) → ∀ M, I M → ∃ ys M', compL g t e s0 vs M = .ok ys M' ∧ I M' ∧ (∀ y ∈ ys, R y) ∧ ys.length ≤ vs.length
  | [], _, M, h => ⟨[], M, rfl, h, (fun _ h => by cases h), Nat.le_refl _⟩
  | v :: vs, st, M, h => by
    obtain ⟨s1, M1, hg, c, M2, ht, h2⟩ := st v (List.mem_cons_self ..) M h
    have u : compL g t e s0 (v :: vs) M = (t s1 M1).noer.bind fun b M2 => if b = true then (e s1 M2).noer.bind fun y M3 => (compL g t e s0 vs M3).bind fun r M4 => .ok (y :: r) M4 else compL g t e s0 vs M2 := by
      show (match g v s0 M with
        | some (s1, M1) => (t s1 M1).noer.bind fun b M2 => if b = true then (e s1 M2).noer.bind fun y M3 => (compL g t e s0 vs M3).bind fun r M4 => .ok (y :: r) M4 else compL g t e s0 vs M2
        | none => .bad) = _
      rw [hg]
    rw [ht, z_noer, z_bok] at u
    cases c with
    | false =>
      obtain ⟨ys, M', q, h3, h4, h5⟩ := compL_inv I R vs (fun v hv => st v (List.mem_cons_of_mem _ hv)) M2 h2
      exact ⟨ys, M', u.trans q, h3, h4, Nat.le_succ_of_le h5⟩
    | true =>
      obtain ⟨y, M3, he, h3, hy⟩ := h2
      obtain ⟨ys, M', q, h3, h4, h5⟩ := compL_inv I R vs (fun v hv => st v (List.mem_cons_of_mem _ hv)) M3 h3
      refine ⟨y :: ys, M', ?_, h3, (fun z hz => by rcases List.mem_cons.mp hz with rfl | hz; exact hy; exact h4 z hz), Nat.succ_le_succ h5⟩
      rw [u, if_pos rfl, he, z_noer, z_bok, q, z_bok]
/-- the first place that is bad -/
def scan (bad : Option PyData → PyData → Bool) : Option PyData → Nat → List PyData → Option Nat
  | _, _, [] => none
  | p, n, x :: r => if bad p x then some n else scan bad (some x) (n + 1) r
/-! ### reading -/
theorem atI_at {α : Type} {xs : List α} {i : Nat} {x : α} (h : xs[i]? = some x) : atI xs (i : Int) = some x := by
  have hl : i < xs.length := (List.getElem?_eq_some_iff.mp h).1
  unfold atI ixN
  rw [if_pos (by omega), if_pos (by omega)]
  exact h
theorem atI_in {α : Type} {xs : List α} {r : Int} (h0 : 0 ≤ r) (h1 : r < xs.length) : ∃ x, atI xs r = some x ∧ x ∈ xs := by
  have hl : r.toNat < xs.length := by omega
  refine ⟨xs[r.toNat], ?_, List.getElem_mem hl⟩
  unfold atI ixN
  rw [if_pos h0, if_pos h1]
  exact List.getElem?_eq_getElem hl
theorem z_ixt {M : Mm} {i : Int} (h : atI ds i = some x) : vIx (.d (.tuple ds)) (.d (.int i)) M = .ok (.d x) M := by
  show (match atI ds i with | some d => Out.ok (Val.d d) M | none => .bad) = _
  rw [h]
theorem z_ixt0 {M : Mm} : vIx (.d (.tuple (x :: ds))) (.d (.int 0)) M = .ok (.d x) M := z_ixt (atI_at (i := 0) rfl)
theorem z_ixt1 {M : Mm} {y : PyData} : vIx (.d (.tuple (x :: y :: ds))) (.d (.int 1)) M = .ok (.d y) M := z_ixt (atI_at (i := 1) rfl)
theorem z_ixt2 {M : Mm} {y z : PyData} : vIx (.d (.tuple (x :: y :: z :: ds))) (.d (.int 2)) M = .ok (.d z) M := z_ixt (atI_at (i := 2) rfl)
theorem z_lenl {M : Mm} : vLen [.d (.list ds)] M = .ok (.d (.int ds.length)) M := rfl
theorem z_lent {M : Mm} : vLen [.d (.tuple ds)] M = .ok (.d (.int ds.length)) M := rfl
theorem z_tyt {M : Mm} : tyNm (.d (.tuple ds)) M = some "tuple" := rfl
theorem z_tyl {M : Mm} : tyNm (.d (.list ds)) M = some "list" := rfl
theorem z_tyd {M : Mm} {kvs : List (PyData × PyData)} : tyNm (.d (.dict kvs)) M = some "dict" := rfl
theorem z_tyi {M : Mm} {i : Int} : tyNm (.d (.int i)) M = some "int" := rfl
theorem z_tyb {M : Mm} {i : Bool} : tyNm (.d (.bool i)) M = some "bool" := rfl
theorem z_tys {M : Mm} {i : Str} : tyNm (.d (.str i)) M = some "str" := rfl
theorem z_tyn {M : Mm} : tyNm (.d .none) M = some "NoneType" := rfl
theorem isT_tt : isT "tuple" "tuple" = true := by decide +kernel
theorem isT_lt : isT "list" "tuple" = false := by decide +kernel
theorem isT_dt : isT "dict" "tuple" = false := by decide +kernel
theorem isT_it : isT "int" "tuple" = false := by decide +kernel
theorem isT_bt : isT "bool" "tuple" = false := by decide +kernel
theorem isT_st : isT "str" "tuple" = false := by decide +kernel
theorem isT_nt : isT "NoneType" "tuple" = false := by decide +kernel
theorem isT_ti : isT "tuple" "int" = false := by decide +kernel
theorem isT_li : isT "list" "int" = false := by decide +kernel
theorem isT_di : isT "dict" "int" = false := by decide +kernel
theorem isT_ii : isT "int" "int" = true := by decide +kernel
theorem isT_bi : isT "bool" "int" = true := by decide +kernel
theorem isT_si : isT "str" "int" = false := by decide +kernel
theorem isT_ni : isT "NoneType" "int" = false := by decide +kernel
theorem isT_tb : isT "tuple" "bool" = false := by decide +kernel
theorem isT_lb : isT "list" "bool" = false := by decide +kernel
theorem isT_db : isT "dict" "bool" = false := by decide +kernel
theorem isT_ib : isT "int" "bool" = false := by decide +kernel
theorem isT_bb : isT "bool" "bool" = true := by decide +kernel
theorem isT_sb : isT "str" "bool" = false := by decide +kernel
theorem isT_nb : isT "NoneType" "bool" = false := by decide +kernel
theorem isT_ts : isT "tuple" "str" = false := by decide +kernel
theorem isT_ls : isT "list" "str" = false := by decide +kernel
theorem isT_ds : isT "dict" "str" = false := by decide +kernel
theorem isT_is : isT "int" "str" = false := by decide +kernel
theorem isT_bs : isT "bool" "str" = false := by decide +kernel
theorem isT_ss : isT "str" "str" = true := by decide +kernel
theorem isT_ns : isT "NoneType" "str" = false := by decide +kernel
end Zm
namespace Zm
open PySem PySem.Spec PyProof.Rows L2
section
variable {q : Dk} {rest r : Mm} {us : List Val} {w : Val}
theorem dk_below {n : Nat} (h : 0 < n) : (q.mem []).all (MO.below n) = true := by
  have h2 : ((q.cells.map fun i => Val.d (.int i)).all (Val.below n)) = true := List.all_eq_true.mpr fun v hv => by
    obtain ⟨i, _, rfl⟩ := List.mem_map.mp hv
    rfl
  show ((q.cells.map fun i => Val.d (.int i)).all (Val.below n) && ((decide (0 < n) && (true && (true && true))) && true)) = true
  rw [h2, decide_eq_true h]
  rfl
theorem dk_mem1 : q.mem [] ++ [.lst us] = q.mem [.lst us] := rfl
theorem dk_rd2 : rd (.obj 2) (q.mem (.lst us :: r)) = .obj 2 := rfl
theorem dk_ty2 : tyOk "list" (.obj 2) (q.mem (.lst us :: r)) = true := rfl
theorem dk_len0 : (q.mem []).length = 2 := rfl
theorem sortD_i (ns : List Int) : sortD (ns.map .int) = some ((sortI ns).map .int) := by
  unfold sortD
  rw [allI_map]
theorem sortD_p (ps : List (Int × Int)) : sortD (ps.map pairD) = some ((sortP ps).map pairD) := by
  cases ps with
  | nil => simp [sortD, allI, sortI, sortP]
  | cons p ps =>
    unfold sortD
    have h : allI ((p :: ps).map pairD) = none := rfl
    rw [h, allP_map]
theorem z_tupl {M : Mm} {ds : List PyData} : vTuple [.d (.list ds)] M = .ok (.d (.tuple ds)) M := rfl
theorem z_tupt {M : Mm} {ds : List PyData} : vTuple [.d (.tuple ds)] M = .ok (.d (.tuple ds)) M := rfl
theorem z_listt {M : Mm} {ds : List PyData} : vList [.d (.tuple ds)] M = .ok (.d (.list ds)) M := rfl
theorem z_listl {M : Mm} {ds : List PyData} : vList [.d (.list ds)] M = .ok (.d (.list ds)) M := rfl
def hit (f a b : Int) : Bool := (a == f) || ((b == f) || false)
theorem z_in2 {M : Mm} {f a b : Int} : vIn false (.d (.int f)) (.d (.tuple [.int a, .int b])) M = .ok (.d (.bool (hit f a b))) M := by
  show (if SeqAt.shaped (.int f) && PyData.canLayAll0 [.int a, .int b] then Out.ok (Val.d (.bool (xor false ([PyData.int a, .int b].any fun z => PyData.eqv z (.int f))))) M else .bad) = _
  have h : (SeqAt.shaped (.int f) && PyData.canLayAll0 [.int a, .int b]) = true := rfl
  rw [if_pos h, Bool.false_xor]
  rfl
theorem allD_of {P : PyData → Prop} : ∀ {ys : List Val}, (∀ y ∈ ys, ∃ x, y = .d x ∧ P x) → ∃ ds : List PyData, ys = ds.map .d ∧ ∀ x ∈ ds, P x
  | [], _ => ⟨[], rfl, fun _ h => by cases h⟩
  | y :: ys, h => by
    obtain ⟨x, rfl, hx⟩ := h y (List.mem_cons_self ..)
    obtain ⟨ds, rfl, h2⟩ := allD_of fun y hy => h y (List.mem_cons_of_mem _ hy)
    exact ⟨x :: ds, rfl, fun z hz => by rcases List.mem_cons.mp hz with rfl | hz; exact hx; exact h2 z hz⟩
theorem z_lcK {M : Mm} {ds : List PyData} (h : ds.length ≤ 16777216) : lcK (ds.map .d) M = .ok (.d (.list ds)) M := by
  show (match allD (ds.map .d) with
    | some ds' => if fitsL (ds.map Val.d).length then Out.ok (Val.d (.list ds')) M else .bad
    | none => .bad) = _
  rw [z_allDm]
  show (if fitsL (ds.map Val.d).length then Out.ok (Val.d (.list ds)) M else .bad) = _
  rw [List.length_map, fits_le h]
  rfl
end
end Zm
namespace Zm
open PySem PySem.Spec PyProof.Rows L2
section
variable {k w w1 w2 : Nat} {x y z : PyData} {ds es : List PyData} {M : Mm} {s : Sl}
theorem z_addl : vAdd (.d (.list ds)) (.d (.list es)) M = if fitsL (ds.length + es.length) then .ok (.d (.list (ds ++ es))) M else .bad := rfl
theorem z_addt : vAdd (.d (.tuple ds)) (.d (.tuple es)) M = if fitsL (ds.length + es.length) then .ok (.d (.tuple (ds ++ es))) M else .bad := rfl
theorem z_addt' (h : ds.length + es.length ≤ 16777216) : vAdd (.d (.tuple ds)) (.d (.tuple es)) M = .ok (.d (.tuple (ds ++ es))) M := by rw [z_addt, fits_le h]; rfl
theorem z_na10 : Int.natAbs 10 = 10 := rfl
theorem z_dct0 : mDct0 s M = .ok (.d (.dict [])) M := rfl
theorem z_disp {k : List Val → Mm → Out Val} {ms : AM} : mDisp k ms s M = (ms s M).bind k := rfl
theorem z_disp1 {k : Key} : dispK [k] [.d x] M = .ok (.d (.dict [(keyD k, x)])) M := by
  unfold dispK
  rw [z_allD1, z_allD0]
  show (if [Val.d x].length = [k].length ∧ [k].Nodup ∧ [k].length ≤ 15 then _ else _) = _
  rw [if_pos ⟨rfl, by simp, by simp⟩]
  rfl
theorem z_slt {lo hi : Option Int} : vSl (.d (.tuple ds)) lo hi M = .ok (.d (.tuple (cutL ds lo hi))) M := rfl
theorem z_revt : vRev (.d (.tuple ds)) M = .ok (.d (.tuple ds.reverse)) M := rfl
def SzE (k w : Nat) (ds : List PyData) : Prop := ∀ x ∈ ds, Sz k w x
theorem SzE.nil : SzE k w [] := fun _ h => by cases h
theorem SzE.cons (h : Sz k w x) (r : SzE k w ds) : SzE k w (x :: ds) := fun z hz => by
  rcases List.mem_cons.mp hz with rfl | hz
  · exact h
  · exact r z hz
theorem SzL.c {k1 k2 : Nat} (h : Sz k1 w1 x) (r : SzL k2 w2 ds) : SzL (max k1 k2) (w1 + 1 + w2) (x :: ds) := SzL.cons (h.mono (hw := Nat.le_refl _)) (r.mono (hw := Nat.le_refl _))
theorem SzL.a {k1 k2 : Nat} (h : SzL k1 w1 ds) (r : SzL k2 w2 es) : SzL (max k1 k2) (w1 + w2) (ds ++ es) := SzL.append (h.mono (hw := Nat.le_refl _)) (r.mono (hw := Nat.le_refl _))
theorem SzL.n0 : SzL 0 0 [] := .nil
theorem Sz.t1 (h : Sz k w x) : Sz (k + 1) (w + 1) (.tuple [x]) := (Sz.tup (SzL.c h .n0)).mono
theorem Sz.t2 {k1 : Nat} (h : Sz k w x) (h1 : Sz k1 w1 y) : Sz (max k k1 + 1) (w + w1 + 2) (.tuple [x, y]) := (Sz.tup (SzL.c h (.c h1 .n0))).mono
theorem Sz.l1 (h : Sz k w x) : Sz (k + 1) (w + 1) (.list [x]) := (Sz.lst (SzL.c h .n0)).mono
theorem Sz.n : Sz 0 0 .none := .none
theorem Sz.b {b : Bool} : Sz 0 0 (.bool b) := .bool
theorem Sz.i8 {i : Int} (h : i.natAbs < 256) : Sz 0 8 (.int i) := .int8 h
theorem SzE.c {k1 : Nat} (h : Sz k1 w1 x) (r : SzE k w ds) (hk : k1 ≤ k := by omega) (hw : w1 ≤ w := by omega) : SzE k w (x :: ds) := .cons (h.mono hk hw) r
theorem cutL_len {α : Type} (xs : List α) (lo hi : Option Int) : (cutL xs lo hi).length ≤ xs.length := (cutL_sub xs lo hi).length_le
end
end Zm
namespace Zm
open PySem PySem.Spec PyProof.Rows L2
section
variable {k w w1 w2 : Nat} {x y z : PyData} {ds es : List PyData} {M : Mm} {s : Sl}
theorem z_lens {ns : List Int} : vLen [.scr ns] M = .ok (.d (.int ns.length)) M := rfl
theorem z_sls {ns : List Int} {lo hi : Option Int} : vSl (.scr ns) lo hi M = .ok (.d (.list (cutL (ns.map .int) lo hi))) M := rfl
theorem z_sll {lo hi : Option Int} : vSl (.d (.list ds)) lo hi M = .ok (.d (.list (cutL ds lo hi))) M := rfl
theorem z_lcN {us : List Val} (h : us.length ≤ 16777216) : lcN us M = .ok (.obj M.length) (M ++ [.lst us]) := by
  unfold lcN
  rw [fits_le h]
  rfl
theorem SzL.ofE : ∀ {ds : List PyData} {k w n : Nat}, SzE k w ds → ds.length ≤ n → SzL k (n * (w + 1)) ds
  | [], _, _, _, _, _ => .nil
  | x :: ds, k, w, n, h, hl => by
    rw [List.length_cons] at hl
    have ih := SzL.ofE (n := n - 1) (fun y hy => h y (List.mem_cons_of_mem _ hy)) (by omega)
    have e : n * (w + 1) = (n - 1) * (w + 1) + (w + 1) := by
      obtain ⟨m, rfl⟩ : ∃ m, n = m + 1 := ⟨n - 1, by omega⟩
      rw [Nat.add_sub_cancel, Nat.succ_mul]
    exact (SzL.cons (h x (List.mem_cons_self ..)) ih).mono (hk := Nat.le_refl _) (hw := by omega)
end
end Zm
namespace Zm
open PySem PySem.Spec PyProof.Rows L2
section
variable {q : Dk} {rest r : Mm} {us : List Val} {w : Val} {M : Mm} {s : Sl} {x : PyData} {ds es : List PyData} {i : Nat}
theorem z_mulx {a b : Int} : vMulX (.d (.int a)) (.d (.int b)) M = if smallI a || smallI b then .ok (.d (.int (a * b))) M else .bad := rfl
theorem z_lr1 {m : EM} : mLR1 m s M = (m s M).bind fun v M1 => match v with
  | .d (.int j) => if okR j then .ok (.d (.list (ranD 0 j))) M1 else .bad
  | _ => .bad := rfl
theorem z_lr1N {m : EM} : mLR1N m s M = (m s M).bind fun v M1 => match v with
  | .d (.int j) => if okR j then .ok (.obj M1.length) (M1 ++ [.lst ((ranD 0 j).map .d)]) else .bad
  | _ => .bad := rfl
theorem okR_le {j : Int} (h1 : 0 ≤ j) (h2 : j ≤ 16777216) : okR j = true := by
  unfold okR
  rw [decide_eq_true h1, decide_eq_true h2]
  rfl
/-! ### places behind the deck -/
theorem dk_get {i : Nat} : (q.mem rest)[i + 2]? = rest[i]? := rfl
theorem dk_set {i : Nat} {o : MO} : (q.mem rest).set (i + 2) o = q.mem (rest.set i o) := rfl
theorem dk_add : q.mem rest ++ r = q.mem (rest ++ r) := rfl
theorem dk_ll : (q.mem rest).length = rest.length + 2 := rfl
theorem z_rdo : rd (.obj (i + 2)) (q.mem rest) = match rest[i]? with
  | some (.frz x) => .d x
  | _ => .obj (i + 2) := rfl
theorem z_tyo {T : String} : tyOk T (.obj (i + 2)) (q.mem rest) = match rest[i]? with
    | some (.lst _) => T == "list"
    | some (.dct _) => T == "dict"
    | _ => false := rfl
theorem z_app : vAppend (.obj (i + 2)) [w] (q.mem rest) = match rest[i]? with
    | some (.lst us) => if us.length < 16777216 then .ok (.d .none) (q.mem (rest.set i (.lst (us ++ [w])))) else .bad
    | _ => .bad := rfl
theorem z_listN {v : Val} : vListN [v] M = match seqD v M with
    | some ds => .ok (.obj M.length) (M ++ [.lst (ds.map .d)])
    | none => .bad := rfl
theorem z_sqt : seqD (.d (.tuple ds)) M = some ds := rfl
theorem z_sql : seqD (.d (.list ds)) M = some ds := rfl
theorem z_leno : vLen [.obj (i + 2)] (q.mem rest) = match (match rest[i]? with
    | some (.lst vs) => some vs.length
    | _ => none) with
  | some n => .ok (.d (.int (n : Nat))) (q.mem rest)
  | none => .bad := rfl
theorem z_frz {m : EM} : mFrz m s M = (m s M).bind fun v M1 => match v with
  | .obj i => match M1[i]? with
    | some (.frz x) => .ok (.d x) M1
    | some (.lst vs) => match fzL vs M1 with
      | some ds => .ok (.d (.list ds)) (M1.set i (.frz (.list ds)))
      | none => .bad
    | _ => .bad
  | v => .ok v M1 := rfl
end
/-! ### data that can be compared -/
structure Lay (ds : List PyData) : Prop where
  c : ∀ x ∈ ds, x.canLay0 = true
  d : ∀ x ∈ ds, x.depth ≤ 60
theorem Lay.shaped {ds : List PyData} (h : Lay ds) : SeqAt.shaped (.list ds) = true := by
  have a : PyData.canLayAll0 ds = true := by
    have := h.c
    clear h
    induction ds with
    | nil => rfl
    | cons x ds ih => rw [PyData.canLayAll0, this x (List.mem_cons_self ..), ih fun y hy => this y (List.mem_cons_of_mem _ hy)]; rfl
  have b : PyData.depthAll ds ≤ 60 := by
    have := h.d
    clear h a
    induction ds with
    | nil => exact Nat.zero_le _
    | cons x ds ih => rw [PyData.depthAll]; exact Nat.max_le.mpr ⟨this x (List.mem_cons_self ..), ih fun y hy => this y (List.mem_cons_of_mem _ hy)⟩
  unfold SeqAt.shaped
  rw [PyData.canLay0, a, PyData.depth, decide_eq_true (by omega)]
  rfl
theorem Lay.sub {ds es : List PyData} (h : Lay ds) (s : ∀ x ∈ es, x ∈ ds) : Lay es := ⟨fun x hx => h.c x (s x hx), fun x hx => h.d x (s x hx)⟩
/-! ### while -/
theorem whN_det {c : TM} {b : SM} : ∀ (n m : Nat) (s : Sl) (M : Mm), whN c b n s M ≠ .bad → whN c b m s M ≠ .bad → whN c b n s M = whN c b m s M
  | 0, _, _, _, h, _ => absurd rfl h
  | _ + 1, 0, _, _, _, h => absurd rfl h
  | n + 1, m + 1, s, M, h1, h2 => by
    unfold whN at h1 h2 ⊢
    cases hc : c s M with
    | bad => rfl
    | er e M1 => rfl
    | ok k M1 =>
      rw [hc] at h1 h2
      cases k with
      | false => rfl
      | true =>
        simp only [z_bsok, if_true] at h1 h2 ⊢
        cases hb : b s M1 with
        | nx s2 M2 => rw [hb] at h1 h2; exact whN_det n m s2 M2 h1 h2
        | ct s2 M2 => rw [hb] at h1 h2; exact whN_det n m s2 M2 h1 h2
        | _ => rfl
theorem sWhile_of {c : TM} {b : SM} {s : Sl} {M : Mm} {o : SO} {n : Nat} (h : whN c b n s M = o) (ho : o ≠ .bad) : sWhile c b s M = o := by
  have hn : whN c b n s M ≠ .bad := by rw [h]; exact ho
  have he : ∃ n, whN c b n s M ≠ .bad := ⟨n, hn⟩
  unfold sWhile
  rw [dif_pos he, ← h]
  exact whN_det _ _ _ _ (Classical.choose_spec he) hn
end Zm
namespace Zm
open PySem PySem.Spec PyProof.Rows L2
end Zm
namespace Zm
open PySem PySem.Spec PyProof.Rows L2
theorem compL_consT {g : GM} {t : TM} {e : EM} {s0 s1 : Sl} {v y : Val} {vs : List Val} {M M1 M2 M3 : Mm} (hg : g v s0 M = some (s1, M1)) (ht : t s1 M1 = .ok true M2) (he : e s1 M2 = .ok y M3) :
    compL g t e s0 (v :: vs) M = (compL g t e s0 vs M3).bind fun r M4 => .ok (y :: r) M4 := by
  show (match g v s0 M with
    | some (s1, M1) => (t s1 M1).noer.bind fun b M2 => if b = true then (e s1 M2).noer.bind fun y M3 => (compL g t e s0 vs M3).bind fun r M4 => .ok (y :: r) M4 else compL g t e s0 vs M2
    | none => .bad) = _
  rw [hg]
  show ((t s1 M1).noer.bind fun b M2 => if b = true then (e s1 M2).noer.bind fun y M3 => (compL g t e s0 vs M3).bind fun r M4 => .ok (y :: r) M4 else compL g t e s0 vs M2) = _
  rw [ht, z_noer, z_bok, if_pos rfl, he, z_noer, z_bok]
theorem compL_consF {g : GM} {t : TM} {e : EM} {s0 s1 : Sl} {v : Val} {vs : List Val} {M M1 M2 : Mm} (hg : g v s0 M = some (s1, M1)) (ht : t s1 M1 = .ok false M2) :
    compL g t e s0 (v :: vs) M = compL g t e s0 vs M2 := by
  show (match g v s0 M with
    | some (s1, M1) => (t s1 M1).noer.bind fun b M2 => if b = true then (e s1 M2).noer.bind fun y M3 => (compL g t e s0 vs M3).bind fun r M4 => .ok (y :: r) M4 else compL g t e s0 vs M2
    | none => .bad) = _
  rw [hg]
  show ((t s1 M1).noer.bind fun b M2 => if b = true then (e s1 M2).noer.bind fun y M3 => (compL g t e s0 vs M3).bind fun r M4 => .ok (y :: r) M4 else compL g t e s0 vs M2) = _
  rw [ht, z_noer, z_bok, if_neg (by decide)]
end Zm
namespace Zm
open PySem PySem.Spec PyProof.Rows L2
theorem z_sortX {M : Mm} {v : Val} {ds es : List PyData} (h : listD v M = some ds) (e : sortD ds = some es) : vSortX [v] M = .ok (.d (.list es)) M := by
  show (match listD v M with
    | some ds => match sortD ds with
      | some es => Out.ok (Val.d (.list es)) M
      | none => match headW ds with
        | some z => match allT z ds with
          | some ps => .ok (.d (.list ((sortP ps).map (triD z)))) M
          | none => .bad
        | none => .bad
    | none => .bad) = _
  rw [h]
  show (match sortD ds with
      | some es => Out.ok (Val.d (.list es)) M
      | none => match headW ds with
        | some z => match allT z ds with
          | some ps => .ok (.d (.list ((sortP ps).map (triD z)))) M
          | none => .bad
        | none => .bad) = _
  rw [e]
theorem z_star {a : EM} {r : AM} {s : Sl} {M : Mm} : mStar a r s M = (a s M).bind fun v M1 => match seqD v M1 with
  | some ds => (r s M1).bind fun ys M2 => .ok (ds.map .d ++ ys) M2
  | none => .bad := rfl
theorem z_lr2 {a b : EM} {s : Sl} {M : Mm} : mLR2 a b s M = (a s M).bind fun v M1 => (b s M1).bind fun w M2 => match v, w with
  | .d (.int i), .d (.int j) => if decide (-1000 ≤ i) && decide (i ≤ 1000000) && decide (-1000 ≤ j) && decide (j ≤ 1000000) then .ok (.d (.list (ranD i j))) M2 else .bad
  | _, _ => .bad := rfl
end Zm
namespace Zm
open PySem PySem.Spec PyProof.Rows L2
end Zm
namespace Zm
open PySem PySem.Spec PyProof.Rows L2
section
variable {q : Dk} {rest r : Mm} {us : List Val} {w : Val} {M : Mm} {s : Sl} {x : PyData} {ds es : List PyData} {i : Nat}
theorem compL_map {α : Type} {g : GM} {t : TM} {e : EM} {s0 : Sl} (D : α → PyData) (p : α → Bool) (f : α → PyData) : ∀ (xs : List α), (∀ a ∈ xs, ∃ s1, g (.d (D a)) s0 M = some (s1, M) ∧ t s1 M = .ok (p a) M ∧ (p a = true → e s1 M = .ok (.d (f a)) M)) →
    compL g t e s0 ((xs.map D).map .d) M = .ok (((xs.filter p).map f).map .d) M
  | [], _ => rfl
  | a :: xs, h => by
    obtain ⟨s1, hg, ht, he⟩ := h a (List.mem_cons_self ..)
    have ih := compL_map D p f xs fun b hb => h b (List.mem_cons_of_mem _ hb)
    rw [List.map_cons, List.map_cons]
    cases hp : p a with
    | false =>
      rw [hp] at ht
      rw [compL_consF hg ht, ih, List.filter_cons_of_neg (by rw [hp]; decide)]
    | true =>
      rw [compL_consT hg (hp ▸ ht) (he hp), ih, List.filter_cons_of_pos hp]
      rfl
/-! ### the newest place -/
theorem z_ext : vExtend (.obj (i + 2)) [.d (.list ds)] (q.mem rest) = match rest[i]? with
    | some (.lst us) => if us.length + ds.length ≤ 16777216 then .ok (.d .none) (q.mem (rest.set i (.lst (us ++ ds.map .d)))) else .bad
    | _ => .bad := by
  show (match rest[i]?, trackD (.d (.list ds)) (q.mem rest) with
    | some (.lst us), some ds => if us.length + ds.length ≤ 16777216 then Out.ok (Val.d .none) ((q.mem rest).set (i + 2) (.lst (us ++ ds.map Val.d))) else .bad
    | _, _ => .bad) = _
  cases rest[i]? with
  | none => rfl
  | some o => cases o <;> rfl
def inI (ns : List Int) (g : Int) : Bool := ns.any fun z => z == g
end
end Zm
/-! The pure layer: what a denotation comes to, as a plain function of typed data. -/
namespace Zm
open PySem PySem.Spec PyProof.Rows L2
/-! ### monads: plain, raising, drawing -/
inductive Res (α : Type) where
  | ok (a : α)
  | er (e : Exc)
class WM (μ : Type → Type) where
  pu : {α : Type} → α → μ α
  bd : {α β : Type} → μ α → (α → μ β) → μ β
  run : {α : Type} → μ α → Nat → (Res α → Nat → Prop) → Prop
  run_pu : ∀ {α : Type} {a : α} {b : Nat} {Q : Res α → Nat → Prop}, run (pu a) b Q → Q (.ok a) b
  run_bd : ∀ {α β : Type} {x : μ α} {f : α → μ β} {b : Nat} {Q : Res β → Nat → Prop}, run (bd x f) b Q → run x b fun r b' => match r with
    | .ok a => run (f a) b' Q
    | .er e => Q (.er e) b'
  pu_bd : ∀ {α β : Type} {a : α} {f : α → μ β}, bd (pu a) f = f a
  bd_as : ∀ {α β γ : Type} {x : μ α} {f : α → μ β} {g : β → μ γ}, bd (bd x f) g = bd x fun a => bd (f a) g
open WM (pu bd)
instance : WM Option where
  pu := some
  bd := Option.bind
  run o b Q := ∃ a, o = some a ∧ Q (.ok a) b
  run_pu := fun ⟨_, h, q⟩ => by cases h; exact q
  run_bd := fun {_ _ x f _ Q} ⟨b, h, q⟩ => by
    cases x with
    | none => cases h
    | some a => exact ⟨a, rfl, b, h, q⟩
  pu_bd := rfl
  bd_as := fun {_ _ _ x _ _} => by cases x <;> rfl
/-- plain, or it raises -/
def OE (α : Type) : Type := Option (Res α)
instance : WM OE where
  pu a := some (.ok a)
  bd x f := match x with
    | some (.ok a) => f a
    | some (.er e) => some (.er e)
    | none => none
  run o b Q := ∃ r, o = some r ∧ Q r b
  run_pu := fun ⟨_, h, q⟩ => by cases h; exact q
  run_bd := fun {_ _ x f _ Q} ⟨b, h, q⟩ => by
    cases x with
    | none => cases h
    | some r =>
      cases r with
      | ok a => exact ⟨.ok a, rfl, b, h, q⟩
      | er e => cases h; exact ⟨.er e, rfl, q⟩
  pu_bd := rfl
  bd_as := fun {_ _ _ x _ _} => by
    cases x with
    | none => rfl
    | some r => cases r <;> rfl
/-- whatever is drawn -/
def Dm (α : Type) : Type := (α → Prop) → Prop
instance : WM Dm where
  pu a := fun Q => Q a
  bd x f := fun Q => x fun a => f a Q
  run x b Q := x fun a => Q (.ok a) b
  run_pu := id
  run_bd := id
  pu_bd := rfl
  bd_as := rfl
/-- whatever is drawn, or it raises -/
def DE (α : Type) : Type := (Res α → Prop) → Prop
instance : WM DE where
  pu a := fun Q => Q (.ok a)
  bd x f := fun Q => x fun r => match r with
    | .ok a => f a Q
    | .er e => Q (.er e)
  run x b Q := x fun r => Q r b
  run_pu := id
  run_bd := id
  pu_bd := rfl
  bd_as := fun {_ _ _ x f g} => by
    funext Q
    show x _ = x _
    congr 1
/-- from a plain function -/
class LO (μ : Type → Type) extends WM μ where
  lf : {α : Type} → Option α → μ α
  run_lf : ∀ {α : Type} {x : Option α} {b : Nat} {Q : Res α → Nat → Prop}, run (lf x) b Q → ∃ a, x = some a ∧ Q (.ok a) b
  lf_some : ∀ {α : Type} {a : α}, lf (some a) = pu a
open LO (lf)
instance : LO Option where
  lf x := x
  run_lf := id
  lf_some := rfl
instance : LO OE where
  lf x := x.map .ok
  run_lf := fun {_ x _ _} ⟨b, h, q⟩ => by
    cases x with
    | none => cases h
    | some a => cases h; exact ⟨a, rfl, q⟩
  lf_some := rfl
instance : LO Dm where
  lf x := fun Q => ∃ a, x = some a ∧ Q a
  run_lf := id
  lf_some := fun {_ a} => by
    funext Q
    exact propext ⟨fun ⟨b, h, q⟩ => by cases h; exact q, fun q => ⟨a, rfl, q⟩⟩
instance : LO DE where
  lf x := fun Q => ∃ a, x = some a ∧ Q (.ok a)
  run_lf := id
  lf_some := fun {_ a} => by
    funext Q
    exact propext ⟨fun ⟨b, h, q⟩ => by cases h; exact q, fun q => ⟨a, rfl, q⟩⟩
/-- no errors are told of -/
class NE (μ : Type → Type) [WM μ] : Prop where
  ne : ∀ {α : Type} {x : μ α} {b : Nat} {Q : Res α → Nat → Prop}, WM.run x b Q → WM.run x b fun r b' => match r with
    | .ok a => Q (.ok a) b'
    | .er _ => False
instance : NE Option where
  ne := id
instance : NE Dm where
  ne := id
/-! ### what is known of the slots -/
inductive Sp where
  /-- nothing -/
  | n
  /-- a datum -/
  | v (x : PyData)
  /-- a place whose thing is fixed -/
  | f (x : PyData)
  /-- that place -/
  | o (j : Nat)
  /-- a list, a dict of one's own -/
  | l (xs : List PyData)
  | k (kvs : List (PyData × PyData))
  /-- any thing of one's own -/
  | m (u : MO)
  | s (ns : List Int)
  /-- a value that is no place -/
  | w (x : Val)
abbrev Cs := List Sp
abbrev Ps := List (Sp × Option Val)
def SpOk (M : Mm) : Sp → Option Val → Prop
  | .n, _ => True
  | .v x, w => w = some (.d x)
  | .f x, w => ∃ j, w = some (.obj j) ∧ M[j]? = some (.frz x)
  | .o j, w => w = some (.obj j)
  | .l xs, w => ∃ j, w = some (.obj j) ∧ M[j]? = some (.lst (xs.map .d))
  | .k kvs, w => ∃ j, w = some (.obj j) ∧ M[j]? = some (.dct (kvs.map fun p => (p.1, .d p.2)))
  | .m u, w => ∃ j, w = some (.obj j) ∧ M[j]? = some u ∧ ∀ x, u ≠ .frz x
  | .s ns, w => w = some (.scr ns)
  | .w x, w => w = some x ∧ ∀ M', rd x M' = x
def Sp.own : Sp → Bool
  | .l _ => true
  | .k _ => true
  | .m _ => true
  | _ => false
structure Sat (L : Ps) (B : Mm) (M : Mm) : Prop where
  ok : ∀ p ∈ L, SpOk M p.1 p.2
  nd : ∀ (i i' : Nat) (p q : Sp × Option Val) (j : Nat), i ≠ i' → L[i]? = some p → L[i']? = some q → p.1.own = true → q.1.own = true → p.2 = some (.obj j) → q.2 = some (.obj j) → False
  lo : ∀ p ∈ L, ∀ j, p.1.own = true → p.2 = some (.obj j) → B.length ≤ j
  pre : ∃ R, M = B ++ R
  cl : M.all (MO.below M.length) = true
abbrev Ps.sl (L : Ps) : Sl := L.map (·.2)
abbrev Ps.cs (L : Ps) : Cs := L.map (·.1)
theorem Ps.get {L : Ps} {i : Nat} {sp : Sp} (h : L.cs[i]? = some sp) : ∃ w, L[i]? = some (sp, w) ∧ L.sl[i]? = some w := by
  rw [List.getElem?_map] at h
  cases q : L[i]? with
  | none => rw [q] at h; cases h
  | some p =>
    rw [q] at h
    cases h
    exact ⟨p.2, rfl, by rw [List.getElem?_map, q]; rfl⟩
theorem sp_ok_obj {M : Mm} {sp : Sp} {w : Option Val} (h : SpOk M sp w) (o : sp.own = true) : ∃ j, w = some (.obj j) ∧ ∃ u, M[j]? = some u ∧ ∀ x, u ≠ .frz x := by
  cases sp with
  | l xs => obtain ⟨j, a, b⟩ := h; exact ⟨j, a, _, b, fun x e => by cases e⟩
  | k kvs => obtain ⟨j, a, b⟩ := h; exact ⟨j, a, _, b, fun x e => by cases e⟩
  | m u => obtain ⟨j, a, b, c⟩ := h; exact ⟨j, a, _, b, c⟩
  | _ => cases o
section
variable {L P : Ps} {B M M' : Mm} {sp : Sp} {w : Option Val}
/-- fewer things are known -/
theorem Sat.sub {L' : Ps} (S : Sat L B M) (h1 : ∀ p ∈ L', p ∈ L ∨ p.1 = .n) (h2 : ∀ (i i' : Nat) (p q : Sp × Option Val) (j : Nat), i ≠ i' → L'[i]? = some p → L'[i']? = some q → p.1.own = true → q.1.own = true → p.2 = some (.obj j) → q.2 = some (.obj j) → False) : Sat L' B M where
  ok p hp := (h1 p hp).elim (S.ok p) fun e => by rw [e]; trivial
  nd := h2
  lo p hp j o e := (h1 p hp).elim (fun h => S.lo p h j o e) fun z => by rw [z] at o; cases o
  pre := S.pre
  cl := S.cl
theorem Sat.left (S : Sat (L ++ P) B M) : Sat L B M :=
  S.sub (fun p h => .inl (List.mem_append_left _ h)) fun i i' p q j hi h1 h2 => S.nd i i' p q j hi (by rw [List.getElem?_append_left (List.getElem?_eq_some_iff.mp h1).1]; exact h1) (by rw [List.getElem?_append_left (List.getElem?_eq_some_iff.mp h2).1]; exact h2)
/-- the things at places: nothing that is known of has changed -/
theorem SpOk.keep {M M' : Mm} {sp : Sp} {w : Option Val} (h : ∀ j, j < M.length → M'[j]? = M[j]?) (s : SpOk M sp w) : SpOk M' sp w := by
  have aux : ∀ {j : Nat} {u : MO}, M[j]? = some u → M'[j]? = some u := fun {j u} e => by rw [h j (List.getElem?_eq_some_iff.mp e).1]; exact e
  cases sp with
  | n => trivial
  | v x => exact s
  | f x => obtain ⟨j, a, b⟩ := s; exact ⟨j, a, aux b⟩
  | o j => exact s
  | l xs => obtain ⟨j, a, b⟩ := s; exact ⟨j, a, aux b⟩
  | k kvs => obtain ⟨j, a, b⟩ := s; exact ⟨j, a, aux b⟩
  | m u => obtain ⟨j, a, b, c⟩ := s; exact ⟨j, a, aux b, c⟩
  | s ns => exact s
  | w _ => exact s
theorem below_mono {n m : Nat} (h : n ≤ m) : ∀ {o : MO}, MO.below n o = true → MO.below m o = true := by
  have v : ∀ {v : Val}, Val.below n v = true → Val.below m v = true := fun {v} e => by
    cases v with
    | obj i => exact decide_eq_true (Nat.lt_of_lt_of_le (of_decide_eq_true e) h)
    | prO _ i => exact decide_eq_true (Nat.lt_of_lt_of_le (of_decide_eq_true e) h)
    | d _ => rfl
    | scr _ => rfl
    | fnc _ => rfl
    | prF _ _ => rfl
    | ri _ _ => rfl
  intro o e
  cases o with
  | frz x => rfl
  | lst vs => exact List.all_eq_true.mpr fun x hx => v (List.all_eq_true.mp e x hx)
  | dct kvs => exact List.all_eq_true.mpr fun x hx => v (List.all_eq_true.mp e x hx)
  | dcT kvs => exact List.all_eq_true.mpr fun x hx => v (List.all_eq_true.mp e x hx)
  | ins C fs => exact List.all_eq_true.mpr fun x hx => v (List.all_eq_true.mp e x hx)
theorem cl_push {o : MO} (h : M.all (MO.below M.length) = true) (ho : MO.below (M.length + 1) o = true) : (M ++ [o]).all (MO.below (M ++ [o]).length) = true := by
  rw [List.length_append, List.length_singleton, List.all_append, Bool.and_eq_true]
  refine ⟨List.all_eq_true.mpr fun x hx => below_mono (by omega) (List.all_eq_true.mp h x hx), ?_⟩
  rw [List.all_cons, ho]
  rfl
theorem cl_set {o : MO} {j : Nat} (h : M.all (MO.below M.length) = true) (ho : MO.below M.length o = true) : (M.set j o).all (MO.below (M.set j o).length) = true := by
  rw [List.length_set]
  refine List.all_eq_true.mpr fun x hx => ?_
  rcases List.mem_or_eq_of_mem_set hx with hx | rfl
  · exact List.all_eq_true.mp h x hx
  · exact ho
theorem below_lst {xs : List PyData} {n : Nat} : MO.below n (.lst (xs.map .d)) = true := List.all_eq_true.mpr fun v hv => by
  obtain ⟨x, _, rfl⟩ := List.mem_map.mp hv
  rfl
theorem below_dct {kvs : List (PyData × PyData)} {n : Nat} : MO.below n (.dct (kvs.map fun p => (p.1, .d p.2))) = true := List.all_eq_true.mpr fun v hv => by
  obtain ⟨x, _, rfl⟩ := List.mem_map.mp hv
  rfl
/-- one more thing that is no place of one's own -/
theorem Sat.push (S : Sat L B M) (h : SpOk M sp w) (o : sp.own = false) : Sat (L ++ [(sp, w)]) B M := by
  have mem : ∀ p ∈ L ++ [(sp, w)], p ∈ L ∨ p = (sp, w) := fun p hp => by
    rcases List.mem_append.mp hp with hp | hp
    · exact .inl hp
    · exact .inr (by simpa using hp)
  have at_ : ∀ (i : Nat) p, (L ++ [(sp, w)])[i]? = some p → p.1.own = true → L[i]? = some p := fun i p e op => by
    by_cases hi : i < L.length
    · rw [List.getElem?_append_left hi] at e; exact e
    · rw [List.getElem?_append_right (by omega)] at e
      cases hz : i - L.length with
      | zero => rw [hz] at e; cases e; rw [o] at op; cases op
      | succ m => rw [hz] at e; simp at e
  refine ⟨fun p hp => (mem p hp).elim (S.ok p) (fun e => by rw [e]; exact h), fun i i' p q j hi h1 h2 o1 o2 => S.nd i i' p q j hi (at_ i p h1 o1) (at_ i' q h2 o2) o1 o2, fun p hp j op e => (mem p hp).elim (fun hp => S.lo p hp j op e) fun z => ?_, S.pre, S.cl⟩
  rw [z] at op
  exact absurd op (by rw [o]; decide)
theorem Sat.len (S : Sat L B M) : B.length ≤ M.length := by
  obtain ⟨R, rfl⟩ := S.pre
  rw [List.length_append]; omega
/-- a new place of one's own -/
theorem Sat.grow (S : Sat L B M) {u : MO} (hu : MO.below M.length u = true) (h : SpOk (M ++ [u]) sp (some (.obj M.length))) : Sat (L ++ [(sp, some (.obj M.length))]) B (M ++ [u]) := by
  have kp : ∀ j, j < M.length → (M ++ [u])[j]? = M[j]? := fun j hj => List.getElem?_append_left hj
  have old : ∀ p ∈ L, ∀ j, p.1.own = true → p.2 = some (.obj j) → j < M.length := fun p hp j o e => by
    obtain ⟨j', e', u, hu, _⟩ := sp_ok_obj (S.ok p hp) o
    rw [e] at e'
    cases e'
    exact (List.getElem?_eq_some_iff.mp hu).1
  have at_ : ∀ (i : Nat) p, (L ++ [(sp, some (.obj M.length))])[i]? = some p → (i < L.length ∧ L[i]? = some p) ∨ (i = L.length ∧ p = (sp, some (.obj M.length))) := fun i p e => by
    by_cases hi : i < L.length
    · rw [List.getElem?_append_left hi] at e; exact .inl ⟨hi, e⟩
    · rw [List.getElem?_append_right (by omega)] at e
      cases hz : i - L.length with
      | zero => rw [hz] at e; cases e; exact .inr ⟨by omega, rfl⟩
      | succ m => rw [hz] at e; simp at e
  refine ⟨fun p hp => ?_, fun i i' p q j hi h1 h2 o1 o2 e1 e2 => ?_, fun p hp j o e => ?_, ?_, cl_push S.cl (below_mono (by omega) hu)⟩
  · rcases List.mem_append.mp hp with hp | hp
    · exact SpOk.keep kp (S.ok p hp)
    · have : p = (sp, some (.obj M.length)) := by simpa using hp
      rw [this]; exact h
  · rcases at_ i p h1 with ⟨a1, b1⟩ | ⟨a1, rfl⟩
    · rcases at_ i' q h2 with ⟨a2, b2⟩ | ⟨a2, rfl⟩
      · exact S.nd i i' p q j hi b1 b2 o1 o2 e1 e2
      · cases e2
        exact absurd (old p (List.mem_of_getElem? b1) _ o1 e1) (Nat.lt_irrefl _)
    · rcases at_ i' q h2 with ⟨a2, b2⟩ | ⟨a2, rfl⟩
      · cases e1
        exact absurd (old q (List.mem_of_getElem? b2) _ o2 e2) (Nat.lt_irrefl _)
      · omega
  · rcases List.mem_append.mp hp with hp | hp
    · exact S.lo p hp j o e
    · have : p = (sp, some (.obj M.length)) := by simpa using hp
      rw [this] at e
      cases e
      exact S.len
  · obtain ⟨R, rfl⟩ := S.pre
    exact ⟨R ++ [u], List.append_assoc ..⟩
/-- the thing at a place of one's own is changed -/
theorem Sat.write (S : Sat L B M) {i j : Nat} {sp' : Sp} {u : MO} (hi : L[i]? = some (sp, some (.obj j))) (o : sp.own = true) (hu : MO.below M.length u = true) (h : SpOk (M.set j u) sp' (some (.obj j))) : Sat (L.set i (sp', some (.obj j))) B (M.set j u) := by
  have mi := List.mem_of_getElem? hi
  obtain ⟨j', e', u0, hu0, hfz⟩ := sp_ok_obj (S.ok _ mi) o
  cases e'
  have hl := (List.getElem?_eq_some_iff.mp hi).1
  have at_ : ∀ (i' : Nat) p, (L.set i (sp', some (.obj j)))[i']? = some p → (i' ≠ i ∧ L[i']? = some p) ∨ (i' = i ∧ p = (sp', some (.obj j))) := fun i' p e => by
    by_cases z : i = i'
    · subst z
      rw [List.getElem?_set_self hl] at e
      cases e
      exact .inr ⟨rfl, rfl⟩
    · rw [List.getElem?_set_ne z] at e
      exact .inl ⟨fun y => z y.symm, e⟩
  have keep : ∀ (i' : Nat) p, i' ≠ i → L[i']? = some p → SpOk (M.set j u) p.1 p.2 := fun i' p ne e => by
    have s := S.ok p (List.mem_of_getElem? e)
    have ne2 : p.1.own = true → p.2 ≠ some (.obj j) := fun op ep => S.nd i' i p _ j ne e hi op o ep rfl
    have aux : ∀ {b : Nat} {v : MO}, M[b]? = some v → b ≠ j → (M.set j u)[b]? = some v := fun {b v} e nb => by rw [List.getElem?_set_ne (fun z => nb z.symm)]; exact e
    obtain ⟨sq, wq⟩ := p
    cases sq with
    | n => trivial
    | v x => exact s
    | f x =>
      obtain ⟨b, a1, a2⟩ := s
      exact ⟨b, a1, aux a2 fun z => by subst z; rw [hu0] at a2; cases a2; exact hfz x rfl⟩
    | o _ => exact s
    | l xs => obtain ⟨b, a1, a2⟩ := s; exact ⟨b, a1, aux a2 fun z => ne2 rfl (by rw [← z]; exact a1)⟩
    | k kvs => obtain ⟨b, a1, a2⟩ := s; exact ⟨b, a1, aux a2 fun z => ne2 rfl (by rw [← z]; exact a1)⟩
    | m u => obtain ⟨b, a1, a2, a3⟩ := s; exact ⟨b, a1, aux a2 fun z => ne2 rfl (by rw [← z]; exact a1), a3⟩
    | s _ => exact s
    | w _ => exact s
  refine ⟨fun p hp => ?_, fun a b p q c hab h1 h2 o1 o2 e1 e2 => ?_, fun p hp c op e => ?_, ?_, cl_set S.cl hu⟩
  · obtain ⟨a, ha⟩ := List.getElem?_of_mem hp
    rcases at_ a p ha with ⟨b1, b2⟩ | ⟨b1, rfl⟩
    · exact keep a p b1 b2
    · exact h
  · rcases at_ a p h1 with ⟨a1, b1⟩ | ⟨a1, rfl⟩
    · rcases at_ b q h2 with ⟨a2, b2⟩ | ⟨a2, rfl⟩
      · exact S.nd a b p q c hab b1 b2 o1 o2 e1 e2
      · cases e2
        exact S.nd a i p _ _ a1 b1 hi o1 o e1 rfl
    · rcases at_ b q h2 with ⟨a2, b2⟩ | ⟨a2, rfl⟩
      · cases e1
        exact S.nd b i q _ _ a2 b2 hi o2 o e2 rfl
      · omega
  · obtain ⟨a, ha⟩ := List.getElem?_of_mem hp
    rcases at_ a p ha with ⟨b1, b2⟩ | ⟨b1, rfl⟩
    · exact S.lo p (List.mem_of_getElem? b2) c op e
    · cases e
      exact S.lo _ mi _ o rfl
  · obtain ⟨R, rfl⟩ := S.pre
    have hj : B.length ≤ j := S.lo _ mi _ o rfl
    exact ⟨R.set (j - B.length) u, by rw [List.set_append_right _ _ hj]⟩
/-- a slot is written with what is at hand -/
theorem Sat.set (S : Sat (L ++ (sp, w) :: P) B M) (i : Nat) : Sat (L.set i (sp, w) ++ P) B M := by
  by_cases hi : i < L.length
  · have at_ : ∀ (a : Nat) p, (L.set i (sp, w) ++ P)[a]? = some p → ∃ b, (L ++ (sp, w) :: P)[b]? = some p ∧ ((a = i ∧ b = L.length) ∨ (a ≠ i ∧ a < L.length ∧ b = a) ∨ (L.length ≤ a ∧ b = a + 1)) := fun a p e => by
      by_cases ha : a < L.length
      · rw [List.getElem?_append_left (by rw [List.length_set]; exact ha)] at e
        by_cases z : i = a
        · subst z
          rw [List.getElem?_set_self hi] at e
          cases e
          exact ⟨L.length, by simp, .inl ⟨rfl, rfl⟩⟩
        · rw [List.getElem?_set_ne z] at e
          exact ⟨a, by rw [List.getElem?_append_left ha]; exact e, .inr (.inl ⟨fun y => z y.symm, ha, rfl⟩)⟩
      · rw [List.getElem?_append_right (by rw [List.length_set]; omega), List.length_set] at e
        refine ⟨a + 1, ?_, .inr (.inr ⟨by omega, rfl⟩)⟩
        rw [List.getElem?_append_right (by omega), show a + 1 - L.length = (a - L.length) + 1 by omega]
        exact e
    refine S.sub (fun p hp => ?_) fun a a' p q j haa h1 h2 => ?_
    · obtain ⟨a, ha⟩ := List.getElem?_of_mem hp
      obtain ⟨b, hb, _⟩ := at_ a p ha
      exact .inl (List.mem_of_getElem? hb)
    · obtain ⟨b, hb, cb⟩ := at_ a p h1
      obtain ⟨b', hb', cb'⟩ := at_ a' q h2
      exact S.nd b b' p q j (by omega) hb hb'
  · rw [List.set_eq_of_length_le (by omega)]
    have at_ : ∀ (a : Nat) p, (L ++ P)[a]? = some p → ∃ b, (L ++ (sp, w) :: P)[b]? = some p ∧ ((a < L.length ∧ b = a) ∨ (L.length ≤ a ∧ b = a + 1)) := fun a p e => by
      by_cases ha : a < L.length
      · rw [List.getElem?_append_left ha] at e
        exact ⟨a, by rw [List.getElem?_append_left ha]; exact e, .inl ⟨ha, rfl⟩⟩
      · rw [List.getElem?_append_right (by omega)] at e
        refine ⟨a + 1, ?_, .inr ⟨by omega, rfl⟩⟩
        rw [List.getElem?_append_right (by omega), show a + 1 - L.length = (a - L.length) + 1 by omega]
        exact e
    refine S.sub (fun p hp => ?_) fun a a' p q j haa h1 h2 => ?_
    · obtain ⟨a, ha⟩ := List.getElem?_of_mem hp
      obtain ⟨b, hb, _⟩ := at_ a p ha
      exact .inl (List.mem_of_getElem? hb)
    · obtain ⟨b, hb, cb⟩ := at_ a p h1
      obtain ⟨b', hb', cb'⟩ := at_ a' q h2
      exact S.nd b b' p q j (by omega) hb hb'
/-- what is drawn from has changed -/
theorem Sat.base {B' : Mm} {R : Mm} (S : Sat L B (B ++ R)) (hl : B'.length = B.length) (hf : ∀ (j : Nat) (x : PyData), B[j]? = some (MO.frz x) → B'[j]? = some (MO.frz x)) (hc : (B').all (MO.below B'.length) = true) : Sat L B' (B' ++ R) := by
  have hL : (B' ++ R).length = (B ++ R).length := by rw [List.length_append, List.length_append, hl]
  refine ⟨fun p hp => ?_, S.nd, fun p hp j o e => by rw [hl]; exact S.lo p hp j o e, ⟨R, rfl⟩, ?_⟩
  · have s := S.ok p hp
    have lo := S.lo p hp
    have up : ∀ {j : Nat} {u : MO}, B.length ≤ j → (B ++ R)[j]? = some u → (B' ++ R)[j]? = some u := fun {j u} h e => by
      rw [List.getElem?_append_right (by omega)] at e ⊢
      rw [hl]; exact e
    obtain ⟨sq, wq⟩ := p
    cases sq with
    | n => trivial
    | v x => exact s
    | f x =>
      obtain ⟨j, a1, a2⟩ := s
      refine ⟨j, a1, ?_⟩
      by_cases hj : j < B.length
      · rw [List.getElem?_append_left hj] at a2
        rw [List.getElem?_append_left (by omega)]
        exact hf j x a2
      · exact up (by omega) a2
    | o _ => exact s
    | l xs => obtain ⟨j, a1, a2⟩ := s; exact ⟨j, a1, up (lo j rfl a1) a2⟩
    | k kvs => obtain ⟨j, a1, a2⟩ := s; exact ⟨j, a1, up (lo j rfl a1) a2⟩
    | m u => obtain ⟨j, a1, a2, a3⟩ := s; exact ⟨j, a1, up (lo j rfl a1) a2, a3⟩
    | s _ => exact s
    | w _ => exact s
  · rw [hL]
    have c := S.cl
    rw [List.all_append, Bool.and_eq_true] at c ⊢
    exact ⟨List.all_eq_true.mpr fun x hx => below_mono (by rw [List.length_append]; omega) (List.all_eq_true.mp hc x hx), c.2⟩
end
end Zm
namespace Zm
open PySem PySem.Spec PyProof.Rows L2
open WM (pu bd)
open LO (lf)
/-! ### what is drawn from -/
structure Bas where
  T : Type
  mem : T → Mm
  bud : T → Nat
  n : Nat
  len : ∀ b, (mem b).length = n
  cl : ∀ b, (mem b).all (MO.below n) = true
  frz : ∀ b b' (j : Nat) (x : PyData), (mem b)[j]? = some (MO.frz x) → (mem b')[j]? = some (MO.frz x)
def Bas.cn (M : Mm) (h : M.all (MO.below M.length) = true) : Bas := ⟨Unit, fun _ => M, fun _ => 0, M.length, fun _ => rfl, fun _ => h, fun _ _ _ _ e => e⟩
theorem Sat.baseB {𝔅 : Bas} {L : Ps} {β β' : 𝔅.T} {R : Mm} (S : Sat L (𝔅.mem β) (𝔅.mem β ++ R)) : Sat L (𝔅.mem β') (𝔅.mem β' ++ R) :=
  S.base (by rw [𝔅.len, 𝔅.len]) (𝔅.frz β β') (by rw [𝔅.len]; exact 𝔅.cl β')
/-! ### outcomes -/
def WpE {α : Type} (o : Out α) (K : α → Mm → Prop) (E : Exc → Mm → Prop) : Prop := match o with
  | .ok w M => K w M
  | .er e M => E e M
  | .bad => False
theorem WpE.bind {α γ : Type} {o : Out α} {f : α → Mm → Out γ} {K : γ → Mm → Prop} {E : Exc → Mm → Prop} (h : WpE o (fun w M => WpE (f w M) K E) E) : WpE (o.bind f) K E := by
  cases o with
  | ok w M => exact h
  | er e M => exact h
  | bad => exact h
theorem WpE.mono {α : Type} {o : Out α} {K K' : α → Mm → Prop} {E E' : Exc → Mm → Prop} (h : WpE o K E) (k : ∀ w M, K w M → K' w M) (e : ∀ x M, E x M → E' x M) : WpE o K' E' := by
  cases o with
  | ok w M => exact k _ _ h
  | er x M => exact e _ _ h
  | bad => exact h
section
variable (𝔅 : Bas) {μ : Type → Type} [LO μ]
/-- where an error leaves things -/
def ErE (L P : Ps) (Q : Exc → Prop) (e : Exc) (M : Mm) : Prop := Q e ∧ ∃ β' : 𝔅.T, Sat (L ++ P) (𝔅.mem β') M
/-- an expression: its value is put behind what is at hand -/
structure JX {α : Type} (Γ : Cs) (m : EM) (f : μ α) (sp : α → Sp) : Prop where
  run : ∀ (Q : Res α → Nat → Prop) (L P : Ps) (β : 𝔅.T) (M : Mm), WM.run f (𝔅.bud β) Q → L.cs = Γ → Sat (L ++ P) (𝔅.mem β) M →
    WpE (m L.sl M) (fun w M' => ∃ (a : α) (β' : 𝔅.T), Q (.ok a) (𝔅.bud β') ∧ Sat (L ++ (P ++ [(sp a, some w)])) (𝔅.mem β') M') (ErE 𝔅 L P fun e => ∃ b, Q (.er e) b)
/-- .. that is read at once, or from its place later -/
def Rdy (L : Ps) (w : Val) (x : PyData) : Prop := w = .d x ∨ (∃ (i : Nat) (xs : List PyData), L[i]? = some (.l xs, some w) ∧ x = .list xs) ∨ ∃ (i : Nat) (kvs : List (PyData × PyData)), L[i]? = some (.k kvs, some w) ∧ x = .dict kvs
structure JO {α : Type} (Γ : Cs) (m : EM) (f : μ α) (x : α → PyData) : Prop where
  run : ∀ (Q : Res α → Nat → Prop) (L P : Ps) (β : 𝔅.T) (M : Mm), WM.run f (𝔅.bud β) Q → L.cs = Γ → Sat (L ++ P) (𝔅.mem β) M →
    WpE (m L.sl M) (fun w M' => ∃ (a : α) (β' : 𝔅.T), Q (.ok a) (𝔅.bud β') ∧ Sat (L ++ P) (𝔅.mem β') M' ∧ Rdy L w (x a)) (ErE 𝔅 L P fun e => ∃ b, Q (.er e) b)
/-- a test -/
structure JT (Γ : Cs) (m : TM) (f : μ Bool) : Prop where
  run : ∀ (Q : Res Bool → Nat → Prop) (L P : Ps) (β : 𝔅.T) (M : Mm), WM.run f (𝔅.bud β) Q → L.cs = Γ → Sat (L ++ P) (𝔅.mem β) M →
    WpE (m L.sl M) (fun w M' => ∃ (β' : 𝔅.T), Q (.ok w) (𝔅.bud β') ∧ Sat (L ++ P) (𝔅.mem β') M') (ErE 𝔅 L P fun e => ∃ b, Q (.er e) b)
/-- values, put behind what is at hand -/
def zs (sps : List Sp) (vs : List Val) : Ps := sps.zip (vs.map some)
structure JA {α : Type} (Γ : Cs) (m : AM) (f : μ α) (sps : α → List Sp) : Prop where
  run : ∀ (Q : Res α → Nat → Prop) (L P : Ps) (β : 𝔅.T) (M : Mm), WM.run f (𝔅.bud β) Q → L.cs = Γ → Sat (L ++ P) (𝔅.mem β) M →
    WpE (m L.sl M) (fun vs M' => ∃ (a : α) (β' : 𝔅.T), Q (.ok a) (𝔅.bud β') ∧ vs.length = (sps a).length ∧ Sat (L ++ (P ++ zs (sps a) vs)) (𝔅.mem β') M') (ErE 𝔅 L P fun e => ∃ b, Q (.er e) b)
end
section
variable {𝔅 : Bas} {μ : Type → Type} [LO μ] {α γ δ : Type} {Γ : Cs}
theorem JX.cv {m : EM} {f f' : μ α} {sp : α → Sp} (h : JX 𝔅 Γ m f sp) (e : f = f') : JX 𝔅 Γ m f' sp := e ▸ h
theorem JA.cv {m : AM} {f f' : μ α} {sp : α → List Sp} (h : JA 𝔅 Γ m f sp) (e : f = f') : JA 𝔅 Γ m f' sp := e ▸ h
/-- another reading of the same -/
theorem JX.map {m : EM} {f : μ α} {sp : α → Sp} {sp' : γ → Sp} (h : JX 𝔅 Γ m f sp) (g : α → γ) (e : ∀ a, sp a = sp' (g a)) : JX 𝔅 Γ m (bd f fun a => pu (g a)) sp' :=
  ⟨fun Q L P β M r hL S => (h.run _ L P β M (WM.run_bd r) hL S).mono (fun w M' ⟨a, β', q, S'⟩ => ⟨g a, β', WM.run_pu q, by rw [← e]; exact S'⟩) fun _ _ h => h⟩
theorem JX.mapV {m : EM} {f : μ α} {x : α → PyData} {y : γ → PyData} (h : JX 𝔅 Γ m f fun a => .v (x a)) (g : α → γ) (e : ∀ a, x a = y (g a)) : JX 𝔅 Γ m (bd f fun a => pu (g a)) fun c => .v (y c) := h.map g fun a => congrArg Sp.v (e a)
/-- .. that may fail -/
theorem JX.down {m : EM} {f : μ α} {x : α → PyData} {y : γ → PyData} (h : JX 𝔅 Γ m f fun a => .v (x a)) (g : α → Option γ) (e : ∀ a c, g a = some c → x a = y c) : JX 𝔅 Γ m (bd f fun a => lf (g a)) fun c => .v (y c) :=
  ⟨fun Q L P β M r hL S => (h.run _ L P β M (WM.run_bd r) hL S).mono (fun w M' ⟨a, β', q, S'⟩ => by
    obtain ⟨c, hc, q'⟩ := LO.run_lf q
    exact ⟨c, β', q', by rw [← e a c hc]; exact S'⟩) fun _ _ h => h⟩
theorem JX.ro {m : EM} {f : μ α} {x : α → PyData} (h : JX 𝔅 Γ m f fun a => .v (x a)) : JO 𝔅 Γ m f x :=
  ⟨fun Q L P β M r hL S => (h.run _ L P β M r hL S).mono (fun w M' ⟨a, β', q, S'⟩ => by
    have s : some w = some (Val.d (x a)) := S'.ok (.v (x a), some w) (by simp)
    cases s
    rw [← List.append_assoc] at S'
    exact ⟨a, β', q, S'.left, .inl rfl⟩) fun _ _ h => h⟩
theorem JO.map {m : EM} {f : μ α} {x : α → PyData} {y : γ → PyData} (h : JO 𝔅 Γ m f x) (g : α → γ) (e : ∀ a, x a = y (g a)) : JO 𝔅 Γ m (bd f fun a => pu (g a)) y :=
  ⟨fun Q L P β M r hL S => (h.run _ L P β M (WM.run_bd r) hL S).mono (fun w M' ⟨a, β', q, S', d⟩ => ⟨g a, β', WM.run_pu q, S', by rw [← e]; exact d⟩) fun _ _ h => h⟩
/-! ### names, constants -/
theorem mVar_at {L : Ps} {i : Nat} {p : Sp × Option Val} {w : Val} {M : Mm} (h : L[i]? = some p) (e : p.2 = some w) : mVar i L.sl M = .ok (rd w M) M := by
  unfold mVar
  rw [List.getElem?_map, h]
  show (match some p.2 with | some (some v) => Out.ok (rd v M) M | _ => .bad) = _
  rw [e]
theorem left_ok {L P : Ps} {B M : Mm} {i : Nat} {sp : Sp} (S : Sat (L ++ P) B M) {Γ : Cs} (hL : L.cs = Γ) (h : Γ[i]? = some sp) : ∃ w, L[i]? = some (sp, w) ∧ SpOk M sp w := by
  rw [← hL] at h
  obtain ⟨w, h1, _⟩ := Ps.get h
  exact ⟨w, h1, S.ok _ (List.mem_append_left _ (List.mem_of_getElem? h1))⟩
theorem app1 {L P : Ps} {p : Sp × Option Val} {B M : Mm} (S : Sat (L ++ P ++ [p]) B M) : Sat (L ++ (P ++ [p])) B M := by rwa [List.append_assoc] at S
theorem jx_var {i : Nat} {y : PyData} (a : α) {x : α → PyData} (h : Γ[i]? = some (.v y)) (e : y = x a := by rfl) : JX (μ := μ) 𝔅 Γ (mVar i) (pu a) fun a => .v (x a) :=
  ⟨fun Q L P β M r hL S => by
    subst e
    obtain ⟨w, h1, h2⟩ := left_ok S hL h
    have h2 : w = some (.d (x a)) := h2
    rw [mVar_at h1 h2]
    exact ⟨a, β, WM.run_pu r, app1 (S.push rfl rfl)⟩⟩
theorem jx_fix {i : Nat} {y : PyData} (a : α) {x : α → PyData} (h : Γ[i]? = some (.f y)) (e : y = x a := by rfl) : JX (μ := μ) 𝔅 Γ (mVar i) (pu a) fun a => .v (x a) :=
  ⟨fun Q L P β M r hL S => by
    subst e
    obtain ⟨w, h1, j, h2, h3⟩ := left_ok S hL h
    rw [mVar_at h1 h2]
    refine ⟨a, β, WM.run_pu r, app1 (S.push ?_ rfl)⟩
    show some (match M[j]? with | some (.frz x) => Val.d x | _ => Val.obj j) = _
    rw [h3]⟩
theorem jx_obj {i j : Nat} (h : Γ[i]? = some (.o j)) (hj : ∀ (β : 𝔅.T), ∃ u, (𝔅.mem β)[j]? = some u ∧ ∀ x, u ≠ .frz x) : JX (μ := μ) 𝔅 Γ (mVar i) (pu ()) fun _ => .o j :=
  ⟨fun Q L P β M r hL S => by
    obtain ⟨w, h1, h2⟩ := left_ok S hL h
    have h2 : w = some (.obj j) := h2
    rw [mVar_at h1 h2]
    refine ⟨(), β, WM.run_pu r, app1 (S.push ?_ rfl)⟩
    obtain ⟨u, hu, hz⟩ := hj β
    obtain ⟨R, rfl⟩ := S.pre
    show some (match (𝔅.mem β ++ R)[j]? with | some (.frz x) => Val.d x | _ => Val.obj j) = _
    rw [List.getElem?_append_left (List.getElem?_eq_some_iff.mp hu).1, hu]
    cases u with
    | frz x => exact absurd rfl (hz x)
    | _ => rfl⟩
theorem jo_list {i : Nat} {ys : List PyData} (a : α) {x : α → PyData} (h : Γ[i]? = some (.l ys)) (e : .list ys = x a := by rfl) : JO (μ := μ) 𝔅 Γ (mVar i) (pu a) x :=
  ⟨fun Q L P β M r hL S => by
    obtain ⟨w, h1, j, h2, h3⟩ := left_ok S hL h
    rw [mVar_at h1 h2]
    refine ⟨a, β, WM.run_pu r, S, .inr (.inl ⟨i, ys, ?_, e.symm⟩)⟩
    have hr : rd (.obj j) M = .obj j := by
      show (match M[j]? with | some (.frz x) => Val.d x | _ => Val.obj j) = _
      rw [h3]
    rw [hr, h1, h2]⟩
theorem jo_dict {i : Nat} {ys : List (PyData × PyData)} (a : α) {x : α → PyData} (h : Γ[i]? = some (.k ys)) (e : .dict ys = x a := by rfl) : JO (μ := μ) 𝔅 Γ (mVar i) (pu a) x :=
  ⟨fun Q L P β M r hL S => by
    obtain ⟨w, h1, j, h2, h3⟩ := left_ok S hL h
    rw [mVar_at h1 h2]
    refine ⟨a, β, WM.run_pu r, S, .inr (.inr ⟨i, ys, ?_, e.symm⟩)⟩
    have hr : rd (.obj j) M = .obj j := by
      show (match M[j]? with | some (.frz x) => Val.d x | _ => Val.obj j) = _
      rw [h3]
    rw [hr, h1, h2]⟩
theorem jx_c (a : α) {x : α → PyData} {y : PyData} (e : y = x a := by rfl) : JX (μ := μ) 𝔅 Γ (mC y) (pu a) fun a => .v (x a) :=
  ⟨fun Q L P β M r hL S => by
    subst e
    exact ⟨a, β, WM.run_pu r, app1 (S.push rfl rfl)⟩⟩
/-! ### what is read -/
def RdAs (w : Val) (M : Mm) (x : PyData) : Prop := w = .d x ∨ (∃ j xs, w = .obj j ∧ M[j]? = some (.lst (xs.map .d)) ∧ x = .list xs) ∨ ∃ j kvs, w = .obj j ∧ M[j]? = some (.dct (kvs.map fun p => (p.1, .d p.2))) ∧ x = .dict kvs
theorem Rdy.at_ {L P : Ps} {B M : Mm} {w : Val} {x : PyData} (r : Rdy L w x) (S : Sat (L ++ P) B M) : RdAs w M x := by
  rcases r with rfl | ⟨i, xs, h, rfl⟩ | ⟨i, kvs, h, rfl⟩
  · exact .inl rfl
  · obtain ⟨j, e1, e2⟩ := S.ok _ (List.mem_append_left _ (List.mem_of_getElem? h))
    cases e1
    exact .inr (.inl ⟨j, xs, rfl, e2, rfl⟩)
  · obtain ⟨j, e1, e2⟩ := S.ok _ (List.mem_append_left _ (List.mem_of_getElem? h))
    cases e1
    exact .inr (.inr ⟨j, kvs, rfl, e2, rfl⟩)
/-- an operation on what is read -/
def Op2 (f : Val → Val → Mm → Out Val) (x y z : PyData) : Prop := ∀ v w M, RdAs v M x → RdAs w M y → f v w M = .ok (.d z) M
theorem jx_opM {a b : EM} {fa : μ α} {fb : μ γ} {xa : α → PyData} {xb : γ → PyData} {xc : δ → PyData} {f : Val → Val → Mm → Out Val} (h : α → γ → Option δ) (ha : JO 𝔅 Γ a fa xa) (hb : JO 𝔅 Γ b fb xb) (op : ∀ p q r, h p q = some r → Op2 f (xa p) (xb q) (xc r)) :
    JX 𝔅 Γ (mOp f a b) (bd fa fun p => bd fb fun q => lf (h p q)) fun r => .v (xc r) :=
  ⟨fun Q L P β M r hL S => WpE.bind ((ha.run _ L P β M (WM.run_bd r) hL S).mono (fun v M1 ⟨p, β1, q1, S1, d1⟩ => WpE.bind ((hb.run _ L P β1 M1 (WM.run_bd q1) hL S1).mono (fun w M2 ⟨q, β2, q2, S2, d2⟩ => by
    obtain ⟨c, hc, q3⟩ := LO.run_lf q2
    rw [op p q c hc v w M2 (d1.at_ S2) (d2.at_ S2)]
    exact ⟨c, β2, q3, app1 (S2.push rfl rfl)⟩) fun _ _ h => h)) fun _ _ h => h)⟩
theorem jx_op {a b : EM} {fa : μ α} {fb : μ γ} {xa : α → PyData} {xb : γ → PyData} {xc : δ → PyData} {f : Val → Val → Mm → Out Val} (h : α → γ → δ) (ha : JO 𝔅 Γ a fa xa) (hb : JO 𝔅 Γ b fb xb) (op : ∀ p q, Op2 f (xa p) (xb q) (xc (h p q))) :
    JX 𝔅 Γ (mOp f a b) (bd fa fun p => bd fb fun q => pu (h p q)) fun r => .v (xc r) :=
  ⟨fun Q L P β M r hL S => WpE.bind ((ha.run _ L P β M (WM.run_bd r) hL S).mono (fun v M1 ⟨p, β1, q1, S1, d1⟩ => WpE.bind ((hb.run _ L P β1 M1 (WM.run_bd q1) hL S1).mono (fun w M2 ⟨q, β2, q2, S2, d2⟩ => by
    rw [op p q v w M2 (d1.at_ S2) (d2.at_ S2)]
    exact ⟨h p q, β2, WM.run_pu q2, app1 (S2.push rfl rfl)⟩) fun _ _ h => h)) fun _ _ h => h)⟩
/-! ### tests -/
theorem jt_of {m : EM} {f : μ Bool} (h : JX 𝔅 Γ m f fun b => .v (.bool b)) : JT 𝔅 Γ (mT m) f :=
  ⟨fun Q L P β M r hL S => WpE.bind ((h.run _ L P β M r hL S).mono (fun w M' ⟨a, β', q, S'⟩ => by
    have s : some w = some (Val.d (.bool a)) := S'.ok (.v (.bool a), some w) (by simp)
    cases s
    rw [← List.append_assoc] at S'
    exact ⟨β', q, S'.left⟩) fun _ _ h => h)⟩
theorem jt_and {a b : TM} {fa fb : μ Bool} (ha : JT 𝔅 Γ a fa) (hb : JT 𝔅 Γ b fb) : JT 𝔅 Γ (mTAnd a b) (bd fa fun p => if p = true then fb else pu false) :=
  ⟨fun Q L P β M r hL S => WpE.bind ((ha.run _ L P β M (WM.run_bd r) hL S).mono (fun p M1 ⟨β1, q1, S1⟩ => by
    dsimp only at q1
    cases p with
    | true => exact hb.run _ L P β1 M1 q1 hL S1
    | false => exact ⟨β1, WM.run_pu q1, S1⟩) fun _ _ h => h)⟩
theorem jt_or {a b : TM} {fa fb : μ Bool} (ha : JT 𝔅 Γ a fa) (hb : JT 𝔅 Γ b fb) : JT 𝔅 Γ (mTOr a b) (bd fa fun p => if p = true then pu true else fb) :=
  ⟨fun Q L P β M r hL S => WpE.bind ((ha.run _ L P β M (WM.run_bd r) hL S).mono (fun p M1 ⟨β1, q1, S1⟩ => by
    dsimp only at q1
    cases p with
    | true => exact ⟨β1, WM.run_pu q1, S1⟩
    | false => exact hb.run _ L P β1 M1 q1 hL S1) fun _ _ h => h)⟩
theorem jt_not {a : TM} {fa : μ Bool} (ha : JT 𝔅 Γ a fa) : JT 𝔅 Γ (mTNot a) (bd fa fun p => pu (!p)) :=
  ⟨fun Q L P β M r hL S => WpE.bind ((ha.run _ L P β M (WM.run_bd r) hL S).mono (fun p M1 ⟨β1, q1, S1⟩ => ⟨β1, WM.run_pu q1, S1⟩) fun _ _ h => h)⟩
theorem jx_and {a b : EM} {fa fb : μ Bool} (ha : JX 𝔅 Γ a fa fun p => .v (.bool p)) (hb : JX 𝔅 Γ b fb fun p => .v (.bool p)) : JX 𝔅 Γ (mAnd a b) (bd fa fun p => if p = true then fb else pu false) fun p => .v (.bool p) :=
  ⟨fun Q L P β M r hL S => WpE.bind (((jt_of ha).run _ L P β M (WM.run_bd r) hL S).mono (fun p M1 ⟨β1, q1, S1⟩ => by
    dsimp only at q1
    cases p with
    | true => exact hb.run _ L P β1 M1 q1 hL S1
    | false => exact ⟨false, β1, WM.run_pu q1, app1 (S1.push rfl rfl)⟩) fun _ _ h => h)⟩
theorem jx_or {a b : EM} {fa fb : μ Bool} (ha : JX 𝔅 Γ a fa fun p => .v (.bool p)) (hb : JX 𝔅 Γ b fb fun p => .v (.bool p)) : JX 𝔅 Γ (mOr a b) (bd fa fun p => if p = true then pu true else fb) fun p => .v (.bool p) :=
  ⟨fun Q L P β M r hL S => WpE.bind (((jt_of ha).run _ L P β M (WM.run_bd r) hL S).mono (fun p M1 ⟨β1, q1, S1⟩ => by
    dsimp only at q1
    cases p with
    | true => exact ⟨true, β1, WM.run_pu q1, app1 (S1.push rfl rfl)⟩
    | false => exact hb.run _ L P β1 M1 q1 hL S1) fun _ _ h => h)⟩
/-! ### lists of values -/
theorem zs_cons {sp : Sp} {sps : List Sp} {v : Val} {vs : List Val} : zs (sp :: sps) (v :: vs) = (sp, some v) :: zs sps vs := rfl
theorem ja_nil : JA (μ := μ) 𝔅 Γ mNil (pu ()) fun _ => [] :=
  ⟨fun Q L P β M r hL S => ⟨(), β, WM.run_pu r, rfl, by rw [show P ++ zs [] [] = P from List.append_nil _]; exact S⟩⟩
theorem ja_cons {a : EM} {r : AM} {fa : μ α} {fr : μ γ} {sp : α → Sp} {sps : γ → List Sp} (ha : JX 𝔅 Γ a fa sp) (hr : JA 𝔅 Γ r fr sps) : JA 𝔅 Γ (mCons a r) (bd fa fun p => bd fr fun q => pu (p, q)) fun p => sp p.1 :: sps p.2 :=
  ⟨fun Q L P β M r hL S => WpE.bind ((ha.run _ L P β M (WM.run_bd r) hL S).mono (fun w M1 ⟨p, β1, q1, S1⟩ => WpE.bind ((hr.run _ L (P ++ [(sp p, some w)]) β1 M1 (WM.run_bd q1) hL S1).mono (fun vs M2 ⟨q, β2, q2, hl, S2⟩ => by
    refine ⟨(p, q), β2, WM.run_pu q2, by rw [List.length_cons, List.length_cons, hl], ?_⟩
    rw [zs_cons]
    rwa [List.append_assoc] at S2) fun e M' ⟨h1, β', S'⟩ => ⟨h1, β', by
      rw [← List.append_assoc] at S'
      exact S'.left⟩)) fun _ _ h => h)⟩
theorem sat_ds {L P : Ps} {B M : Mm} : ∀ {xs : List PyData} {vs : List Val}, vs.length = xs.length → Sat (L ++ (P ++ zs (xs.map .v) vs)) B M → vs = xs.map .d
  | [], [], _, _ => rfl
  | [], _ :: _, h, _ => by cases h
  | _ :: _, [], h, _ => by cases h
  | x :: xs, v :: vs, h, S => by
    have s : some v = some (Val.d x) := S.ok (.v x, some v) (by rw [List.map_cons, zs_cons]; simp)
    cases s
    rw [List.map_cons, zs_cons] at S
    have ih := sat_ds (L := L) (P := P ++ [(.v x, some (.d x))]) (xs := xs) (vs := vs) (by simpa using h) (by rw [List.append_assoc]; exact S)
    rw [ih]
    rfl
theorem sat_left {L P P' : Ps} {B M : Mm} (S : Sat (L ++ (P ++ P')) B M) : Sat (L ++ P) B M := by
  rw [← List.append_assoc] at S
  exact S.left
theorem jx_data {ms : AM} {f : μ α} {xs : α → List PyData} {c : List Val → Mm → Out Val} (g : α → γ) {y : γ → PyData} (h : JA 𝔅 Γ ms f fun a => (xs a).map .v) (op : ∀ a M, c ((xs a).map .d) M = .ok (.d (y (g a))) M) :
    JX 𝔅 Γ (fun s M => (ms s M).bind c) (bd f fun a => pu (g a)) fun r => .v (y r) :=
  ⟨fun Q L P β M r hL S => WpE.bind ((h.run _ L P β M (WM.run_bd r) hL S).mono (fun vs M1 ⟨a, β1, q1, hl, S1⟩ => by
    rw [List.length_map] at hl
    have e := sat_ds hl S1
    rw [e, op a M1]
    exact ⟨g a, β1, WM.run_pu q1, app1 ((sat_left S1).push rfl rfl)⟩) fun _ _ h => h)⟩
/-- .. of a thing that is read -/
theorem jx_readM {e : EM} {f : μ α} {x : α → PyData} {c : List Val → Mm → Out Val} (g : α → Option γ) {y : γ → PyData} (h : JO 𝔅 Γ e f x) (op : ∀ a r v M, g a = some r → RdAs v M (x a) → c [v] M = .ok (.d (y r)) M) :
    JX 𝔅 Γ (mB c (mCons e mNil)) (bd f fun a => lf (g a)) fun r => .v (y r) :=
  ⟨fun Q L P β M r hL S => WpE.bind (WpE.bind ((h.run _ L P β M (WM.run_bd r) hL S).mono (fun v M1 ⟨a, β1, q1, S1, d⟩ => by
    obtain ⟨c', hc, q2⟩ := LO.run_lf q1
    show WpE (c [v] M1) _ _
    rw [op a c' v M1 hc (d.at_ S1)]
    exact ⟨c', β1, q2, app1 (S1.push rfl rfl)⟩) fun _ _ h => h))⟩
theorem jx_read {e : EM} {f : μ α} {x : α → PyData} {c : List Val → Mm → Out Val} (g : α → γ) {y : γ → PyData} (h : JO 𝔅 Γ e f x) (op : ∀ a v M, RdAs v M (x a) → c [v] M = .ok (.d (y (g a))) M) :
    JX 𝔅 Γ (mB c (mCons e mNil)) (bd f fun a => pu (g a)) fun r => .v (y r) :=
  ⟨fun Q L P β M r hL S => WpE.bind (WpE.bind ((h.run _ L P β M (WM.run_bd r) hL S).mono (fun v M1 ⟨a, β1, q1, S1, d⟩ => by
    show WpE (c [v] M1) _ _
    rw [op a v M1 (d.at_ S1)]
    exact ⟨g a, β1, WM.run_pu q1, app1 (S1.push rfl rfl)⟩) fun _ _ h => h))⟩
end
end Zm
namespace Zm
open PySem PySem.Spec PyProof.Rows L2
open WM (pu bd)
open LO (lf)
variable {𝔅 : Bas} {μ : Type → Type} [LO μ] {α γ δ τ ρ σ φ : Type} {Γ Γx : Cs}
/-! ### defs that are called -/
def FnP (den : Den) (f : α → Option ρ) (xs : α → List PyData) (y : ρ → PyData) : Prop := ∀ a r M, f a = some r → M.all (MO.below M.length) = true → den ((xs a).map .d) M = .ok (.d (y r)) M
def FnE (den : Den) (f : α → OE ρ) (xs : α → List PyData) (y : ρ → PyData) : Prop := ∀ a M, M.all (MO.below M.length) = true → (∀ r, f a = some (.ok r) → den ((xs a).map .d) M = .ok (.d (y r)) M) ∧ ∀ e, f a = some (.er e) → den ((xs a).map .d) M = .er e M
/-- a deck: what stands at the first places -/
structure Deck where
  T : Type
  m0 : T → Mm
  n : Nat
  len : ∀ q, (m0 q).length = n
  cl : ∀ q, (m0 q).all (MO.below n) = true
  nf : ∀ q (j : Nat) (x : PyData), (m0 q)[j]? ≠ some (MO.frz x)
def FnD (D : Deck) (j : Nat) (den : Den) (f : α → Dm ρ) (xs : α → List PyData) (y : ρ → PyData) : Prop :=
  ∀ a Q q R, f a Q → (D.m0 q ++ R).all (MO.below (D.m0 q ++ R).length) = true → ∃ r q', Q r ∧ den (.obj j :: (xs a).map .d) (D.m0 q ++ R) = .ok (.d (y r)) (D.m0 q' ++ R)
/-- ahead of what is drawn from: the deck and things of others -/
def Deck.B (D : Deck) (R0 : Mm) (h : ∀ q, (D.m0 q ++ R0).all (MO.below (D.n + R0.length)) = true) : Bas :=
  ⟨D.T, fun q => D.m0 q ++ R0, fun _ => 0, D.n + R0.length, fun q => by rw [List.length_append, D.len], h, fun b b' j x e => by
    by_cases hj : j < D.n
    · rw [List.getElem?_append_left (by rw [D.len]; exact hj)] at e
      exact absurd e (D.nf b j x)
    · rw [List.getElem?_append_right (by rw [D.len]; omega), D.len] at e ⊢
      exact e⟩
theorem jx_call {ms : AM} {f : μ α} {xs : γ → List PyData} {den : Den} {g : γ → Option ρ} {y : ρ → PyData} {n : Nat} (c : α → γ) (F : FnP den g xs y) (h : JA 𝔅 Γ ms f fun a => (xs (c a)).map .v) (hn : ∀ a, (xs a).length = n := by intro _; rfl) :
    JX 𝔅 Γ (mCall n den ms) (bd f fun a => lf (g (c a))) fun r => .v (y r) :=
  ⟨fun Q L P β M r hL S => WpE.bind ((h.run _ L P β M (WM.run_bd r) hL S).mono (fun vs M1 ⟨a, β1, q1, hl, S1⟩ => by
    rw [List.length_map] at hl
    have e := sat_ds hl S1
    obtain ⟨c', hc, q2⟩ := LO.run_lf q1
    rw [if_pos (by rw [hl, hn]), e, F (c a) c' M1 hc S1.cl]
    exact ⟨c', β1, q2, app1 ((sat_left S1).push rfl rfl)⟩) fun _ _ h => h)⟩
theorem jx_callK {ms mk : AM} {f : μ α} {f' : μ δ} {xs : γ → List PyData} {x1 : α → List PyData} {x2 : δ → List PyData} {den : Den} {g : γ → Option ρ} {y : ρ → PyData} {np nk : Nat} {ix : List Nat} (c : α → δ → γ) (F : FnP den g xs y)
    (h : JA 𝔅 Γ ms f fun a => (x1 a).map .v) (h' : JA 𝔅 Γ mk f' fun a => (x2 a).map .v) (hn : ∀ a, (x1 a).length = np := by intro _; rfl) (hk : ∀ a, (x2 a).length = nk := by intro _; rfl) (hp : ∀ a b, pickBy ix (((x1 a).map Val.d) ++ ((x2 b).map Val.d)) = (xs (c a b)).map .d := by intro _ _; rfl) :
    JX 𝔅 Γ (mCallK np nk den ix ms mk) (bd f fun a => bd f' fun b => lf (g (c a b))) fun r => .v (y r) :=
  ⟨fun Q L P β M r hL S => WpE.bind ((h.run _ L P β M (WM.run_bd r) hL S).mono (fun vs M1 ⟨a, β1, q1, hl, S1⟩ => WpE.bind ((h'.run _ L (P ++ zs ((x1 a).map .v) vs) β1 M1 (WM.run_bd q1) hL S1).mono (fun us M2 ⟨b, β2, q2, hl2, S2⟩ => by
    rw [List.length_map] at hl hl2
    have e := sat_ds hl2 S2
    have e1 := sat_ds hl (sat_left S2)
    obtain ⟨c', hc, q3⟩ := LO.run_lf q2
    rw [if_pos ⟨by rw [hl, hn], by rw [hl2, hk]⟩, e, e1, hp, F (c a b) c' M2 hc S2.cl]
    exact ⟨c', β2, q3, app1 ((sat_left (sat_left S2)).push rfl rfl)⟩) fun e M' ⟨h1, β', S'⟩ => ⟨h1, β', sat_left S'⟩)) fun _ _ h => h)⟩
/-- a plain reading is a reading in any monad -/
theorem JX.lf {m : EM} {f : Option α} {sp : α → Sp} (h : JX (μ := Option) 𝔅 Γ m f sp) : JX (μ := μ) 𝔅 Γ m (lf f) sp :=
  ⟨fun Q L P β M r hL S => by
    obtain ⟨a, ha, q⟩ := LO.run_lf r
    exact (h.run (fun r b => match r with | .ok a => Q (.ok a) b | .er _ => False) L P β M ⟨a, ha, q⟩ hL S).mono (fun w M' h => h) fun e M' ⟨⟨_, h⟩, _⟩ => h.elim⟩
theorem JT.lf {m : TM} {f : Option Bool} (h : JT (μ := Option) 𝔅 Γ m f) : JT (μ := μ) 𝔅 Γ m (lf f) :=
  ⟨fun Q L P β M r hL S => by
    obtain ⟨a, ha, q⟩ := LO.run_lf r
    exact (h.run (fun r b => match r with | .ok a => Q (.ok a) b | .er _ => False) L P β M ⟨a, ha, q⟩ hL S).mono (fun w M' h => h) fun e M' ⟨⟨_, h⟩, _⟩ => h.elim⟩
/-! ### what is walked -/
def dl (enc : τ → PyData) (xs : List τ) : List Val := xs.map fun x => .d (enc x)
structure JI (𝔅 : Bas) (Γ : Cs) (m : AM) (f : μ (List τ)) (enc : τ → PyData) : Prop where
  run : ∀ (Q : Res (List τ) → Nat → Prop) (L P : Ps) (β : 𝔅.T) (M : Mm), WM.run f (𝔅.bud β) Q → L.cs = Γ → Sat (L ++ P) (𝔅.mem β) M →
    WpE (m L.sl M) (fun vs M' => ∃ (a : List τ) (β' : 𝔅.T), Q (.ok a) (𝔅.bud β') ∧ vs = dl enc a ∧ Sat (L ++ P) (𝔅.mem β') M') (ErE 𝔅 L P fun e => ∃ b, Q (.er e) b)
theorem jx_at {m : EM} {f : μ α} {x : α → PyData} (h : JX 𝔅 Γ m f fun a => .v (x a)) (Q : Res α → Nat → Prop) (L P : Ps) (β : 𝔅.T) (M : Mm) (r : WM.run f (𝔅.bud β) Q) (hL : L.cs = Γ) (S : Sat (L ++ P) (𝔅.mem β) M) :
    WpE (m L.sl M) (fun w M' => ∃ (a : α) (β' : 𝔅.T), Q (.ok a) (𝔅.bud β') ∧ w = .d (x a) ∧ Sat (L ++ P) (𝔅.mem β') M') (ErE 𝔅 L P fun e => ∃ b, Q (.er e) b) :=
  (h.run Q L P β M r hL S).mono (fun w M' ⟨a, β', q, S'⟩ => by
    have s : some w = some (Val.d (x a)) := S'.ok (.v (x a), some w) (by simp)
    cases s
    exact ⟨a, β', q, rfl, sat_left S'⟩) fun _ _ h => h
theorem ji_seq {m : EM} {f : μ (List τ)} {enc : τ → PyData} {x : List τ → PyData} (h : JX 𝔅 Γ m f fun a => .v (x a)) (hx : ∀ a, x a = .list (a.map enc) ∨ x a = .tuple (a.map enc)) : JI 𝔅 Γ (mIt m) f enc :=
  ⟨fun Q L P β M r hL S => WpE.bind ((jx_at h Q L P β M r hL S).mono (fun w M' ⟨a, β', q, e, S'⟩ => by
    rw [e]
    have hm : (a.map enc).map Val.d = dl enc a := by rw [List.map_map]; rfl
    rcases hx a with h1 | h1
    · rw [h1]
      exact ⟨a, β', q, hm, S'⟩
    · rw [h1]
      exact ⟨a, β', q, hm, S'⟩) fun _ _ h => h)⟩
theorem ji_list {m : EM} {f : μ (List τ)} {enc : τ → PyData} (h : JX 𝔅 Γ m f fun a => .v (.list (a.map enc))) : JI 𝔅 Γ (mIt m) f enc := ji_seq (x := fun a => .list (a.map enc)) h fun _ => .inl rfl
theorem ji_tup {m : EM} {f : μ (List τ)} {enc : τ → PyData} (h : JX 𝔅 Γ m f fun a => .v (.tuple (a.map enc))) : JI 𝔅 Γ (mIt m) f enc := ji_seq (x := fun a => .tuple (a.map enc)) h fun _ => .inr rfl
/-- enumerated -/
def enuF : Nat → List τ → List (Int × τ)
  | _, [] => []
  | n, x :: xs => ((n : Int), x) :: enuF (n + 1) xs
def enu (xs : List τ) : List (Int × τ) := enuF 0 xs
def eE (enc : τ → PyData) (p : Int × τ) : PyData := .tuple [.int p.1, enc p.2]
theorem enuF_dl {enc : τ → PyData} : ∀ (xs : List τ) (n : Nat), (((xs.map enc).zipIdx n).map fun p => Val.d (.tuple [.int (p.2 : Nat), p.1])) = dl (eE enc) (enuF n xs)
  | [], _ => rfl
  | x :: xs, n => by
    rw [List.map_cons, List.zipIdx_cons, List.map_cons, enuF_dl xs (n + 1)]
    rfl
theorem ji_enu {m : EM} {f : μ (List τ)} {enc : τ → PyData} {x : List τ → PyData} (h : JX 𝔅 Γ m f fun a => .v (x a)) (hx : ∀ a, x a = .list (a.map enc) ∨ x a = .tuple (a.map enc)) : JI 𝔅 Γ (mEnum (mCons m mNil)) (bd f fun a => pu (enu a)) (eE enc) :=
  ⟨fun Q L P β M r hL S => WpE.bind (WpE.bind ((jx_at h _ L P β M (WM.run_bd r) hL S).mono (fun w M' ⟨a, β', q, e, S'⟩ => by
    rw [e]
    rcases hx a with h1 | h1
    · rw [h1]
      exact ⟨enu a, β', WM.run_pu q, enuF_dl a 0, S'⟩
    · rw [h1]
      exact ⟨enu a, β', WM.run_pu q, enuF_dl a 0, S'⟩) fun _ _ h => h))⟩
/-- a range -/
def ran (lo hi : Int) : List Int := (List.range (hi - lo).toNat).map fun i => lo + (i : Nat)
def okI (i : Int) : Bool := smallR i
def ran1 (j : Int) : Option (List Int) := if okI j = true then some (ran 0 j) else none
def ran2 (i j : Int) : Option (List Int) := if okI i = true ∧ okI j = true then some (ran i j) else none
theorem rangeL_dl (lo hi : Int) : rangeL lo (hi - lo).toNat = dl PyData.int (ran lo hi) := by
  unfold rangeL dl ran
  rw [List.map_map]
  rfl
theorem ji_ran1 {m : EM} {f : μ Int} (h : JX 𝔅 Γ m f fun a => .v (.int a)) : JI 𝔅 Γ (mRange1 (mCons m mNil)) (bd f fun a => lf (ran1 a)) PyData.int :=
  ⟨fun Q L P β M r hL S => WpE.bind (WpE.bind ((jx_at h _ L P β M (WM.run_bd r) hL S).mono (fun w M' ⟨a, β', q, e, S'⟩ => by
    obtain ⟨c, hc, q2⟩ := LO.run_lf q
    rw [e]
    unfold ran1 at hc
    split at hc
    · rename_i hk
      cases hc
      have h1 : range1 [.d (.int a)] M' = .ok (rangeL 0 a.toNat) M' := by
        show (if smallR a then _ else _) = _
        rw [show smallR a = true from hk]
        rfl
      show WpE (range1 [.d (.int a)] M') _ _
      rw [h1]
      refine ⟨_, β', q2, ?_, S'⟩
      have := rangeL_dl 0 a
      rwa [Int.sub_zero] at this
    · cases hc) fun _ _ h => h))⟩
/-! ### targets -/
structure JG (Γ : Cs) (g : GM) (is : List Nat) (y : PyData) (Γ' : Cs) : Prop where
  run : ∀ (L P : Ps) (B M : Mm), L.cs = Γ → Sat (L ++ P) B M → ∃ L' : Ps, g (.d y) L.sl M = some (L'.sl, M) ∧ L'.cs = Γ' ∧ Sat (L' ++ P) B M ∧ L'.length = L.length ∧ ∀ i, i ∉ is → L'[i]? = L[i]?
structure JGs (Γ : Cs) (g : GMs) (is : List Nat) (ys : List PyData) (Γ' : Cs) : Prop where
  run : ∀ (L P : Ps) (B M : Mm), L.cs = Γ → Sat (L ++ P) B M → ∃ L' : Ps, g (ys.map .d) L.sl M = some (L'.sl, M) ∧ L'.cs = Γ' ∧ Sat (L' ++ P) B M ∧ L'.length = L.length ∧ ∀ i, i ∉ is → L'[i]? = L[i]?
theorem sat_put {L P : Ps} {B M : Mm} {sp : Sp} {w : Option Val} (S : Sat (L ++ P) B M) (h : SpOk M sp w) (o : sp.own = false) (i : Nat) : Sat (L.set i (sp, w) ++ P) B M := by
  have S1 := S.push h o
  have mid : Sat (L ++ (sp, w) :: P) B M := by
    refine S1.sub (fun p hp => .inl ?_) fun a b p q j hab h1 h2 => ?_
    · simp only [List.mem_append, List.mem_cons, List.not_mem_nil, or_false] at hp ⊢
      rcases hp with h | h | h
      · exact .inl (.inl h)
      · exact .inr h
      · exact .inl (.inr h)
    · intro o1 o2 e1 e2
      have at_ : ∀ (a : Nat) p, (L ++ (sp, w) :: P)[a]? = some p → p.1.own = true → ∃ b, (L ++ P)[b]? = some p ∧ ((a < L.length ∧ b = a) ∨ (L.length < a ∧ b + 1 = a)) := fun a p e op => by
        by_cases ha : a < L.length
        · rw [List.getElem?_append_left ha] at e
          exact ⟨a, by rw [List.getElem?_append_left ha]; exact e, .inl ⟨ha, rfl⟩⟩
        · rw [List.getElem?_append_right (by omega)] at e
          cases hz : a - L.length with
          | zero => rw [hz] at e; cases e; rw [o] at op; cases op
          | succ m =>
            rw [hz] at e
            exact ⟨a - 1, by rw [List.getElem?_append_right (by omega), show a - 1 - L.length = m by omega]; exact e, .inr ⟨by omega, by omega⟩⟩
      obtain ⟨x, hx, cx⟩ := at_ a p h1 o1
      obtain ⟨y, hy, cy⟩ := at_ b q h2 o2
      exact S.nd x y p q j (by omega) hx hy o1 o2 e1 e2
  exact mid.set i
theorem set_sl {L : Ps} {i : Nat} {sp : Sp} {w : Option Val} : Ps.sl (L.set i (sp, w)) = L.sl.set i w := List.map_set
theorem set_cs {L : Ps} {i : Nat} {sp : Sp} {w : Option Val} : Ps.cs (L.set i (sp, w)) = L.cs.set i sp := List.map_set
theorem jg_name {i : Nat} {y : PyData} : JG Γ (gN i) [i] y (Γ.set i (.v y)) :=
  ⟨fun L P B M hL S => ⟨L.set i (.v y, some (.d y)), by rw [set_sl]; rfl, by rw [set_cs, hL], sat_put (sp := .v y) (w := some (.d y)) S rfl rfl i, List.length_set, fun a ha => List.getElem?_set_ne fun z => ha (by rw [z]; exact List.mem_cons_self ..)⟩⟩
theorem jgs_nil : JGs Γ gsNil [] [] Γ := ⟨fun L P B M hL S => ⟨L, rfl, hL, S, rfl, fun _ _ => rfl⟩⟩
theorem jgs_cons {g : GM} {gs : GMs} {is js : List Nat} {y : PyData} {ys : List PyData} {Γ1 Γ2 : Cs} (h : JG Γ g is y Γ1) (h2 : JGs Γ1 gs js ys Γ2) : JGs Γ (gsCons g gs) (is ++ js) (y :: ys) Γ2 :=
  ⟨fun L P B M hL S => by
    obtain ⟨L1, e1, c1, S1, l1, k1⟩ := h.run L P B M hL S
    obtain ⟨L2, e2, c2, S2, l2, k2⟩ := h2.run L1 P B M c1 S1
    refine ⟨L2, ?_, c2, S2, by rw [l2, l1], fun i hi => ?_⟩
    · show (g (.d y) L.sl M).bind _ = _
      rw [e1]
      exact e2
    · rw [k2 i fun z => hi (List.mem_append_right _ z), k1 i fun z => hi (List.mem_append_left _ z)]⟩
theorem jg_tup {gs : GMs} {is : List Nat} {ys : List PyData} {n : Nat} {Γ' : Cs} (h : JGs Γ gs is ys Γ') (hn : ys.length = n := by rfl) : JG Γ (gT n gs) is (.tuple ys) Γ' :=
  ⟨fun L P B M hL S => by
    obtain ⟨L', e, c, S', l, k⟩ := h.run L P B M hL S
    refine ⟨L', ?_, c, S', l, k⟩
    show (if ys.length = n then gs (ys.map .d) L.sl M else none) = _
    rw [if_pos hn, e]⟩
/-- back to the slots as they were -/
def isN_at (Γ : Cs) (is : List Nat) : Bool := is.all fun i => match Γ[i]? with
  | some .n => true
  | _ => false
theorem sat_back {L L' P : Ps} {B M : Mm} {is : List Nat} (S : Sat (L' ++ P) B M) (hl : L'.length = L.length) (hk : ∀ i, i ∉ is → L'[i]? = L[i]?) (hn : isN_at L.cs is = true) : Sat (L ++ P) B M := by
  have at_ : ∀ (a : Nat) p, (L ++ P)[a]? = some p → p.1 = .n ∨ (L' ++ P)[a]? = some p := fun a p e => by
    by_cases ha : a < L.length
    · rw [List.getElem?_append_left ha] at e
      by_cases hi : a ∈ is
      · left
        have := List.all_eq_true.mp hn a hi
        rw [List.getElem?_map, e] at this
        obtain ⟨sp, w⟩ := p
        dsimp only [Option.map] at this
        cases sp <;> first | rfl | cases this
      · right
        rw [List.getElem?_append_left (by omega), hk a hi, e]
    · right
      rw [List.getElem?_append_right (by omega)] at e ⊢
      rw [hl]; exact e
  refine S.sub (fun p hp => ?_) fun a b p q j hab h1 h2 o1 o2 e1 e2 => ?_
  · obtain ⟨a, ha⟩ := List.getElem?_of_mem hp
    exact (at_ a p ha).symm.imp List.mem_of_getElem? id
  · rcases at_ a p h1 with z | h1
    · rw [z] at o1; cases o1
    · rcases at_ b q h2 with z | h2
      · rw [z] at o2; cases o2
      · exact S.nd a b p q j hab h1 h2 o1 o2 e1 e2
/-! ### comprehensions -/
def cmpM (t : τ → μ Bool) (e : τ → μ γ) : List τ → μ (List γ)
  | [] => pu []
  | x :: xs => bd (t x) fun b => if b = true then bd (e x) fun y => bd (cmpM t e xs) fun r => pu (y :: r) else cmpM t e xs
def lim (r : List γ) : Option (List γ) := if r.length ≤ 16777216 then some r else none
def wipeC (Γ : Cs) : List Nat → Cs
  | [] => Γ
  | i :: is => (wipeC Γ is).set i .n
def wipeP (L : Ps) : List Nat → Ps
  | [] => L
  | i :: is => (wipeP L is).set i (.n, none)
theorem wipeP_sl (L : Ps) : ∀ is, (wipeP L is).sl = wipeS L.sl is
  | [] => rfl
  | i :: is => by
    show Ps.sl ((wipeP L is).set i (.n, none)) = (wipeS L.sl is).set i none
    rw [set_sl, wipeP_sl L is]
theorem wipeP_cs (L : Ps) : ∀ is, (wipeP L is).cs = wipeC L.cs is
  | [] => rfl
  | i :: is => by
    show Ps.cs ((wipeP L is).set i (.n, none)) = (wipeC L.cs is).set i .n
    rw [set_cs, wipeP_cs L is]
/-- what was at the wiped slots -/
def wiped (L : Ps) (is : List Nat) : Ps := is.filterMap fun i => L[i]?
theorem wipeP_at (L : Ps) {i : Nat} : ∀ {is : List Nat}, i ∉ is → (wipeP L is)[i]? = L[i]?
  | [], _ => rfl
  | j :: is, h => by
    show ((wipeP L is).set j (.n, none))[i]? = _
    rw [List.getElem?_set_ne (fun z => h (by rw [z]; exact List.mem_cons_self ..)), wipeP_at L fun z => h (List.mem_cons_of_mem _ z)]
theorem sat_wipe {L P : Ps} {B M : Mm} (S : Sat (L ++ P) B M) : ∀ is : List Nat, (∀ i ∈ is, ∀ p, L[i]? = some p → p.1.own = false) → Sat (wipeP L is ++ (P ++ wiped L is)) B M := by
  intro is hno
  have S1 : ∀ W : Ps, (∀ p ∈ W, SpOk M p.1 p.2 ∧ p.1.own = false) → Sat (L ++ (P ++ W)) B M := by
    intro W
    induction W generalizing P with
    | nil => intro _; rw [List.append_nil]; exact S
    | cons p W ih =>
      intro hW
      have := ih (P := P ++ [p]) (app1 (S.push (hW p (List.mem_cons_self ..)).1 (hW p (List.mem_cons_self ..)).2)) fun q hq => hW q (List.mem_cons_of_mem _ hq)
      rwa [List.append_assoc] at this
  have S2 := S1 (wiped L is) fun p hp => by
    obtain ⟨i, hi, e⟩ := List.mem_filterMap.mp hp
    exact ⟨S.ok p (List.mem_append_left _ (List.mem_of_getElem? e)), hno i hi p e⟩
  clear S1
  have : ∀ js : List Nat, Sat (wipeP L js ++ (P ++ wiped L is)) B M := by
    intro js
    induction js with
    | nil => exact S2
    | cons j js ih => exact sat_put ih (by trivial) rfl j
  exact this is
theorem sat_unwipe {L : Ps} {B M : Mm} : ∀ {is : List Nat} {P : Ps}, is.Nodup → Sat (wipeP L is ++ (P ++ wiped L is)) B M → Sat (L ++ P) B M
  | [], P, _, S => by
    rw [show wiped L [] = [] from rfl, List.append_nil] at S
    exact S
  | i :: is, P, nd, S => by
    rw [List.nodup_cons] at nd
    cases e : L[i]? with
    | none =>
      have hw : wiped L (i :: is) = wiped L is := by unfold wiped; rw [List.filterMap_cons_none e]
      rw [hw] at S
      have hs : wipeP L (i :: is) = wipeP L is := by
        show (wipeP L is).set i (.n, none) = _
        rw [List.set_eq_of_length_le]
        have := wipeP_at L nd.1
        rw [e] at this
        exact List.getElem?_eq_none_iff.mp this
      rw [hs] at S
      exact sat_unwipe nd.2 S
    | some p =>
      have hw : wiped L (i :: is) = p :: wiped L is := by unfold wiped; rw [List.filterMap_cons_some e]
      rw [hw] at S
      obtain ⟨sp, w⟩ := p
      have hset : ((wipeP L is).set i (.n, none)).set i (sp, w) = wipeP L is := by
        rw [List.set_set]
        refine List.ext_getElem? fun j => ?_
        by_cases z : i = j
        · subst z
          rw [wipeP_at L nd.1, e, List.getElem?_set_self]
          have := wipeP_at L nd.1
          rw [e] at this
          exact (List.getElem?_eq_some_iff.mp this).1
        · rw [List.getElem?_set_ne z]
      have S3 : Sat ((wipeP L is).set i (.n, none) ++ P ++ (sp, w) :: wiped L is) B M := by rw [List.append_assoc]; exact S
      have S4 : Sat (((wipeP L is).set i (.n, none) ++ P).set i (sp, w) ++ wiped L is) B M := S3.set i
      by_cases hi : i < (wipeP L is).length
      · rw [List.set_append_left _ _ (by rw [List.length_set]; exact hi), hset, List.append_assoc] at S4
        exact sat_unwipe nd.2 S4
      · have := wipeP_at L nd.1
        rw [e, List.getElem?_eq_none_iff.mpr (by omega)] at this
        cases this
theorem noer_wp {α : Type} {o : Out α} {K : α → Mm → Prop} {E : Exc → Mm → Prop} (h : WpE o K fun _ _ => False) : WpE o.noer K E := by
  cases o with
  | ok w M => exact h
  | er e M => exact h.elim
  | bad => exact h.elim
theorem compL_run [NE μ] {g : GM} {t : TM} {e : EM} {is : List Nat} {enc : τ → PyData} {y : γ → PyData} {ft : τ → μ Bool} {fe : τ → μ γ} {Γb : τ → Cs} (hg : ∀ x, JG Γ g is (enc x) (Γb x)) (ht : ∀ x, JT 𝔅 (Γb x) t (ft x)) (he : ∀ x, JX 𝔅 (Γb x) e (fe x) fun b => .v (y b)) (hn : isN_at Γ is = true) :
    ∀ (xs : List τ) (Q : Res (List γ) → Nat → Prop) (L P : Ps) (β : 𝔅.T) (M : Mm), WM.run (cmpM ft fe xs) (𝔅.bud β) Q → L.cs = Γ → Sat (L ++ P) (𝔅.mem β) M →
      WpE (compL g t e L.sl (dl enc xs) M) (fun vs M' => ∃ (bs : List γ) (β' : 𝔅.T), Q (.ok bs) (𝔅.bud β') ∧ vs = dl y bs ∧ Sat (L ++ P) (𝔅.mem β') M') fun _ _ => False
  | [], Q, L, P, β, M, r, hL, S => ⟨[], β, WM.run_pu r, rfl, S⟩
  | x :: xs, Q, L, P, β, M, r, hL, S => by
    have ih := compL_run hg ht he hn xs
    obtain ⟨L1, e1, c1, S1, l1, k1⟩ := (hg x).run L P _ M hL S
    show WpE (match g (.d (enc x)) L.sl M with
      | some (s1, M1) => (t s1 M1).noer.bind fun b M2 => if b = true then (e s1 M2).noer.bind fun y M3 => (compL g t e L.sl (dl enc xs) M3).bind fun r M4 => .ok (y :: r) M4 else compL g t e L.sl (dl enc xs) M2
      | none => .bad) _ _
    rw [e1]
    have r1 := NE.ne (WM.run_bd (x := ft x) (show WM.run (bd (ft x) fun b => if b = true then bd (fe x) fun y => bd (cmpM ft fe xs) fun r => pu (y :: r) else cmpM ft fe xs) (𝔅.bud β) Q from r))
    refine WpE.bind (noer_wp (((ht x).run _ L1 P β M r1 c1 S1).mono (fun b M2 ⟨β2, q2, S2⟩ => ?_) fun _ _ h => h.1.elim fun _ z => z))
    dsimp only at q2
    cases b with
    | false => exact ih Q L P β2 M2 q2 hL (sat_back S2 l1 k1 (by rw [hL]; exact hn))
    | true =>
      have r2 := NE.ne (WM.run_bd q2)
      rw [if_pos rfl]
      refine WpE.bind (noer_wp ((jx_at (he x) _ L1 P β2 M2 r2 c1 S2).mono (fun w M3 ⟨b, β3, q3, ew, S3⟩ => ?_) fun _ _ h => h.1.elim fun _ z => z))
      dsimp only at q3
      refine WpE.bind ((ih _ L P β3 M3 (NE.ne (WM.run_bd q3)) hL (sat_back S3 l1 k1 (by rw [hL]; exact hn))).mono (fun vs M4 ⟨bs, β4, q4, ev, S4⟩ => ?_) fun _ _ h => h)
      dsimp only at q4
      exact ⟨b :: bs, β4, WM.run_pu q4, by rw [ew, ev]; rfl, S4⟩
/-- no slot of these is a place of one's own -/
def noOwn (Γ : Cs) (is : List Nat) : Bool := is.all fun i => match Γ[i]? with
  | some sp => !sp.own
  | none => true
theorem noOwn_ok {L : Ps} {is : List Nat} (h : noOwn L.cs is = true) : ∀ i ∈ is, ∀ p, L[i]? = some p → p.1.own = false := fun i hi p e => by
  have := List.all_eq_true.mp h i hi
  rw [List.getElem?_map, e] at this
  simpa using this
theorem allD_dl {y : γ → PyData} (bs : List γ) : allD (dl y bs) = some (bs.map y) := by
  show allD (bs.map (Val.d ∘ y)) = _
  rw [← List.map_map, z_allDm]
/-- [e for g in it if t] -/
theorem jx_comp [NE μ] {it : AM} {g : GM} {t : TM} {e : EM} {own is : List Nat} {enc : τ → PyData} {y : γ → PyData} {fi : μ (List τ)} {ft : τ → μ Bool} {fe : τ → μ γ} {Γb : τ → Cs} (hi : JI 𝔅 Γ it fi enc) (hg : ∀ x, JG (wipeC Γ own) g is (enc x) (Γb x)) (ht : ∀ x, JT 𝔅 (Γb x) t (ft x)) (he : ∀ x, JX 𝔅 (Γb x) e (fe x) fun b => .v (y b))
    (hn : isN_at (wipeC Γ own) is = true := by rfl) (ho : noOwn Γ own = true := by rfl) (nd : own.Nodup := by decide) : JX 𝔅 Γ (mComp lcK it g t e own) (bd fi fun xs => bd (cmpM ft fe xs) fun r => lf (lim r)) fun r => .v (.list (r.map y)) :=
  ⟨fun Q L P β M r hL S => WpE.bind ((hi.run _ L P β M (WM.run_bd r) hL S).mono (fun vs M1 ⟨xs, β1, q1, ev, S1⟩ => by
    dsimp only at q1
    have S2 := sat_wipe S1 own (noOwn_ok (by rw [hL]; exact ho))
    have e2 := wipeP_sl L own
    rw [ev, ← e2]
    refine WpE.bind ((compL_run hg ht he hn xs _ (wipeP L own) _ β1 M1 (WM.run_bd q1) (by rw [wipeP_cs, hL]) S2).mono (fun us M2 ⟨bs, β2, q2, eu, S3⟩ => ?_) fun _ _ h => h.elim)
    obtain ⟨c, hc, q3⟩ := LO.run_lf q2
    unfold lim at hc
    split at hc
    · rename_i hl
      cases hc
      rw [eu]
      show WpE (lcK (dl y bs) M2) _ _
      unfold lcK
      rw [allD_dl]
      have hl2 : fitsL (dl y bs).length = true := by unfold dl; rw [List.length_map]; exact fits_le hl
      rw [hl2]
      exact ⟨bs, β2, q3, app1 ((sat_unwipe nd S3).push rfl rfl)⟩
    · cases hc) fun _ _ h => h)⟩
/-- .. into a place of one's own -/
theorem jx_compN [NE μ] {it : AM} {g : GM} {t : TM} {e : EM} {own is : List Nat} {enc : τ → PyData} {y : γ → PyData} {fi : μ (List τ)} {ft : τ → μ Bool} {fe : τ → μ γ} {Γb : τ → Cs} (hi : JI 𝔅 Γ it fi enc) (hg : ∀ x, JG (wipeC Γ own) g is (enc x) (Γb x)) (ht : ∀ x, JT 𝔅 (Γb x) t (ft x)) (he : ∀ x, JX 𝔅 (Γb x) e (fe x) fun b => .v (y b))
    (hn : isN_at (wipeC Γ own) is = true := by rfl) (ho : noOwn Γ own = true := by rfl) (nd : own.Nodup := by decide) : JX 𝔅 Γ (mComp lcN it g t e own) (bd fi fun xs => bd (cmpM ft fe xs) fun r => lf (lim r)) fun r => .l (r.map y) :=
  ⟨fun Q L P β M r hL S => WpE.bind ((hi.run _ L P β M (WM.run_bd r) hL S).mono (fun vs M1 ⟨xs, β1, q1, ev, S1⟩ => by
    dsimp only at q1
    have S2 := sat_wipe S1 own (noOwn_ok (by rw [hL]; exact ho))
    have e2 := wipeP_sl L own
    rw [ev, ← e2]
    refine WpE.bind ((compL_run hg ht he hn xs _ (wipeP L own) _ β1 M1 (WM.run_bd q1) (by rw [wipeP_cs, hL]) S2).mono (fun us M2 ⟨bs, β2, q2, eu, S3⟩ => ?_) fun _ _ h => h.elim)
    obtain ⟨c, hc, q3⟩ := LO.run_lf q2
    unfold lim at hc
    split at hc
    · rename_i hl
      cases hc
      rw [eu]
      show WpE (lcN (dl y bs) M2) _ _
      unfold lcN
      have hl2 : fitsL (dl y bs).length = true := by unfold dl; rw [List.length_map]; exact fits_le hl
      rw [hl2]
      have eq : dl y bs = (bs.map y).map .d := by rw [List.map_map]; rfl
      have S4 := (sat_unwipe nd S3).grow (sp := .l (bs.map y)) (u := .lst (dl y bs)) (by rw [eq]; exact below_lst) ⟨_, rfl, by rw [eq]; simp⟩
      exact ⟨bs, β2, q3, app1 S4⟩
    · cases hc) fun _ _ h => h)⟩
end Zm
namespace Zm
open PySem PySem.Spec PyProof.Rows L2
open WM (pu bd)
open LO (lf)
variable {𝔅 : Bas} {μ : Type → Type} [LO μ] {α γ δ τ ρ σ φ ψ : Type} {Γ Γx : Cs}
/-! ### blocks -/
/-- what is left of what was known -/
inductive Wk : Cs → Cs → Prop where
  | nil : Wk [] []
  | keep {Γ Δ : Cs} {s : Sp} : Wk Γ Δ → Wk (s :: Γ) (s :: Δ)
  | drop {Γ Δ : Cs} {s : Sp} : Wk Γ Δ → Wk (s :: Γ) (.n :: Δ)
theorem Wk.refl : ∀ {Γ : Cs}, Wk Γ Γ
  | [] => .nil
  | _ :: _ => .keep .refl
theorem Wk.len {Γ Δ : Cs} (w : Wk Γ Δ) : Γ.length = Δ.length := by induction w <;> simp_all
theorem Wk.at_ {Γ Δ : Cs} (w : Wk Γ Δ) : ∀ (i : Nat) (s : Sp), Δ[i]? = some s → s = .n ∨ Γ[i]? = some s := by
  induction w with
  | nil => intro i s h; simp at h
  | keep w ih =>
    intro i s h
    cases i with
    | zero => exact .inr h
    | succ i => exact ih i s h
  | drop w ih =>
    intro i s h
    cases i with
    | zero => exact .inl (by simpa using h.symm)
    | succ i => exact ih i s h
theorem sat_weak {L : Ps} {B M : Mm} {Δ : Cs} (S : Sat L B M) (w : Wk L.cs Δ) : ∃ L' : Ps, L'.sl = L.sl ∧ L'.cs = Δ ∧ Sat L' B M := by
  have hl : Δ.length = L.length := by have := w.len; simpa using this.symm
  refine ⟨Δ.zip L.sl, ?_, ?_, ?_⟩
  · show List.map _ _ = _
    rw [List.map_snd_zip]
    show L.sl.length ≤ _
    unfold Ps.sl
    rw [List.length_map]; omega
  · show List.map _ _ = _
    rw [List.map_fst_zip]
    unfold Ps.sl
    rw [List.length_map]; omega
  · have at_ : ∀ (i : Nat) p, (Δ.zip L.sl)[i]? = some p → p.1 = .n ∨ L[i]? = some p := fun i p e => by
      rw [List.getElem?_zip_eq_some] at e
      rcases w.at_ i p.1 e.1 with h | h
      · exact .inl h
      · right
        obtain ⟨v, h1, h2⟩ := Ps.get h
        have := e.2
        rw [h2] at this
        cases this
        exact h1
    refine S.sub (fun p hp => ?_) fun a b p q j hab h1 h2 o1 o2 e1 e2 => ?_
    · obtain ⟨a, ha⟩ := List.getElem?_of_mem hp
      exact (at_ a p ha).symm.imp List.mem_of_getElem? id
    · rcases at_ a p h1 with z | h1
      · rw [z] at o1; cases o1
      · rcases at_ b q h2 with z | h2
        · rw [z] at o2; cases o2
        · exact S.nd a b p q j hab h1 h2 o1 o2 e1 e2
/-- errors leave with what Γx knows, or there are none -/
def XO (μ : Type → Type) [LO μ] (Γ Γx : Cs) : Prop := NE μ ∨ Wk Γ Γx
section
variable (𝔅)
def ErS (Γx : Cs) (Q : Exc → Prop) (o : SO) : Prop := ∃ (e : Exc) (L' : Ps) (M' : Mm) (β' : 𝔅.T), Q e ∧ o = .er e L'.sl M' ∧ L'.cs = Γx ∧ Sat L' (𝔅.mem β') M'
structure JS (Γ Γx : Cs) (b : SM) (f : μ φ) (K : φ → SO → 𝔅.T → Prop) : Prop where
  run : ∀ (Q : Res φ → Nat → Prop) (L : Ps) (β : 𝔅.T) (M : Mm), WM.run f (𝔅.bud β) Q → L.cs = Γ → Sat L (𝔅.mem β) M → (∃ a β', Q (.ok a) (𝔅.bud β') ∧ K a (b L.sl M) β') ∨ ErS 𝔅 Γx (fun e => ∃ b, Q (.er e) b) (b L.sl M)
/-- it goes on, with these slots -/
def Kn (Γ1 : φ → Cs) (a : φ) (o : SO) (β' : 𝔅.T) : Prop := ∃ (L' : Ps) (M' : Mm), o = .nx L'.sl M' ∧ L'.cs = Γ1 a ∧ Sat L' (𝔅.mem β') M'
/-- it returns -/
def Kt (y : ρ → PyData) (a : ρ) (o : SO) (β' : 𝔅.T) : Prop := ∃ M', o = .rt (.d (y a)) M' ∧ ∃ R, M' = 𝔅.mem β' ++ R
/-- .. or falls off the end -/
def Kr (y : ρ → PyData) (a : ρ) (o : SO) (β' : 𝔅.T) : Prop := Kt 𝔅 y a o β' ∨ (y a = .none ∧ ∃ s M', o = .nx s M' ∧ ∃ R, M' = 𝔅.mem β' ++ R)
end
/-- the turn of a loop -/
inductive Tn (σ ρ : Type) where
  | go (s : σ)
  | br (s : σ)
  | rt (r : ρ)
/-- .. that ends by continue, break, return -/
def Ktt (𝔅 : Bas) (Γσ : σ → Cs) (y : ρ → PyData) (a : Tn σ ρ) (o : SO) (β' : 𝔅.T) : Prop := match a with
  | .go st => ∃ (L' : Ps) (M' : Mm), o = .ct L'.sl M' ∧ L'.cs = Γσ st ∧ Sat L' (𝔅.mem β') M'
  | .br st => ∃ (L' : Ps) (M' : Mm), o = .bk L'.sl M' ∧ L'.cs = Γσ st ∧ Sat L' (𝔅.mem β') M'
  | .rt r => Kt 𝔅 y r o β'
def Ks (𝔅 : Bas) (Γσ : σ → Cs) (y : ρ → PyData) (a : Tn σ ρ) (o : SO) (β' : 𝔅.T) : Prop := Ktt 𝔅 Γσ y a o β' ∨ ∃ st, a = .go st ∧ Kn 𝔅 Γσ st o β'
theorem JS.imp {b : SM} {f : μ φ} {K K' : φ → SO → 𝔅.T → Prop} (h : JS 𝔅 Γ Γx b f K) (i : ∀ a o β, K a o β → K' a o β) : JS 𝔅 Γ Γx b f K' :=
  ⟨fun Q L β M r hL S => (h.run Q L β M r hL S).imp (fun ⟨a, β', q, k⟩ => ⟨a, β', q, i _ _ _ k⟩) id⟩
theorem JS.ret {b : SM} {f : μ ρ} {y : ρ → PyData} (h : JS 𝔅 Γ Γx b f (Kt 𝔅 y)) : JS 𝔅 Γ Γx b f (Kr 𝔅 y) := h.imp fun _ _ _ k => .inl k
theorem JS.turn {b : SM} {Γσ : σ → Cs} {y : ρ → PyData} {f : μ (Tn σ ρ)} (h : JS 𝔅 Γ Γx b f (Ktt 𝔅 Γσ y)) : JS 𝔅 Γ Γx b f (Ks 𝔅 Γσ y) := h.imp fun _ _ _ k => .inl k
/-- a statement ends the others -/
def Ends_ {φ : Type} {T : Type} (K : φ → SO → T → Prop) : Prop := ∀ a o β, K a o β → ∀ f, o.seq f = o
theorem ends_kt {y : ρ → PyData} : Ends_ (Kt 𝔅 y) := fun a o β ⟨_, e, _⟩ f => by rw [e]; rfl
theorem ends_ktt {Γσ : σ → Cs} {y : ρ → PyData} : Ends_ (Ktt 𝔅 Γσ y) := fun a o β k f => by
  cases a with
  | go st => obtain ⟨_, _, e, _⟩ := k; rw [e]; rfl
  | br st => obtain ⟨_, _, e, _⟩ := k; rw [e]; rfl
  | rt r => obtain ⟨_, e, _⟩ := k; rw [e]; rfl
theorem js_end {a b : SM} {f : μ φ} {K : φ → SO → 𝔅.T → Prop} (h : JS 𝔅 Γ Γx a f K) (e : Ends_ K) : JS 𝔅 Γ Γx (sSeq a b) f K :=
  ⟨fun Q L β M r hL S => (h.run Q L β M r hL S).imp (fun ⟨x, β', q, k⟩ => ⟨x, β', q, by show K x ((a L.sl M).seq b) β'; rw [e _ _ _ k]; exact k⟩) fun ⟨x, L', M', β', q, h1, h2, h3⟩ => ⟨x, L', M', β', q, by show (a L.sl M).seq b = _; rw [h1]; rfl, h2, h3⟩⟩
theorem js_seq {a b : SM} {f : μ ψ} {g : ψ → μ φ} {Γ1 : ψ → Cs} {K : φ → SO → 𝔅.T → Prop} (h : JS 𝔅 Γ Γx a f (Kn 𝔅 Γ1)) (h2 : ∀ x, JS 𝔅 (Γ1 x) Γx b (g x) K) : JS 𝔅 Γ Γx (sSeq a b) (bd f g) K :=
  ⟨fun Q L β M r hL S => by
    rcases h.run _ L β M (WM.run_bd r) hL S with ⟨x, β1, q1, L1, M1, e1, c1, S1⟩ | ⟨x, L', M', β', q, h1, h2, h3⟩
    · rcases (h2 x).run Q L1 β1 M1 q1 c1 S1 with ⟨a', β', q, k⟩ | ⟨x', L', M', β', q, k1, k2, k3⟩
      · exact .inl ⟨a', β', q, by show K a' ((a L.sl M).seq b) β'; rw [e1]; exact k⟩
      · exact .inr ⟨x', L', M', β', q, by show (a L.sl M).seq b = _; rw [e1]; exact k1, k2, k3⟩
    · exact .inr ⟨x, L', M', β', q, by show (a L.sl M).seq b = _; rw [h1]; rfl, h2, h3⟩⟩
theorem js_nil (x : φ) {Γ1 : φ → Cs} (w : Wk Γ (Γ1 x)) : JS (μ := μ) 𝔅 Γ Γx sNil (pu x) (Kn 𝔅 Γ1) :=
  ⟨fun Q L β M r hL S => by
    obtain ⟨L', e1, e2, S'⟩ := sat_weak S (by rw [hL]; exact w)
    exact .inl ⟨x, β, WM.run_pu r, L', M, by rw [e1]; rfl, e2, S'⟩⟩
theorem js_nilS {b : SM} {f : μ φ} {K : φ → SO → 𝔅.T → Prop} (h : JS 𝔅 Γ Γx b f K) : JS 𝔅 Γ Γx (sSeq sNil b) f K := ⟨fun Q L β M r hL S => h.run Q L β M r hL S⟩
/-- what a statement leaves, told in other words -/
theorem js_then {a : SM} {f : μ ψ} {Γ1 : ψ → Cs} {Γ2 : φ → Cs} (g : ψ → φ) (h : JS 𝔅 Γ Γx a f (Kn 𝔅 Γ1)) (w : ∀ x, Wk (Γ1 x) (Γ2 (g x))) : JS 𝔅 Γ Γx a (bd f fun x => pu (g x)) (Kn 𝔅 Γ2) :=
  ⟨fun Q L β M r hL S => (h.run _ L β M (WM.run_bd r) hL S).imp (fun ⟨x, β1, q1, L1, M1, e1, c1, S1⟩ => by
    obtain ⟨L', e2, e3, S'⟩ := sat_weak S1 (by rw [c1]; exact w x)
    exact ⟨g x, β1, WM.run_pu q1, L', M1, by rw [e1, e2], e3, S'⟩) id⟩
/-- .. at the end of a turn -/
theorem js_go {a : SM} {f : μ ψ} {Γ1 : ψ → Cs} {Γσ : σ → Cs} {y : ρ → PyData} (g : ψ → σ) (h : JS 𝔅 Γ Γx a f (Kn 𝔅 Γ1)) (w : ∀ x, Wk (Γ1 x) (Γσ (g x))) : JS 𝔅 Γ Γx a (bd f fun x => pu (.go (g x))) (Ks 𝔅 Γσ y) :=
  ⟨fun Q L β M r hL S => (h.run _ L β M (WM.run_bd r) hL S).imp (fun ⟨x, β1, q1, L1, M1, e1, c1, S1⟩ => by
    obtain ⟨L', e2, e3, S'⟩ := sat_weak S1 (by rw [c1]; exact w x)
    exact ⟨.go (g x), β1, WM.run_pu q1, .inr ⟨g x, rfl, L', M1, by rw [e1, e2], e3, S'⟩⟩) id⟩
theorem js_break (st : σ) {Γσ : σ → Cs} {y : ρ → PyData} (w : Wk Γ (Γσ st)) : JS (μ := μ) 𝔅 Γ Γx sBrk (pu (.br st)) (Ktt 𝔅 Γσ y) :=
  ⟨fun Q L β M r hL S => by
    obtain ⟨L', e2, e3, S'⟩ := sat_weak S (by rw [hL]; exact w)
    exact .inl ⟨.br st, β, WM.run_pu r, L', M, by rw [e2]; rfl, e3, S'⟩⟩
/-! ### expressions at a block's top -/
/-- an expression, with nothing at hand: its errors leave by Γx -/
theorem jx_top {m : EM} {f : μ α} {sp : α → Sp} (h : JX 𝔅 Γ m f sp) (x : XO μ Γ Γx) {Q : Res α → Nat → Prop} {L : Ps} {β : 𝔅.T} {M : Mm} (r : WM.run f (𝔅.bud β) Q) (hL : L.cs = Γ) (S : Sat L (𝔅.mem β) M) :
    (∃ a β' w M', Q (.ok a) (𝔅.bud β') ∧ m L.sl M = .ok w M' ∧ Sat (L ++ [(sp a, some w)]) (𝔅.mem β') M') ∨ ∃ e M' β' L', (∃ b, Q (.er e) b) ∧ m L.sl M = .er e M' ∧ L'.sl = L.sl ∧ L'.cs = Γx ∧ Sat L' (𝔅.mem β') M' := by
  rcases x with hn | w
  · have := h.run _ L [] β M (NE.ne r) hL (by rw [List.append_nil]; exact S)
    cases em : m L.sl M with
    | ok w M' =>
      rw [em] at this
      obtain ⟨a, β', q, S'⟩ := this
      exact .inl ⟨a, β', w, M', q, rfl, S'⟩
    | er e M' => rw [em] at this; exact this.1.elim fun _ z => z.elim
    | bad => rw [em] at this; exact this.elim
  · have := h.run Q L [] β M r hL (by rw [List.append_nil]; exact S)
    cases em : m L.sl M with
    | ok w M' =>
      rw [em] at this
      obtain ⟨a, β', q, S'⟩ := this
      exact .inl ⟨a, β', w, M', q, rfl, S'⟩
    | er e M' =>
      rw [em] at this
      obtain ⟨q, β', S'⟩ := this
      rw [List.append_nil] at S'
      obtain ⟨L', e1, e2, S2⟩ := sat_weak S' (by rw [hL]; exact w)
      exact .inr ⟨e, M', β', L', q, rfl, e1, e2, S2⟩
    | bad => rw [em] at this; exact this.elim
theorem jt_top {m : TM} {f : μ Bool} (h : JT 𝔅 Γ m f) (x : XO μ Γ Γx) {Q : Res Bool → Nat → Prop} {L : Ps} {β : 𝔅.T} {M : Mm} (r : WM.run f (𝔅.bud β) Q) (hL : L.cs = Γ) (S : Sat L (𝔅.mem β) M) :
    (∃ a β' M', Q (.ok a) (𝔅.bud β') ∧ m L.sl M = .ok a M' ∧ Sat L (𝔅.mem β') M') ∨ ∃ e M' β' L', (∃ b, Q (.er e) b) ∧ m L.sl M = .er e M' ∧ L'.sl = L.sl ∧ L'.cs = Γx ∧ Sat L' (𝔅.mem β') M' := by
  rcases x with hn | w
  · have := h.run _ L [] β M (NE.ne r) hL (by rw [List.append_nil]; exact S)
    cases em : m L.sl M with
    | ok w M' =>
      rw [em] at this
      obtain ⟨β', q, S'⟩ := this
      rw [List.append_nil] at S'
      exact .inl ⟨w, β', M', q, rfl, S'⟩
    | er e M' => rw [em] at this; exact this.1.elim fun _ z => z.elim
    | bad => rw [em] at this; exact this.elim
  · have := h.run Q L [] β M r hL (by rw [List.append_nil]; exact S)
    cases em : m L.sl M with
    | ok w M' =>
      rw [em] at this
      obtain ⟨β', q, S'⟩ := this
      rw [List.append_nil] at S'
      exact .inl ⟨w, β', M', q, rfl, S'⟩
    | er e M' =>
      rw [em] at this
      obtain ⟨q, β', S'⟩ := this
      rw [List.append_nil] at S'
      obtain ⟨L', e1, e2, S2⟩ := sat_weak S' (by rw [hL]; exact w)
      exact .inr ⟨e, M', β', L', q, rfl, e1, e2, S2⟩
    | bad => rw [em] at this; exact this.elim
theorem ja_top {m : AM} {f : μ α} {sps : α → List Sp} (h : JA 𝔅 Γ m f sps) (x : XO μ Γ Γx) {Q : Res α → Nat → Prop} {L : Ps} {β : 𝔅.T} {M : Mm} (r : WM.run f (𝔅.bud β) Q) (hL : L.cs = Γ) (S : Sat L (𝔅.mem β) M) :
    (∃ a β' vs M', Q (.ok a) (𝔅.bud β') ∧ m L.sl M = .ok vs M' ∧ vs.length = (sps a).length ∧ Sat (L ++ zs (sps a) vs) (𝔅.mem β') M') ∨ ∃ e M' β' L', (∃ b, Q (.er e) b) ∧ m L.sl M = .er e M' ∧ L'.sl = L.sl ∧ L'.cs = Γx ∧ Sat L' (𝔅.mem β') M' := by
  rcases x with hn | w
  · have := h.run _ L [] β M (NE.ne r) hL (by rw [List.append_nil]; exact S)
    cases em : m L.sl M with
    | ok w M' =>
      rw [em] at this
      obtain ⟨a, β', q, hl, S'⟩ := this
      exact .inl ⟨a, β', w, M', q, rfl, hl, S'⟩
    | er e M' => rw [em] at this; exact this.1.elim fun _ z => z.elim
    | bad => rw [em] at this; exact this.elim
  · have := h.run Q L [] β M r hL (by rw [List.append_nil]; exact S)
    cases em : m L.sl M with
    | ok w M' =>
      rw [em] at this
      obtain ⟨a, β', q, hl, S'⟩ := this
      exact .inl ⟨a, β', w, M', q, rfl, hl, S'⟩
    | er e M' =>
      rw [em] at this
      obtain ⟨q, β', S'⟩ := this
      rw [List.append_nil] at S'
      obtain ⟨L', e1, e2, S2⟩ := sat_weak S' (by rw [hL]; exact w)
      exact .inr ⟨e, M', β', L', q, rfl, e1, e2, S2⟩
    | bad => rw [em] at this; exact this.elim
theorem xo_ne [h : NE μ] : XO μ Γ Γx := .inl h
theorem js_asg {i : Nat} {m : EM} {f : μ α} {sp : α → Sp} (h : JX 𝔅 Γ m f sp) (x : XO μ Γ Γx) : JS 𝔅 Γ Γx (sAsg m (gN i)) f (Kn 𝔅 fun a => Γ.set i (sp a)) :=
  ⟨fun Q L β M r hL S => by
    rcases jx_top h x r hL S with ⟨a, β', w, M', q, e, S'⟩ | ⟨e, M', β', L', q, em, e1, e2, S2⟩
    · have S2 : Sat (L.set i (sp a, some w) ++ []) (𝔅.mem β') M' := Sat.set S' i
      rw [List.append_nil] at S2
      exact .inl ⟨a, β', q, L.set i (sp a, some w), M', by show (m L.sl M).asg L.sl (gN i) = _; rw [e, set_sl]; rfl, by rw [set_cs, hL], S2⟩
    · exact .inr ⟨e, L', M', β', q, by show (m L.sl M).asg L.sl (gN i) = _; rw [em, e1]; rfl, e2, S2⟩⟩
/-- through a target of names -/
theorem js_asgT {is : List Nat} {m : EM} {g : GM} {f : μ α} {x : α → PyData} {Γ1 : α → Cs} (h : JX 𝔅 Γ m f fun a => .v (x a)) (hg : ∀ a, JG Γ g is (x a) (Γ1 a)) (xo : XO μ Γ Γx) : JS 𝔅 Γ Γx (sAsg m g) f (Kn 𝔅 Γ1) :=
  ⟨fun Q L β M r hL S => by
    rcases jx_top h xo r hL S with ⟨a, β', w, M', q, e, S'⟩ | ⟨e, M', β', L', q, em, e1, e2, S2⟩
    · have s : some w = some (Val.d (x a)) := S'.ok (.v (x a), some w) (by simp)
      cases s
      obtain ⟨L', e1, c1, S1, _, _⟩ := (hg a).run L [] _ M' hL (by rw [List.append_nil]; exact S'.left)
      rw [List.append_nil] at S1
      exact .inl ⟨a, β', q, L', M', by show (m L.sl M).asg L.sl g = _; rw [e]; show (match g (.d (x a)) L.sl M' with | some (s', M') => SO.nx s' M' | none => .bad) = _; rw [e1], c1, S1⟩
    · exact .inr ⟨e, L', M', β', q, by show (m L.sl M).asg L.sl g = _; rw [em, e1]; rfl, e2, S2⟩⟩
def setsC (Γ : Cs) : List (Nat × Sp) → Cs
  | [] => Γ
  | p :: r => setsC (Γ.set p.1 p.2) r
theorem sets_ok {B M : Mm} : ∀ (is : List Nat) (sps : List Sp) (vs : List Val) (L : Ps), vs.length = sps.length → is.length = sps.length → Sat (L ++ zs sps vs) B M →
    ∃ L' : Ps, L'.sl = (is.zip vs).foldl (fun s p => s.set p.1 (some p.2)) L.sl ∧ L'.cs = setsC L.cs (is.zip sps) ∧ Sat L' B M
  | [], [], [], L, _, _, S => ⟨L, rfl, rfl, by rw [show L ++ zs [] [] = L from List.append_nil _] at S; exact S⟩
  | i :: is, sp :: sps, v :: vs, L, h1, h2, S => by
    rw [zs_cons] at S
    have S2 := S.set i
    obtain ⟨L', e1, e2, S'⟩ := sets_ok is sps vs (L.set i (sp, some v)) (by simpa using h1) (by simpa using h2) S2
    exact ⟨L', by rw [e1, set_sl]; rfl, by rw [e2, set_cs]; rfl, S'⟩
  | [], _ :: _, _, _, _, h, _ => by cases h
  | _ :: _, [], _, _, _, h, _ => by cases h
  | _, _ :: _, [], _, h, _, _ => by cases h
  | _, [], _ :: _, _, h, _, _ => by cases h
theorem js_par {is : List Nat} {ms : AM} {f : μ α} {sps : α → List Sp} (h : JA 𝔅 Γ ms f sps) (x : XO μ Γ Γx) (hl : ∀ a, is.length = (sps a).length := by intro _; rfl) : JS 𝔅 Γ Γx (sPar is ms) f (Kn 𝔅 fun a => setsC Γ (is.zip (sps a))) :=
  ⟨fun Q L β M r hL S => by
    rcases ja_top h x r hL S with ⟨a, β', vs, M', q, e, hv, S'⟩ | ⟨e, M', β', L', q, em, e1, e2, S2⟩
    · obtain ⟨L', e1, e2, S2⟩ := sets_ok is (sps a) vs L hv (hl a) S'
      refine .inl ⟨a, β', q, L', M', ?_, by rw [e2, hL], S2⟩
      show (ms L.sl M).bindS L.sl _ = _
      rw [e]
      show (if vs.length = is.length then SO.nx _ M' else .bad) = _
      rw [if_pos (by rw [hv, hl a]), e1]
    · exact .inr ⟨e, L', M', β', q, by show (ms L.sl M).bindS L.sl _ = _; rw [em, e1]; rfl, e2, S2⟩⟩
/-- a, b, c = x, y, z: names alone -/
def gNs : List Nat → GMs
  | [] => gsNil
  | i :: is => gsCons (gN i) (gNs is)
theorem gNs_ok : ∀ (is : List Nat) (vs : List Val) (s : Sl) (M : Mm), vs.length = is.length → gNs is vs s M = some ((is.zip vs).foldl (fun s p => s.set p.1 (some p.2)) s, M)
  | [], [], _, _, _ => rfl
  | i :: is, v :: vs, s, M, h => by
    show ((gN i v s M).bind fun p => gNs is vs p.1 p.2) = _
    exact gNs_ok is vs _ M (by simpa using h)
  | [], _ :: _, _, _, h => by cases h
  | _ :: _, [], _, _, h => by cases h
theorem js_tup {n : Nat} (is : List Nat) {g : GMs} {ms : AM} {f : μ α} {sps : α → List Sp} (h : JA 𝔅 Γ ms f sps) (x : XO μ Γ Γx) (hg : g = gNs is := by rfl) (hl : ∀ a, is.length = (sps a).length := by intro _; rfl) (hn : is.length = n := by rfl) (hn2 : n ≤ 1000 := by decide) :
    JS 𝔅 Γ Γx (sTup n ms g) f (Kn 𝔅 fun a => setsC Γ (is.zip (sps a))) :=
  ⟨fun Q L β M r hL S => by
    subst hg
    rcases ja_top h x r hL S with ⟨a, β', vs, M', q, e, hv, S'⟩ | ⟨e, M', β', L', q, em, e1, e2, S2⟩
    · obtain ⟨L', e1, e2, S2⟩ := sets_ok is (sps a) vs L hv (hl a) S'
      refine .inl ⟨a, β', q, L', M', ?_, by rw [e2, hL], S2⟩
      show (ms L.sl M).bindS L.sl _ = _
      rw [e]
      have hvi : vs.length = is.length := by rw [hv, hl a]
      show (if vs.length = n ∧ n ≤ 1000 then match gNs is vs L.sl M' with
        | some (s', M') => SO.nx s' M'
        | none => .bad else .bad) = _
      rw [if_pos ⟨by rw [hvi, hn], hn2⟩, gNs_ok is vs L.sl M' hvi, e1]
    · exact .inr ⟨e, L', M', β', q, by show (ms L.sl M).bindS L.sl _ = _; rw [em, e1]; rfl, e2, S2⟩⟩
theorem js_ret {m : EM} {f : μ ρ} {y : ρ → PyData} (h : JX 𝔅 Γ m f fun r => .v (y r)) (x : XO μ Γ Γx) : JS 𝔅 Γ Γx (sRet m) f (Kt 𝔅 y) :=
  ⟨fun Q L β M r hL S => by
    rcases jx_top h x r hL S with ⟨a, β', w, M', q, e, S'⟩ | ⟨e, M', β', L', q, em, e1, e2, S2⟩
    · have s : some w = some (Val.d (y a)) := S'.ok (.v (y a), some w) (by simp)
      cases s
      exact .inl ⟨a, β', q, M', by show (m L.sl M).bindS L.sl _ = _; rw [e]; rfl, S'.pre⟩
    · exact .inr ⟨e, L', M', β', q, by show (m L.sl M).bindS L.sl _ = _; rw [em, e1]; rfl, e2, S2⟩⟩
theorem js_retL {m : EM} {f : μ ρ} {y : ρ → PyData} {Γσ : σ → Cs} (h : JX 𝔅 Γ m f fun r => .v (y r)) (x : XO μ Γ Γx) : JS 𝔅 Γ Γx (sRet m) (bd f fun r => pu (Tn.rt r)) (Ktt 𝔅 Γσ y) :=
  ⟨fun Q L β M r hL S => ((js_ret h x).run _ L β M (WM.run_bd r) hL S).imp (fun ⟨a, β', q, k⟩ => ⟨.rt a, β', WM.run_pu q, k⟩) id⟩
theorem js_if {c : TM} {a b : SM} {fc : μ Bool} {fa fb : μ φ} {K : φ → SO → 𝔅.T → Prop} (hc : JT 𝔅 Γ c fc) (x : XO μ Γ Γx) (ha : JS 𝔅 Γ Γx a fa K) (hb : JS 𝔅 Γ Γx b fb K) : JS 𝔅 Γ Γx (sIf c a b) (bd fc fun k => if k = true then fa else fb) K :=
  ⟨fun Q L β M r hL S => by
    rcases jt_top hc x (WM.run_bd r) hL S with ⟨k, β', M', q, e, S'⟩ | ⟨e, M', β', L', q, em, e1, e2, S2⟩
    · have hs : sIf c a b L.sl M = if k = true then a L.sl M' else b L.sl M' := by show (c L.sl M).bindS L.sl _ = _; rw [e]; rfl
      rw [hs]
      cases k with
      | true => exact ha.run Q L β' M' q hL S'
      | false => exact hb.run Q L β' M' q hL S'
    · exact .inr ⟨e, L', M', β', q, by show (c L.sl M).bindS L.sl _ = _; rw [em, e1]; rfl, e2, S2⟩⟩
/-- if, and what follows it -/
theorem js_ifS {c : TM} {a b r : SM} {fc : μ Bool} {fa fb : μ φ} {K : φ → SO → 𝔅.T → Prop} (hc : JT 𝔅 Γ c fc) (x : XO μ Γ Γx) (ha : JS 𝔅 Γ Γx (sSeq a r) fa K) (hb : JS 𝔅 Γ Γx (sSeq b r) fb K) : JS 𝔅 Γ Γx (sSeq (sIf c a b) r) (bd fc fun k => if k = true then fa else fb) K :=
  ⟨fun Q L β M w hL S => by
    rcases jt_top hc x (WM.run_bd w) hL S with ⟨k, β', M', q, e, S'⟩ | ⟨e, M', β', L', q, em, e1, e2, S2⟩
    · have hs : sSeq (sIf c a b) r L.sl M = if k = true then sSeq a r L.sl M' else sSeq b r L.sl M' := by
        show ((c L.sl M).bindS L.sl _).seq r = _
        rw [e]
        cases k <;> rfl
      rw [hs]
      cases k with
      | true => exact ha.run Q L β' M' q hL S'
      | false => exact hb.run Q L β' M' q hL S'
    · exact .inr ⟨e, L', M', β', q, by show ((c L.sl M).bindS L.sl _).seq r = _; rw [em, e1]; rfl, e2, S2⟩⟩
end Zm
namespace Zm
open PySem PySem.Spec PyProof.Rows L2
open WM (pu bd)
open LO (lf)
variable {𝔅 : Bas} {μ : Type → Type} [LO μ] {α β γ δ τ ρ σ φ ψ κ : Type} {Γ Γx : Cs}
/-! ### loops -/
inductive Fi (σ ρ : Type) where
  | dn (s : σ)
  | rt (r : ρ)
def fiE (d : σ → μ φ) (r : ρ → μ φ) : Fi σ ρ → μ φ
  | .dn s => d s
  | .rt x => r x
def forT (b : σ → τ → μ (Tn σ ρ)) : List τ → σ → μ (Fi σ ρ)
  | [], s => pu (.dn s)
  | x :: xs, s => bd (b s x) fun t => match t with
    | .go s' => forT b xs s'
    | .br s' => pu (.dn s')
    | .rt r => pu (.rt r)
def forM' (b : σ → τ → μ σ) : List τ → σ → μ σ
  | [], s => pu s
  | x :: xs, s => bd (b s x) fun s' => forM' b xs s'
/-- how a turn without break and return ends -/
def Kg (𝔅 : Bas) (Γσ : σ → Cs) (st : σ) (o : SO) (β' : 𝔅.T) : Prop := ∃ (L' : Ps) (M' : Mm), (o = .nx L'.sl M' ∨ o = .ct L'.sl M') ∧ L'.cs = Γσ st ∧ Sat L' (𝔅.mem β') M'
def Kgt (𝔅 : Bas) (Γσ : σ → Cs) (st : σ) (o : SO) (β' : 𝔅.T) : Prop := ∃ (L' : Ps) (M' : Mm), o = .ct L'.sl M' ∧ L'.cs = Γσ st ∧ Sat L' (𝔅.mem β') M'
theorem js_goG {a : SM} {f : μ ψ} {Γ1 : ψ → Cs} {Γσ : σ → Cs} (g : ψ → σ) (h : JS 𝔅 Γ Γx a f (Kn 𝔅 Γ1)) (w : ∀ x, Wk (Γ1 x) (Γσ (g x))) : JS 𝔅 Γ Γx a (bd f fun x => pu (g x)) (Kg 𝔅 Γσ) :=
  (js_then g h w).imp fun _ _ _ ⟨L', M', e, c, S⟩ => ⟨L', M', .inl e, c, S⟩
theorem forG_run {g : GM} {b : SM} {is : List Nat} {enc : τ → PyData} {Γσ : σ → Cs} {Γb : σ → τ → Cs} {fb : σ → τ → μ σ} (hg : ∀ st x, JG (Γσ st) g is (enc x) (Γb st x)) (hb : ∀ st x, JS 𝔅 (Γb st x) Γx b (fb st x) (Kg 𝔅 Γσ)) :
    ∀ (xs : List τ) (st : σ) (Q : Res σ → Nat → Prop) (L : Ps) (β : 𝔅.T) (M : Mm), WM.run (forM' fb xs st) (𝔅.bud β) Q → L.cs = Γσ st → Sat L (𝔅.mem β) M →
      (∃ a β', Q (.ok a) (𝔅.bud β') ∧ Kn 𝔅 Γσ a (forL g b (dl enc xs) L.sl M) β') ∨ ErS 𝔅 Γx (fun e => ∃ b, Q (.er e) b) (forL g b (dl enc xs) L.sl M)
  | [], st, Q, L, β, M, r, hL, S => .inl ⟨st, β, WM.run_pu r, L, M, rfl, hL, S⟩
  | x :: xs, st, Q, L, β, M, r, hL, S => by
    obtain ⟨L1, e1, c1, S1, _, _⟩ := (hg st x).run L [] _ M hL (by rw [List.append_nil]; exact S)
    rw [List.append_nil] at S1
    have hf : forL g b (dl enc (x :: xs)) L.sl M = match b L1.sl M with
        | .nx s2 M2 => forL g b (dl enc xs) s2 M2
        | .ct s2 M2 => forL g b (dl enc xs) s2 M2
        | .bk s2 M2 => .nx s2 M2
        | o => o := by
      show (match g (.d (enc x)) L.sl M with | some (s1, M1) => _ | none => _) = _
      rw [e1]
      rfl
    rw [hf]
    rcases (hb st x).run _ L1 β M (WM.run_bd r) c1 S1 with ⟨a, β', q, L', M', eb, c', S'⟩ | ⟨e, L', M', β', q, eb, c', S'⟩
    · have ih := forG_run hg hb xs a Q L' β' M' q c' S'
      rcases eb with eb | eb <;> rw [eb] <;> exact ih
    · rw [eb]
      exact .inr ⟨e, L', M', β', q, rfl, c', S'⟩
theorem ji_top {m : AM} {f : μ (List τ)} {enc : τ → PyData} (h : JI 𝔅 Γ m f enc) (x : XO μ Γ Γx) {Q : Res (List τ) → Nat → Prop} {L : Ps} {β : 𝔅.T} {M : Mm} (r : WM.run f (𝔅.bud β) Q) (hL : L.cs = Γ) (S : Sat L (𝔅.mem β) M) :
    (∃ a β' M', Q (.ok a) (𝔅.bud β') ∧ m L.sl M = .ok (dl enc a) M' ∧ Sat L (𝔅.mem β') M') ∨ ∃ e M' β' L', (∃ b, Q (.er e) b) ∧ m L.sl M = .er e M' ∧ L'.sl = L.sl ∧ L'.cs = Γx ∧ Sat L' (𝔅.mem β') M' := by
  rcases x with hn | w
  · have := h.run _ L [] β M (NE.ne r) hL (by rw [List.append_nil]; exact S)
    cases em : m L.sl M with
    | ok w M' =>
      rw [em] at this
      obtain ⟨a, β', q, rfl, S'⟩ := this
      rw [List.append_nil] at S'
      exact .inl ⟨a, β', M', q, rfl, S'⟩
    | er e M' => rw [em] at this; exact this.1.elim fun _ z => z.elim
    | bad => rw [em] at this; exact this.elim
  · have := h.run Q L [] β M r hL (by rw [List.append_nil]; exact S)
    cases em : m L.sl M with
    | ok w M' =>
      rw [em] at this
      obtain ⟨a, β', q, rfl, S'⟩ := this
      rw [List.append_nil] at S'
      exact .inl ⟨a, β', M', q, rfl, S'⟩
    | er e M' =>
      rw [em] at this
      obtain ⟨q, β', S'⟩ := this
      rw [List.append_nil] at S'
      obtain ⟨L', e1, e2, S2⟩ := sat_weak S' (by rw [hL]; exact w)
      exact .inr ⟨e, M', β', L', q, rfl, e1, e2, S2⟩
    | bad => rw [em] at this; exact this.elim
/-- for g in it, with what the turns hand on -/
theorem js_for {it : AM} {g : GM} {b : SM} {is : List Nat} {enc : τ → PyData} {fi : μ (List τ)} {Γσ : σ → Cs} {Γb : σ → τ → Cs} {fb : σ → τ → μ σ} (st : σ) (hi : JI 𝔅 Γ it fi enc) (x : XO μ Γ Γx) (w : Wk Γ (Γσ st)) (hg : ∀ st x, JG (Γσ st) g is (enc x) (Γb st x)) (hb : ∀ st x, JS 𝔅 (Γb st x) Γx b (fb st x) (Kg 𝔅 Γσ)) :
    JS 𝔅 Γ Γx (sFor it g b) (bd fi fun xs => forM' fb xs st) (Kn 𝔅 Γσ) :=
  ⟨fun Q L β M r hL S => by
    rcases ji_top hi x (WM.run_bd r) hL S with ⟨a, β', M', q, em, S'⟩ | ⟨e, M', β', L', q, em, e1, e2, S2⟩
    · have hs : sFor it g b L.sl M = forL g b (dl enc a) L.sl M' := by show (it L.sl M).bindS L.sl _ = _; rw [em]; rfl
      rw [hs]
      obtain ⟨L', e1, c1, S1⟩ := sat_weak S' (by rw [hL]; exact w)
      rw [← e1]
      exact forG_run hg hb a st Q L' β' M' q c1 S1
    · exact .inr ⟨e, L', M', β', q, by show (it L.sl M).bindS L.sl _ = _; rw [em, e1]; rfl, e2, S2⟩⟩
/-- how a loop ends -/
def Kf (𝔅 : Bas) (Γσ : σ → Cs) (y : ρ → PyData) (a : Fi σ ρ) (o : SO) (β' : 𝔅.T) : Prop := match a with
  | .dn st => Kn 𝔅 Γσ st o β'
  | .rt r => Kt 𝔅 y r o β'
theorem forT_run {g : GM} {b : SM} {is : List Nat} {enc : τ → PyData} {Γσ : σ → Cs} {y : ρ → PyData} {Γb : σ → τ → Cs} {fb : σ → τ → μ (Tn σ ρ)} (hg : ∀ st x, JG (Γσ st) g is (enc x) (Γb st x)) (hb : ∀ st x, JS 𝔅 (Γb st x) Γx b (fb st x) (Ks 𝔅 Γσ y)) :
    ∀ (xs : List τ) (st : σ) (Q : Res (Fi σ ρ) → Nat → Prop) (L : Ps) (β : 𝔅.T) (M : Mm), WM.run (forT fb xs st) (𝔅.bud β) Q → L.cs = Γσ st → Sat L (𝔅.mem β) M →
      (∃ a β', Q (.ok a) (𝔅.bud β') ∧ Kf 𝔅 Γσ y a (forL g b (dl enc xs) L.sl M) β') ∨ ErS 𝔅 Γx (fun e => ∃ b, Q (.er e) b) (forL g b (dl enc xs) L.sl M)
  | [], st, Q, L, β, M, r, hL, S => .inl ⟨.dn st, β, WM.run_pu r, L, M, rfl, hL, S⟩
  | x :: xs, st, Q, L, β, M, r, hL, S => by
    obtain ⟨L1, e1, c1, S1, _, _⟩ := (hg st x).run L [] _ M hL (by rw [List.append_nil]; exact S)
    rw [List.append_nil] at S1
    have hf : forL g b (dl enc (x :: xs)) L.sl M = match b L1.sl M with
        | .nx s2 M2 => forL g b (dl enc xs) s2 M2
        | .ct s2 M2 => forL g b (dl enc xs) s2 M2
        | .bk s2 M2 => .nx s2 M2
        | o => o := by
      show (match g (.d (enc x)) L.sl M with | some (s1, M1) => _ | none => _) = _
      rw [e1]
      rfl
    rw [hf]
    rcases (hb st x).run _ L1 β M (WM.run_bd r) c1 S1 with ⟨a, β', q, k⟩ | ⟨e, L', M', β', q, eb, c', S'⟩
    · dsimp only at q
      rcases k with k | ⟨s', rfl, L', M', eb, c', S'⟩
      · cases a with
        | go s' =>
          obtain ⟨L', M', eb, c', S'⟩ := k
          rw [eb]
          exact forT_run hg hb xs s' Q L' β' M' q c' S'
        | br s' =>
          obtain ⟨L', M', eb, c', S'⟩ := k
          rw [eb]
          exact .inl ⟨.dn s', β', WM.run_pu q, L', M', rfl, c', S'⟩
        | rt r' =>
          obtain ⟨M', eb, hp⟩ := k
          rw [eb]
          exact .inl ⟨.rt r', β', WM.run_pu q, M', rfl, hp⟩
      · rw [eb]
        exact forT_run hg hb xs s' Q L' β' M' q c' S'
    · rw [eb]
      exact .inr ⟨e, L', M', β', q, rfl, c', S'⟩
theorem js_forT {it : AM} {g : GM} {b : SM} {is : List Nat} {enc : τ → PyData} {fi : μ (List τ)} {Γσ : σ → Cs} {y : ρ → PyData} {Γb : σ → τ → Cs} {fb : σ → τ → μ (Tn σ ρ)} (st : σ) (hi : JI 𝔅 Γ it fi enc) (x : XO μ Γ Γx) (w : Wk Γ (Γσ st)) (hg : ∀ st x, JG (Γσ st) g is (enc x) (Γb st x)) (hb : ∀ st x, JS 𝔅 (Γb st x) Γx b (fb st x) (Ks 𝔅 Γσ y)) :
    JS 𝔅 Γ Γx (sFor it g b) (bd fi fun xs => forT fb xs st) (Kf 𝔅 Γσ y) :=
  ⟨fun Q L β M r hL S => by
    rcases ji_top hi x (WM.run_bd r) hL S with ⟨a, β', M', q, em, S'⟩ | ⟨e, M', β', L', q, em, e1, e2, S2⟩
    · have hs : sFor it g b L.sl M = forL g b (dl enc a) L.sl M' := by show (it L.sl M).bindS L.sl _ = _; rw [em]; rfl
      rw [hs]
      obtain ⟨L', e1, c1, S1⟩ := sat_weak S' (by rw [hL]; exact w)
      rw [← e1]
      exact forT_run hg hb a st Q L' β' M' q c1 S1
    · exact .inr ⟨e, L', M', β', q, by show (it L.sl M).bindS L.sl _ = _; rw [em, e1]; rfl, e2, S2⟩⟩
/-- a loop, and what follows it -/
theorem js_seqF {a b : SM} {f : μ (Fi σ ρ)} {Γσ : σ → Cs} {y : ρ → PyData} {g : σ → μ φ} {K : φ → SO → 𝔅.T → Prop} (inj : ρ → φ) (i : ∀ r o β, Kt 𝔅 y r o β → K (inj r) o β) (h : JS 𝔅 Γ Γx a f (Kf 𝔅 Γσ y)) (h2 : ∀ x, JS 𝔅 (Γσ x) Γx b (g x) K) :
    JS 𝔅 Γ Γx (sSeq a b) (bd f (fiE g fun r => pu (inj r))) K :=
  ⟨fun Q L β M r hL S => by
    rcases h.run _ L β M (WM.run_bd r) hL S with ⟨x, β1, q1, k⟩ | ⟨x, L', M', β', q, h1, h2, h3⟩
    · dsimp only at q1
      cases x with
      | dn st =>
        obtain ⟨L1, M1, e1, c1, S1⟩ := k
        have hs : sSeq a b L.sl M = b L1.sl M1 := by show (a L.sl M).seq b = _; rw [e1]; rfl
        rw [hs]
        exact (h2 st).run Q L1 β1 M1 q1 c1 S1
      | rt r' =>
        have hs : sSeq a b L.sl M = a L.sl M := by
          obtain ⟨M', e, _⟩ := k
          show (a L.sl M).seq b = _
          rw [e]; rfl
        rw [hs]
        exact .inl ⟨inj r', β1, WM.run_pu q1, i r' _ _ k⟩
    · exact .inr ⟨x, L', M', β', q, by show (a L.sl M).seq b = _; rw [h1]; rfl, h2, h3⟩⟩
/-- a loop at the end of a block -/
theorem js_lastF {a : SM} {f : μ (Fi σ ρ)} {Γσ : σ → Cs} {y : ρ → PyData} {K : φ → SO → 𝔅.T → Prop} (inj : ρ → φ) (i : ∀ r o β, Kt 𝔅 y r o β → K (inj r) o β) (d : σ → φ) (j : ∀ st o β, Kn 𝔅 Γσ st o β → K (d st) o β) (h : JS 𝔅 Γ Γx a f (Kf 𝔅 Γσ y)) :
    JS 𝔅 Γ Γx a (bd f (fiE (fun st => pu (d st)) fun r => pu (inj r))) K :=
  ⟨fun Q L β M r hL S => by
    rcases h.run _ L β M (WM.run_bd r) hL S with ⟨x, β1, q1, k⟩ | ⟨x, L', M', β', q, h1, h2, h3⟩
    · dsimp only at q1
      cases x with
      | dn st => exact .inl ⟨d st, β1, WM.run_pu q1, j st _ _ k⟩
      | rt r' => exact .inl ⟨inj r', β1, WM.run_pu q1, i r' _ _ k⟩
    · exact .inr ⟨x, L', M', β', q, h1, h2, h3⟩⟩
theorem kt_kr {y : ρ → PyData} : ∀ r o β, Kt 𝔅 y r o β → Kr 𝔅 y r o β := fun _ _ _ k => .inl k
theorem kt_ks {Γσ : σ → Cs} {y : ρ → PyData} : ∀ r o β, Kt 𝔅 y r o β → Ks 𝔅 Γσ y (.rt r) o β := fun _ _ _ k => .inl k
theorem kn_ks {Γσ : σ → Cs} {Γτ : τ → Cs} {y : ρ → PyData} (g : σ → τ) (w : ∀ st, Wk (Γσ st) (Γτ (g st))) : ∀ st o β, Kn 𝔅 Γσ st o β → Ks 𝔅 Γτ y (.go (g st)) o β := fun st _ _ ⟨L, M, e, c, S⟩ => by
  obtain ⟨L', e1, c1, S1⟩ := sat_weak S (by rw [c]; exact w st)
  exact .inr ⟨g st, rfl, L', M, by rw [e, e1], c1, S1⟩
/-! ### a list, a dict of one's own -/
theorem own_at {L : Ps} {B M : Mm} {i : Nat} {ys : List PyData} (S : Sat L B M) (h : L.cs[i]? = some (.l ys)) : ∃ j : Nat, L[i]? = some (.l ys, some (.obj j)) ∧ M[j]? = some (.lst (ys.map Val.d)) := by
  obtain ⟨w, h1, _⟩ := Ps.get h
  obtain ⟨j, e, e2⟩ := S.ok _ (List.mem_of_getElem? h1)
  exact ⟨j, by rw [h1]; rw [show w = _ from e], e2⟩
theorem ownK_at {L : Ps} {B M : Mm} {i : Nat} {ys : List (PyData × PyData)} (S : Sat L B M) (h : L.cs[i]? = some (.k ys)) : ∃ j : Nat, L[i]? = some (.k ys, some (.obj j)) ∧ M[j]? = some (.dct (ys.map fun p => (p.1, Val.d p.2))) := by
  obtain ⟨w, h1, _⟩ := Ps.get h
  obtain ⟨j, e, e2⟩ := S.ok _ (List.mem_of_getElem? h1)
  exact ⟨j, by rw [h1]; rw [show w = _ from e], e2⟩
theorem rd_lst {M : Mm} {j : Nat} {vs : List Val} (h : M[j]? = some (.lst vs)) : rd (.obj j) M = .obj j := by
  show (match M[j]? with | some (.frz x) => Val.d x | _ => Val.obj j) = _
  rw [h]
theorem rd_dct {M : Mm} {j : Nat} {vs : List (PyData × Val)} (h : M[j]? = some (.dct vs)) : rd (.obj j) M = .obj j := by
  show (match M[j]? with | some (.frz x) => Val.d x | _ => Val.obj j) = _
  rw [h]
theorem ty_lst {M : Mm} {j : Nat} {vs : List Val} (h : M[j]? = some (.lst vs)) : tyOk "list" (.obj j) M = true := by
  show (match M[j]? with
    | some (.lst _) => "list" == "list"
    | some (.dct _) => "list" == "dict"
    | _ => false) = true
  rw [h]
  rfl
def psh (xs : List α) (a : α) : Option (List α) := if xs.length < 16777216 then some (xs ++ [a]) else none
def ext (xs ys : List α) : Option (List α) := if xs.length + ys.length ≤ 16777216 then some (xs ++ ys) else none
/-- the slots behind a write at a place of one's own -/
theorem write_at {L : Ps} {B M : Mm} {i j : Nat} {sp sp' : Sp} {u : MO} (S : Sat L B M) (hi : L[i]? = some (sp, some (.obj j))) (o : sp.own = true) (hu : MO.below M.length u = true) (h : SpOk (M.set j u) sp' (some (.obj j))) :
    ∃ L' : Ps, L'.sl = L.sl ∧ L'.cs = L.cs.set i sp' ∧ Sat L' B (M.set j u) := by
  refine ⟨_, ?_, set_cs, S.write hi o hu h⟩
  rw [set_sl]
  refine List.ext_getElem? fun a => ?_
  by_cases z : i = a
  · subst z
    rw [List.getElem?_set_self (by unfold Ps.sl; rw [List.length_map]; exact (List.getElem?_eq_some_iff.mp hi).1), List.getElem?_map, hi]
    rfl
  · rw [List.getElem?_set_ne z]
theorem js_append {i : Nat} {e : EM} {f : μ α} {y : α → PyData} (xs : List α) (h : JX 𝔅 Γ e f fun a => .v (y a)) (hi : Γ[i]? = some (.l (xs.map y))) (x : XO μ Γ Γx) : JS 𝔅 Γ Γx (sDrop (mM "list" vAppend (mVar i) (mCons e mNil))) (bd f fun a => lf (psh xs a)) (Kn 𝔅 fun zs => Γ.set i (.l (zs.map y))) :=
  ⟨fun Q L β M r hL S => by
    obtain ⟨j, h1, h2⟩ := own_at S (by rw [hL]; exact hi)
    have hs : sDrop (mM "list" vAppend (mVar i) (mCons e mNil)) L.sl M = (e L.sl M).bindS L.sl fun w M2 => (vAppend (.obj j) [w] M2).bindS L.sl fun _ M3 => .nx L.sl M3 := by
      show ((mVar i L.sl M).bind fun v M1 => if tyOk "list" v M1 = true then _ else _).bindS _ _ = _
      rw [mVar_at h1 rfl, rd_lst h2]
      show (if tyOk "list" (.obj j) M = true then ((e L.sl M).bind fun x M1 => Out.ok [x] M1).bind fun vs M2 => vAppend (.obj j) vs M2 else _).bindS _ _ = _
      rw [if_pos (ty_lst h2)]
      cases e L.sl M <;> rfl
    rw [hs]
    rcases jx_top h x (WM.run_bd r) hL S with ⟨a, β', w, M', q, em, S'⟩ | ⟨e, M', β', L', q, em, e1, e2, S2⟩
    · have s : some w = some (Val.d (y a)) := S'.ok (.v (y a), some w) (by simp)
      cases s
      obtain ⟨zs, hz, q2⟩ := LO.run_lf q
      unfold psh at hz
      split at hz
      · rename_i hl
        cases hz
        obtain ⟨j', k1, k2⟩ := own_at S'.left (by rw [hL]; exact hi)
        rw [h1] at k1
        cases k1
        have k3 := (List.getElem?_eq_some_iff.mp k2).1
        obtain ⟨L2, e1, e2, S2⟩ := write_at (sp' := .l ((xs ++ [a]).map y)) (u := .lst (((xs ++ [a]).map y).map Val.d)) S'.left h1 rfl below_lst ⟨j, rfl, by rw [List.getElem?_set_self k3]⟩
        refine .inl ⟨xs ++ [a], β', q2, L2, _, ?_, by rw [e2, hL], S2⟩
        rw [em]
        show (vAppend (.obj j) [.d (y a)] M').bindS L.sl _ = _
        have ha : vAppend (.obj j) [.d (y a)] M' = .ok (.d .none) (M'.set j (.lst (((xs ++ [a]).map y).map Val.d))) := by
          show (match M'[j]? with
            | some (.lst us) => if us.length < 16777216 then Out.ok (Val.d .none) (M'.set j (.lst (us ++ [Val.d (y a)]))) else .bad
            | _ => .bad) = _
          rw [k2]
          show (if ((xs.map y).map Val.d).length < 16777216 then _ else _) = _
          rw [if_pos (by rw [List.length_map, List.length_map]; exact hl), List.map_append, List.map_append]
          rfl
        rw [ha, e1]
        rfl
      · cases hz
    · exact .inr ⟨e, L', M', β', q, by rw [em, e1]; rfl, e2, S2⟩⟩
/-- dicts as lists of pairs -/
def dget [DecidableEq κ] (kvs : List (κ × α)) (k : κ) : Option α := (kvs.find? fun p => decide (p.1 = k)).map (·.2)
def dput [DecidableEq κ] (kvs : List (κ × α)) (k : κ) (v : α) : List (κ × α) := if (kvs.any fun p => decide (p.1 = k)) = true then kvs.map (fun p => if p.1 = k then (p.1, v) else p) else kvs ++ [(k, v)]
def dputO [DecidableEq κ] (kvs : List (κ × α)) (k : κ) (v : α) : Option (List (κ × α)) := if kvs.length < 16777216 then some (dput kvs k v) else none
/-- how a dict is laid -/
abbrev eKs (ek : κ → PyData) (ev : α → PyData) (kvs : List (κ × α)) : List (PyData × PyData) := kvs.map fun p => (ek p.1, ev p.2)
structure KeyE [DecidableEq κ] (ek : κ → PyData) : Prop where
  eq : ∀ a b, eqK (ek a) (ek b) = decide (a = b)
  kv : ∀ a, keyV (.d (ek a)) = some (ek a)
theorem key_int : KeyE PyData.int := ⟨fun a b => rfl, fun _ => rfl⟩
theorem find_eKs [DecidableEq κ] {ek : κ → PyData} {ev : α → PyData} (K : KeyE ek) (k : κ) : ∀ kvs : List (κ × α), findD (ek k) ((eKs ek ev kvs).map fun p => (p.1, Val.d p.2)) = (dget kvs k).map fun v => .d (ev v)
  | [] => rfl
  | p :: r => by
    unfold findD dget
    show Option.map _ (List.find? _ ((ek p.1, Val.d (ev p.2)) :: (eKs ek ev r).map fun p => (p.1, Val.d p.2))) = _
    rw [List.find?_cons, List.find?_cons]
    show Option.map _ (match eqK (ek p.1) (ek k) with | true => _ | false => _) = _
    rw [K.eq]
    cases decide (p.1 = k) with
    | true => rfl
    | false => exact find_eKs K k r
theorem put_eKs [DecidableEq κ] {ek : κ → PyData} {ev : α → PyData} (K : KeyE ek) (k : κ) (v : α) (kvs : List (κ × α)) : putD ((eKs ek ev kvs).map fun p => (p.1, Val.d p.2)) (ek k) (.d (ev v)) = (eKs ek ev (dput kvs k v)).map fun p => (p.1, .d p.2) := by
  have ha : (((eKs ek ev kvs).map fun p => (p.1, Val.d p.2)).any fun p => eqK p.1 (ek k)) = kvs.any fun p => decide (p.1 = k) := by
    rw [List.map_map, List.any_map]
    congr 1
    funext p
    exact K.eq _ _
  unfold putD dput
  rw [ha]
  split
  · rw [List.map_map, List.map_map, List.map_map, List.map_map]
    refine List.map_congr_left fun p _ => ?_
    show (if eqK (ek p.1) (ek k) = true then (ek p.1, Val.d (ev v)) else (ek p.1, .d (ev p.2))) = _
    rw [K.eq]
    by_cases e : p.1 = k
    · rw [decide_eq_true e, if_pos rfl]
      show _ = (fun p : PyData × PyData => (p.1, Val.d p.2)) ((fun p : κ × α => (ek p.1, ev p.2)) (if p.1 = k then (p.1, v) else p))
      rw [if_pos e]
    · rw [decide_eq_false e, if_neg (by decide)]
      show _ = (fun p : PyData × PyData => (p.1, Val.d p.2)) ((fun p : κ × α => (ek p.1, ev p.2)) (if p.1 = k then (p.1, v) else p))
      rw [if_neg e]
  · rw [show eKs ek ev (kvs ++ [(k, v)]) = eKs ek ev kvs ++ [(ek k, ev v)] from List.map_append, List.map_append]
    rfl
theorem isDct_at {M : Mm} {j : Nat} {vs : List (PyData × Val)} (h : M[j]? = some (.dct vs)) : isDct (.obj j) M = true := by
  unfold isDct dctV
  dsimp only
  rw [h]
  rfl
theorem js_put [DecidableEq κ] {ek : κ → PyData} {ev : α → PyData} (K : KeyE ek) {i : Nat} {mv mk : EM} {f : μ α} {fk : Option κ} (kvs : List (κ × α)) (h : JX 𝔅 Γ mv f fun a => .v (ev a)) (hk : JX (μ := Option) 𝔅 Γ mk fk fun k => .v (ek k)) (hi : Γ[i]? = some (.k (eKs ek ev kvs))) (x : XO μ Γ Γx) :
    JS 𝔅 Γ Γx (sAsg mv (gSet (mVar i) mk vSetX)) (bd f fun a => bd (lf fk) fun k => lf (dputO kvs k a)) (Kn 𝔅 fun zs => Γ.set i (.k (eKs ek ev zs))) :=
  ⟨fun Q L β M r hL S => by
    rcases jx_top h x (WM.run_bd r) hL S with ⟨a, β', w, M', q, em, S'⟩ | ⟨e, M', β', L', q, em, e1, e2, S2⟩
    · have s : some w = some (Val.d (ev a)) := S'.ok (.v (ev a), some w) (by simp)
      cases s
      obtain ⟨k, hk2, q2⟩ := LO.run_lf (WM.run_bd q)
      obtain ⟨zs, hz, q3⟩ := LO.run_lf q2
      unfold dputO at hz
      split at hz
      · rename_i hl
        cases hz
        have := jx_at hk (fun r b0 => match r with | .ok k' => k' = k ∧ b0 = 𝔅.bud β' | .er _ => False) L [] β' M' ⟨k, hk2, rfl, rfl⟩ hL (by rw [List.append_nil]; exact S'.left)
        cases ek2 : mk L.sl M' with
        | bad => rw [ek2] at this; exact this.elim
        | er _ _ => rw [ek2] at this; exact this.1.elim fun _ z => z.elim
        | ok wk M2 =>
          rw [ek2] at this
          obtain ⟨k', β2, e0, e3, S3⟩ := this
          obtain ⟨e0, eb⟩ := e0
          cases e0
          subst e3
          rw [List.append_nil] at S3
          obtain ⟨j0, g1, g2⟩ := ownK_at S'.left (by rw [hL]; exact hi)
          obtain ⟨j, k1, k2⟩ := ownK_at S3 (by rw [hL]; exact hi)
          rw [g1] at k1
          cases k1
          have k3 := (List.getElem?_eq_some_iff.mp k2).1
          obtain ⟨L2, e1, e2, S2⟩ := write_at (sp' := .k (eKs ek ev (dput kvs k a))) (u := .dct ((eKs ek ev (dput kvs k a)).map fun p => (p.1, Val.d p.2))) S3 g1 rfl below_dct ⟨_, rfl, by rw [List.getElem?_set_self k3]⟩
          refine .inl ⟨_, β2, by rw [eb]; exact q3, L2, _, ?_, by rw [e2, hL], S2⟩
          show (mv L.sl M).asg L.sl _ = _
          rw [em]
          show (match gSet (mVar i) mk vSetX (.d (ev a)) L.sl M' with
            | some (s', M') => SO.nx s' M'
            | none => .bad) = _
          unfold gSet
          rw [mVar_at g1 rfl, rd_dct g2]
          dsimp only
          rw [ek2]
          dsimp only
          have hv : vSetX (.obj j0) (.d (ek k)) (.d (ev a)) M2 = some (M2.set j0 (.dct ((eKs ek ev (dput kvs k a)).map fun p => (p.1, .d p.2)))) := by
            unfold vSetX
            rw [if_pos (isDct_at k2)]
            unfold vSetD
            rw [K.kv]
            dsimp only
            rw [k2]
            dsimp only
            rw [if_pos (by rw [List.length_map, List.length_map]; exact hl), put_eKs K]
          rw [hv, e1]
          rfl
      · cases hz
    · exact .inr ⟨e, L', M', β', q, by show (mv L.sl M).asg L.sl _ = _; rw [em, e1]; rfl, e2, S2⟩⟩
/-! ### fixed ahead of a statement -/
theorem js_ghL {i : Nat} {b : SM} {f : μ φ} {K : φ → SO → 𝔅.T → Prop} {ys : List PyData} (hi : Γ[i]? = some (.l ys)) (h : JS 𝔅 (Γ.set i (.f (.list ys))) Γx b f K) : JS 𝔅 Γ Γx (sGh i b) f K :=
  ⟨fun Q L β M r hL S => by
    obtain ⟨j, h1, h2⟩ := own_at S (by rw [hL]; exact hi)
    have k3 := (List.getElem?_eq_some_iff.mp h2).1
    obtain ⟨L2, e1, e2, S2⟩ := write_at (sp' := .f (.list ys)) (u := .frz (.list ys)) S h1 rfl rfl ⟨j, rfl, by rw [List.getElem?_set_self k3]⟩
    have hf : frzAt i L.sl M = M.set j (.frz (.list ys)) := by
      unfold frzAt
      rw [show L.sl[i]? = some (some (.obj j)) by rw [List.getElem?_map, h1]; rfl]
      dsimp only
      rw [h2]
      dsimp only
      rw [fzL_d]
    show (∃ a β', Q (.ok a) (𝔅.bud β') ∧ K a (b L.sl (frzAt i L.sl M)) β') ∨ ErS 𝔅 Γx _ (b L.sl (frzAt i L.sl M))
    rw [hf, ← e1]
    exact h.run Q L2 β _ r (by rw [e2, hL]) S2⟩
end Zm
namespace Zm
open PySem PySem.Spec PyProof.Rows L2
open WM (pu bd)
open LO (lf)
variable {𝔅 : Bas} {μ : Type → Type} [LO μ] {α β γ δ τ ρ σ φ ψ κ : Type} {Γ Γx : Cs}
/-! ### how data is laid -/
abbrev eD : PyData → PyData := id
abbrev eN : Unit → PyData := fun _ => .none
abbrev eL (e : α → PyData) : List α → PyData := fun xs => .list (xs.map e)
abbrev eT (e : α → PyData) : List α → PyData := fun xs => .tuple (xs.map e)
abbrev eP1 (e : α → PyData) : α → PyData := fun p => .tuple [e p]
abbrev eP2 (e : α → PyData) (f : β → PyData) : α × β → PyData := fun p => .tuple [e p.1, f p.2]
abbrev eP3 (e : α → PyData) (f : β → PyData) (g : γ → PyData) : α × β × γ → PyData := fun p => .tuple [e p.1, f p.2.1, g p.2.2]
abbrev eP4 (e : α → PyData) (f : β → PyData) (g : γ → PyData) (h : δ → PyData) : α × β × γ × δ → PyData := fun p => .tuple [e p.1, f p.2.1, g p.2.2.1, h p.2.2.2]
abbrev eP5 (e : α → PyData) (f : β → PyData) (g : γ → PyData) (h : δ → PyData) (i : τ → PyData) : α × β × γ × δ × τ → PyData := fun p => .tuple [e p.1, f p.2.1, g p.2.2.1, h p.2.2.2.1, i p.2.2.2.2]
def eO (e : α → PyData) : Option α → PyData
  | none => .none
  | some x => e x
abbrev eK (ek : κ → PyData) (ev : α → PyData) : List (κ × α) → PyData := fun kvs => .dict (eKs ek ev kvs)
/-! ### .. and read back -/
def DecOk (dec : PyData → Option α) (enc : α → PyData) : Prop := ∀ x a, dec x = some a → x = enc a
def toI : PyData → Option Int
  | .int i => some i
  | _ => none
def toB : PyData → Option Bool
  | .bool i => some i
  | _ => none
def toS : PyData → Option Str
  | .str i => some i
  | _ => none
def toN : PyData → Option Unit
  | .none => some ()
  | _ => none
def toLd (d : PyData → Option α) : PyData → Option (List α)
  | .list xs => xs.mapM d
  | _ => none
def toTd (d : PyData → Option α) : PyData → Option (List α)
  | .tuple xs => xs.mapM d
  | _ => none
def toP1 (d : PyData → Option α) : PyData → Option α
  | .tuple [x] => d x
  | _ => none
def toP2 (d : PyData → Option α) (e : PyData → Option β) : PyData → Option (α × β)
  | .tuple [x, y] => (d x).bind fun a => (e y).map fun b => (a, b)
  | _ => none
def toP3 (d : PyData → Option α) (e : PyData → Option β) (f : PyData → Option γ) : PyData → Option (α × β × γ)
  | .tuple [x, y, z] => (d x).bind fun a => (e y).bind fun b => (f z).map fun c => (a, b, c)
  | _ => none
def toOd (d : PyData → Option α) : PyData → Option (Option α)
  | .none => some none
  | x => (d x).map some
theorem dec_I : DecOk toI PyData.int := fun x a h => by
  unfold toI at h; split at h
  · cases h; rfl
  · cases h
theorem mapM_ok {d : PyData → Option α} {e : α → PyData} (h : DecOk d e) : ∀ {xs : List PyData} {as : List α}, xs.mapM d = some as → xs = as.map e
  | [], as, q => by cases q; rfl
  | x :: xs, as, q => by
    rw [List.mapM_cons] at q
    cases e1 : d x with
    | none => rw [e1] at q; cases q
    | some a =>
      rw [e1] at q
      cases e2 : xs.mapM d with
      | none => rw [e2] at q; cases q
      | some bs =>
        rw [e2] at q
        cases q
        rw [h _ _ e1, mapM_ok h e2]
        rfl
theorem dec_L {d : PyData → Option α} {e : α → PyData} (h : DecOk d e) : DecOk (toLd d) (eL e) := fun x a q => by
  unfold toLd at q; split at q
  · rw [mapM_ok h q]
  · cases q
theorem dec_T {d : PyData → Option α} {e : α → PyData} (h : DecOk d e) : DecOk (toTd d) (eT e) := fun x a q => by
  unfold toTd at q; split at q
  · rw [mapM_ok h q]
  · cases q
theorem dec_P2 {d : PyData → Option α} {e : α → PyData} {d' : PyData → Option β} {e' : β → PyData} (h : DecOk d e) (h' : DecOk d' e') : DecOk (toP2 d d') (eP2 e e') := fun x a q => by
  unfold toP2 at q; split at q
  · rename_i y z
    cases e1 : d y with
    | none => rw [e1] at q; cases q
    | some b =>
      cases e2 : d' z with
      | none => rw [e1, e2] at q; cases q
      | some c => rw [e1, e2] at q; cases q; rw [h _ _ e1, h' _ _ e2]
  · cases q
/-! ### what can be compared -/
structure EqE [DecidableEq α] (e : α → PyData) (d : Nat) : Prop where
  lay : ∀ x, (e x).canLay0 = true
  dep : ∀ x, (e x).depth ≤ d
  eq : ∀ x y, PyData.eqv (e x) (e y) = decide (x = y)
theorem EqE.sh [DecidableEq α] {e : α → PyData} {d : Nat} (h : EqE e d) (hd : d ≤ 64 := by decide) (x : α) : SeqAt.shaped (e x) = true := by
  unfold SeqAt.shaped
  rw [h.lay, decide_eq_true (Nat.le_trans (h.dep x) hd)]
  rfl
theorem eqe_I : EqE PyData.int 0 := ⟨fun _ => rfl, fun _ => Nat.le_refl _, fun x y => rfl⟩
theorem eqvAll_map [DecidableEq α] {e : α → PyData} (h : ∀ x y, PyData.eqv (e x) (e y) = decide (x = y)) : ∀ xs ys : List α, PyData.eqvAll (xs.map e) (ys.map e) = decide (xs = ys)
  | [], [] => rfl
  | [], _ :: _ => rfl
  | _ :: _, [] => rfl
  | x :: xs, y :: ys => by
    rw [List.map_cons, List.map_cons, PyData.eqvAll, h, eqvAll_map h xs ys, ← Bool.decide_and]
    simp
theorem layAll_map {e : α → PyData} (h : ∀ x, (e x).canLay0 = true) : ∀ xs : List α, PyData.canLayAll0 (xs.map e) = true
  | [] => rfl
  | x :: xs => by rw [List.map_cons, PyData.canLayAll0, h, layAll_map h xs]; rfl
theorem depAll_map {e : α → PyData} {d : Nat} (h : ∀ x, (e x).depth ≤ d) : ∀ xs : List α, PyData.depthAll (xs.map e) ≤ d
  | [] => Nat.zero_le _
  | x :: xs => by rw [List.map_cons, PyData.depthAll]; exact Nat.max_le.mpr ⟨h x, depAll_map h xs⟩
theorem eqe_L [DecidableEq α] {e : α → PyData} {d : Nat} (h : EqE e d) : EqE (eL e) (d + 1) :=
  ⟨fun x => by rw [PyData.canLay0]; exact layAll_map h.lay x, fun x => by rw [PyData.depth]; have := depAll_map h.dep x; omega, fun x y => by rw [PyData.eqv]; exact eqvAll_map h.eq x y⟩
theorem eqe_P2 [DecidableEq α] [DecidableEq β] {e : α → PyData} {f : β → PyData} {d d' : Nat} (h : EqE e d) (h' : EqE f d') : EqE (eP2 e f) (max d d' + 1) :=
  ⟨fun x => by simp [PyData.canLay0, PyData.canLayAll0, h.lay, h'.lay], fun x => by simp only [PyData.depth, PyData.depthAll]; have := h.dep x.1; have := h'.dep x.2; omega, fun x y => by
    obtain ⟨a, b⟩ := x; obtain ⟨c, g⟩ := y
    simp [PyData.eqv, PyData.eqvAll, h.eq, h'.eq, Prod.ext_iff, Bool.decide_and]⟩
/-! ### reading, one by one -/
theorem rd_int {v : Val} {M : Mm} {i : Int} (r : RdAs v M (.int i)) : v = .d (.int i) := by
  rcases r with h | ⟨_, _, _, _, h⟩ | ⟨_, _, _, _, h⟩
  · exact h
  all_goals cases h
theorem rd_str {v : Val} {M : Mm} {i : Str} (r : RdAs v M (.str i)) : v = .d (.str i) := by
  rcases r with h | ⟨_, _, _, _, h⟩ | ⟨_, _, _, _, h⟩
  · exact h
  all_goals cases h
theorem rd_tup {v : Val} {M : Mm} {xs : List PyData} (r : RdAs v M (.tuple xs)) : v = .d (.tuple xs) := by
  rcases r with h | ⟨_, _, _, _, h⟩ | ⟨_, _, _, _, h⟩
  · exact h
  all_goals cases h
theorem rd_listD {v : Val} {M : Mm} {xs : List PyData} (r : RdAs v M (.list xs)) : listD v M = some xs ∧ seqD v M = some xs ∧ lenOf v M = some xs.length ∧ datum v M = some (.list xs) ∧ isDct v M = false ∧ trackD v M = some xs := by
  rcases r with h | ⟨j, ys, h, h2, h3⟩ | ⟨_, _, _, _, h⟩
  · subst h; exact ⟨rfl, rfl, rfl, rfl, rfl, rfl⟩
  · cases h3
    subst h
    have e1 : seqD (.obj j) M = some xs := seqD_obj h2
    refine ⟨e1, e1, ?_, ?_, ?_, e1⟩
    · show (match M[j]? with | some (.lst vs) => some vs.length | _ => none) = _
      rw [h2]
      show some ((xs.map Val.d).length) = _
      rw [List.length_map]
    · show (seqD (.obj j) M).map PyData.list = _
      rw [e1]; rfl
    · unfold isDct dctV
      dsimp only
      rw [h2]
      rfl
  · cases h
theorem rd_datum {v : Val} {M : Mm} {x : PyData} (r : RdAs v M x) (h : ∀ kvs, x ≠ .dict kvs) : datum v M = some x := by
  rcases r with rfl | ⟨j, ys, h1, h2, rfl⟩ | ⟨_, _, _, _, z⟩
  · rfl
  · exact (rd_listD (.inr (.inl ⟨j, ys, h1, h2, rfl⟩))).2.2.2.1
  · exact absurd z (h _)
theorem rd_dctV {v : Val} {M : Mm} {kvs : List (PyData × PyData)} (r : RdAs v M (.dict kvs)) : dctV v M = some (kvs.map fun p => (p.1, .d p.2)) := by
  rcases r with rfl | ⟨_, _, _, _, h⟩ | ⟨j, ys, rfl, h2, h3⟩
  · rfl
  · cases h
  · cases h3
    unfold dctV
    dsimp only
    rw [h2]
/-! ### operations -/
theorem o2_add (a b : Int) : Op2 vAdd (.int a) (.int b) (.int (a + b)) := fun v w M r1 r2 => by rw [rd_int r1, rd_int r2]; rfl
theorem o2_sub (a b : Int) : Op2 vSub (.int a) (.int b) (.int (a - b)) := fun v w M r1 r2 => by rw [rd_int r1, rd_int r2]; rfl
def mulO (a b : Int) : Option Int := if (smallI a || smallI b) = true then some (a * b) else none
def divO (a b : Int) : Option Int := if b ≠ 0 ∧ b.natAbs < 1073741824 then some (a.fdiv b) else none
def modO (a b : Int) : Option Int := if b ≠ 0 then some (a.fmod b) else none
def powO (a b : Int) : Option Int := if 0 ≤ b ∧ b ≤ 1000000 ∧ a.natAbs < 18446744073709551616 then some (a ^ b.toNat) else none
theorem o2_lt (a b : Int) : Op2 vLt (.int a) (.int b) (.bool (decide (a < b))) := fun v w M r1 r2 => by rw [rd_int r1, rd_int r2]; rfl
theorem o2_gt (a b : Int) : Op2 vGt (.int a) (.int b) (.bool (decide (b < a))) := fun v w M r1 r2 => by rw [rd_int r1, rd_int r2]; rfl
theorem o2_ge (a b : Int) : Op2 vGe (.int a) (.int b) (.bool (decide (b ≤ a))) := fun v w M r1 r2 => by rw [rd_int r1, rd_int r2]; rfl
/-- == -/
def eqO (x y : PyData) : Option Bool := match eqAtom x y with
  | some r => some r
  | none => if (SeqAt.shaped x && SeqAt.shaped y) = true then some (PyData.eqv x y) else none
theorem shaped_nodict {x : PyData} (h : SeqAt.shaped x = true) : ∀ kvs, x ≠ .dict kvs := fun kvs e => by subst e; cases h
theorem eqAtom_no {x y : PyData} {r : Bool} (h : eqAtom x y = some r) : (∀ kvs, x ≠ .dict kvs) ∧ (∀ kvs, x ≠ .list kvs) ∧ (∀ kvs, y ≠ .list kvs) ∧ ∀ kvs, y ≠ .dict kvs := by
  refine ⟨fun _ e => ?_, fun _ e => ?_, fun _ e => ?_, fun _ e => ?_⟩ <;> subst e
  · cases h
  · cases h
  · cases x <;> cases h
  · cases x <;> cases h
theorem rd_atom {v : Val} {M : Mm} {x : PyData} (r : RdAs v M x) (h1 : ∀ kvs, x ≠ .list kvs) (h2 : ∀ kvs, x ≠ .dict kvs) : v = .d x := by
  rcases r with rfl | ⟨_, _, _, _, z⟩ | ⟨_, _, _, _, z⟩
  · rfl
  · exact absurd z (h1 _)
  · exact absurd z (h2 _)
theorem eqOut_rd {neg : Bool} {v w : Val} {M : Mm} {x y : PyData} {r : Bool} (h : eqO x y = some r) (r1 : RdAs v M x) (r2 : RdAs w M y) : eqOut neg v w M = some (xor neg r) := by
  unfold eqO at h
  cases q : eqAtom x y with
  | some b =>
    rw [q] at h
    cases h
    obtain ⟨n1, n2, n3, n4⟩ := eqAtom_no q
    rw [rd_atom r1 n2 n1, rd_atom r2 n3 n4]
    show (match eqAtom x y with | some r => some (xor neg r) | none => _) = _
    rw [q]
  | none =>
    rw [q] at h
    dsimp only at h
    split at h
    · rename_i hs
      cases h
      have hs2 := hs
      rw [Bool.and_eq_true] at hs2
      have d1 := rd_datum r1 (shaped_nodict hs2.1)
      have d2 := rd_datum r2 (shaped_nodict hs2.2)
      have gen : (match datum v M, datum w M with
        | some a, some b => if (SeqAt.shaped a && SeqAt.shaped b) = true then some (xor neg (PyData.eqv a b)) else none
        | _, _ => none) = some (xor neg (PyData.eqv x y)) := by
        rw [d1, d2]
        dsimp only
        rw [if_pos hs]
      cases v with
      | d a =>
        cases d1
        cases w with
        | d b =>
          cases d2
          show (match eqAtom x y with | some r => some (xor neg r) | none => if (SeqAt.shaped x && SeqAt.shaped y) = true then some (xor neg (PyData.eqv x y)) else none) = _
          rw [q]
          dsimp only
          rw [if_pos hs]
        | obj _ => exact gen
        | scr _ => exact gen
        | fnc _ => exact gen
        | prO _ _ => exact gen
        | prF _ _ => exact gen
        | ri _ _ => exact gen
      | obj _ => exact gen
      | scr _ => exact gen
      | fnc _ => exact gen
      | prO _ _ => exact gen
      | prF _ _ => exact gen
      | ri _ _ => exact gen
    · cases h
theorem o2_eqD (x y : PyData) (r : Bool) (h : eqO x y = some r) : Op2 vEq x y (.bool r) := fun v w M r1 r2 => by
  unfold vEq
  rw [eqOut_rd h r1 r2, Bool.false_xor]
def neO (x y : PyData) : Option Bool := (eqO x y).map (!·)
theorem o2_neD (x y : PyData) (r : Bool) (h : neO x y = some r) : Op2 vNe x y (.bool r) := fun v w M r1 r2 => by
  unfold neO at h
  cases q : eqO x y with
  | none => rw [q] at h; cases h
  | some b =>
    rw [q] at h
    cases h
    unfold vNe
    rw [eqOut_rd q r1 r2, Bool.true_xor]
theorem eqO_E [DecidableEq α] {e : α → PyData} {d : Nat} (h : EqE e d) (hd : d ≤ 64 := by decide) (a b : α) : eqO (e a) (e b) = some (decide (a = b)) := by
  unfold eqO
  rw [h.sh hd, h.sh hd]
  cases q : eqAtom (e a) (e b) with
  | none => rw [← h.eq]; rfl
  | some r =>
    have := h.eq a b
    dsimp only
    rw [← this]
    unfold eqAtom at q
    split at q <;> first | (cases q; done) | (rename_i h1 h2; cases q; rw [h1, h2]; rfl)
theorem o2_eqI (a b : Int) : Op2 vEq (.int a) (.int b) (.bool (decide (a = b))) := o2_eqD _ _ _ rfl
theorem o2_neI (a b : Int) : Op2 vNe (.int a) (.int b) (.bool (!decide (a = b))) := o2_neD _ _ _ rfl
theorem o2_neS (a b : Str) : Op2 vNe (.str a) (.str b) (.bool (!decide (a = b))) := o2_neD _ _ _ rfl
theorem o2_eqE [DecidableEq α] {e : α → PyData} {d : Nat} (h : EqE e d) (hd : d ≤ 64 := by decide) (a b : α) : Op2 vEq (e a) (e b) (.bool (decide (a = b))) := o2_eqD _ _ _ (eqO_E h hd a b)
theorem o2_neE [DecidableEq α] {e : α → PyData} {d : Nat} (h : EqE e d) (hd : d ≤ 64 := by decide) (a b : α) : Op2 vNe (e a) (e b) (.bool (!decide (a = b))) := o2_neD _ _ _ (by unfold neO; rw [eqO_E h hd a b]; rfl)
end Zm
namespace Zm
open PySem PySem.Spec PyProof.Rows L2
open WM (pu bd)
open LO (lf)
variable {𝔅 : Bas} {μ : Type → Type} [LO μ] {α β γ δ τ ρ σ φ ψ κ : Type} {Γ Γx : Cs}
/-! ### in -/
def inO (neg : Bool) (x : PyData) (ys : List PyData) : Option Bool := if (SeqAt.shaped x && PyData.canLayAll0 ys) = true then some (xor neg (ys.any fun z => PyData.eqv z x)) else none
theorem o2_inD {neg : Bool} (x : PyData) (ys : List PyData) (r : Bool) (h : inO neg x ys = some r) : Op2 (vInX neg) x (.list ys) (.bool r) := fun v w M r1 r2 => by
  unfold inO at h
  split at h
  · rename_i hs
    cases h
    have hs2 := hs
    rw [Bool.and_eq_true] at hs2
    have l := rd_listD r2
    unfold vInX
    rw [if_neg (by rw [l.2.2.2.2.1]; decide)]
    unfold vIn
    rw [rd_datum r1 (shaped_nodict hs2.1), l.2.1]
    dsimp only
    rw [if_pos hs]
  · cases h
theorem o2_inDT {neg : Bool} (x : PyData) (ys : List PyData) (r : Bool) (h : inO neg x ys = some r) : Op2 (vInX neg) x (.tuple ys) (.bool r) := fun v w M r1 r2 => by
  unfold inO at h
  split at h
  · rename_i hs
    cases h
    have hs2 := hs
    rw [Bool.and_eq_true] at hs2
    have l := rd_tup r2
    subst l
    show (if isDct (.d (.tuple ys)) M = true then vDIn neg v (.d (.tuple ys)) M else vIn neg v (.d (.tuple ys)) M) = _
    rw [if_neg (show ¬ isDct (.d (.tuple ys)) M = true from fun z => by cases z)]
    unfold vIn
    rw [rd_datum r1 (shaped_nodict hs2.1)]
    show (if (SeqAt.shaped x && PyData.canLayAll0 ys) = true then _ else _) = _
    rw [if_pos hs]
  · cases h
def mem [DecidableEq α] (x : α) (xs : List α) : Bool := decide (x ∈ xs)
theorem inO_E [DecidableEq α] {e : α → PyData} {d : Nat} (h : EqE e d) (hd : d ≤ 64 := by decide) (neg : Bool) (x : α) (xs : List α) : inO neg (e x) (xs.map e) = some (xor neg (mem x xs)) := by
  unfold inO
  rw [h.sh hd, layAll_map h.lay]
  show some _ = some _
  congr 2
  unfold mem
  induction xs with
  | nil => rfl
  | cons y ys ih =>
    rw [List.map_cons, List.any_cons, ih, h.eq, ← Bool.decide_or]
    by_cases e : y = x
    · subst e; simp
    · have : ¬ x = y := fun z => e z.symm
      simp [e, this]
theorem o2_in [DecidableEq α] {e : α → PyData} {d : Nat} (h : EqE e d) (hd : d ≤ 64 := by decide) (x : α) (xs : List α) : Op2 (vInX false) (e x) (eL e xs) (.bool (mem x xs)) := o2_inD _ _ _ (by rw [inO_E h hd, Bool.false_xor])
theorem o2_ni [DecidableEq α] {e : α → PyData} {d : Nat} (h : EqE e d) (hd : d ≤ 64 := by decide) (x : α) (xs : List α) : Op2 (vInX true) (e x) (eL e xs) (.bool (!mem x xs)) := o2_inD _ _ _ (by rw [inO_E h hd, Bool.true_xor])
theorem o2_niT [DecidableEq α] {e : α → PyData} {d : Nat} (h : EqE e d) (hd : d ≤ 64 := by decide) (x : α) (xs : List α) : Op2 (vInX true) (e x) (eT e xs) (.bool (!mem x xs)) := o2_inDT _ _ _ (by rw [inO_E h hd, Bool.true_xor])
theorem o2_inK [DecidableEq κ] {ek : κ → PyData} {ev : α → PyData} (K : KeyE ek) (x : κ) (kvs : List (κ × α)) : Op2 (vInX false) (ek x) (eK ek ev kvs) (.bool (dget kvs x).isSome) := fun v w M r1 r2 => by
  have hk := K.kv x
  have d := rd_dctV r2
  have hv : v = .d (ek x) := rd_atom r1 (fun _ e => by rw [e] at hk; cases hk) fun _ e => by rw [e] at hk; cases hk
  subst hv
  unfold vInX isDct
  rw [d]
  show vDIn false (.d (ek x)) w M = _
  unfold vDIn
  rw [K.kv, d]
  dsimp only
  rw [find_eKs K, Bool.false_xor]
  cases dget kvs x <;> rfl
theorem o2_niK [DecidableEq κ] {ek : κ → PyData} {ev : α → PyData} (K : KeyE ek) (x : κ) (kvs : List (κ × α)) : Op2 (vInX true) (ek x) (eK ek ev kvs) (.bool (!(dget kvs x).isSome)) := fun v w M r1 r2 => by
  have hk := K.kv x
  have d := rd_dctV r2
  have hv : v = .d (ek x) := rd_atom r1 (fun _ e => by rw [e] at hk; cases hk) fun _ e => by rw [e] at hk; cases hk
  subst hv
  unfold vInX isDct
  rw [d]
  show vDIn true (.d (ek x)) w M = _
  unfold vDIn
  rw [K.kv, d]
  dsimp only
  rw [find_eKs K, Bool.true_xor]
  cases dget kvs x <;> rfl
/-! ### [] -/
def ixO (xs : List α) (i : Int) : Option α := atI xs i
theorem atI_map (e : α → PyData) (xs : List α) (i : Int) : atI (xs.map e) i = (atI xs i).map e := by
  unfold atI
  rw [List.length_map]
  cases ixN xs.length i with
  | none => rfl
  | some j => exact List.getElem?_map
theorem o2_ixL {e : α → PyData} (xs : List α) (i : Int) (c : α) (h : ixO xs i = some c) : Op2 vIxX (eL e xs) (.int i) (e c) := fun v w M r1 r2 => by
  have l := rd_listD r1
  have ha : atI (xs.map e) i = some (e c) := by rw [atI_map]; unfold ixO at h; rw [h]; rfl
  rw [rd_int r2]
  unfold vIxX
  rw [if_neg (by rw [l.2.2.2.2.1]; decide)]
  rcases r1 with rfl | ⟨j, ys, rfl, h2, h3⟩ | ⟨_, _, _, _, z⟩
  · show (match atI (xs.map e) i with | some d => Out.ok (Val.d d) M | none => .bad) = _
    rw [ha]
  · cases h3
    show (match M[j]? with
    | some (.lst vs) => match atI vs i with
      | some v => Out.ok (rd v M) M
      | none => .bad
    | _ => .bad) = _
    rw [h2]
    dsimp only
    have : atI ((xs.map e).map Val.d) i = some (.d (e c)) := by
      unfold atI at ha ⊢
      rw [List.length_map]
      cases q : ixN (xs.map e).length i with
      | none => rw [q] at ha; cases ha
      | some j =>
        rw [q] at ha
        show ((xs.map e).map Val.d)[j]? = _
        rw [List.getElem?_map, show (xs.map e)[j]? = some (e c) from ha]
        rfl
    rw [this]
    rfl
  · cases z
theorem o2_ixT {e : α → PyData} (xs : List α) (i : Int) (c : α) (h : ixO xs i = some c) : Op2 vIxX (eT e xs) (.int i) (e c) := fun v w M r1 r2 => by
  have ha : atI (xs.map e) i = some (e c) := by rw [atI_map]; unfold ixO at h; rw [h]; rfl
  rw [rd_int r2, rd_tup r1]
  show (match atI (xs.map e) i with | some d => Out.ok (Val.d d) M | none => .bad) = _
  rw [ha]
/-- a datum at an index -/
def ixD (x : PyData) (i : Int) : Option PyData := match x with
  | .list ds => atI ds i
  | .tuple ds => atI ds i
  | _ => none
theorem o2_ixD (x : PyData) (i : Int) (c : PyData) (h : ixD x i = some c) : Op2 vIxX x (.int i) c := fun v w M r1 r2 => by
  unfold ixD at h
  split at h
  · rename_i ds
    have := o2_ixL (e := eD) ds i c h v w M (by rw [show eL eD ds = .list ds by show PyData.list (ds.map id) = _; rw [List.map_id]]; exact r1) r2
    exact this
  · rename_i ds
    have := o2_ixT (e := eD) ds i c h v w M (by rw [show eT eD ds = .tuple ds by show PyData.tuple (ds.map id) = _; rw [List.map_id]]; exact r1) r2
    exact this
  · cases h
theorem o2_ixP (xs : List PyData) (i : Nat) (c : PyData) (h : xs[i]? = some c) : Op2 vIxX (.tuple xs) (.int (i : Nat)) c := o2_ixD _ _ _ (atI_at h)
def strAt (x : Str) (i : Int) : Option Str := if fitsL x.length = true then (atI x.cps.toList i).map fun c => ⟨#[c]⟩ else none
theorem o2_ixK [DecidableEq κ] {ek : κ → PyData} {ev : α → PyData} (K : KeyE ek) (kvs : List (κ × α)) (x : κ) (c : α) (h : dget kvs x = some c) : Op2 vIxX (eK ek ev kvs) (ek x) (ev c) := fun v w M r1 r2 => by
  have hk := K.kv x
  have d := rd_dctV r1
  have hv : w = .d (ek x) := rd_atom r2 (fun _ e => by rw [e] at hk; cases hk) fun _ e => by rw [e] at hk; cases hk
  subst hv
  unfold vIxX isDct
  rw [d]
  show vDIx v (.d (ek x)) M = _
  unfold vDIx
  rw [K.kv, d]
  dsimp only
  rw [find_eKs K, h]
  rfl
/-! ### slices, lengths, kinds -/
structure JN (𝔅 : Bas) (Γ : Cs) (m : OM) (f : μ (Option Int)) : Prop where
  run : ∀ (Q : Res (Option Int) → Nat → Prop) (L P : Ps) (β : 𝔅.T) (M : Mm), WM.run f (𝔅.bud β) Q → L.cs = Γ → Sat (L ++ P) (𝔅.mem β) M →
    WpE (m L.sl M) (fun w M' => ∃ (β' : 𝔅.T), Q (.ok w) (𝔅.bud β') ∧ Sat (L ++ P) (𝔅.mem β') M') (ErE 𝔅 L P fun e => ∃ b, Q (.er e) b)
theorem jn_none : JN (μ := μ) 𝔅 Γ oNone (pu none) := ⟨fun Q L P β M r hL S => ⟨β, WM.run_pu r, S⟩⟩
theorem jn_some {m : EM} {f : μ Int} (h : JX 𝔅 Γ m f fun i => .v (.int i)) : JN 𝔅 Γ (oSome m) (bd f fun i => pu (some i)) :=
  ⟨fun Q L P β M r hL S => WpE.bind ((jx_at h _ L P β M (WM.run_bd r) hL S).mono (fun w M' ⟨a, β', q, e, S'⟩ => by
    rw [e]
    exact ⟨β', WM.run_pu q, S'⟩) fun _ _ h => h)⟩
theorem jx_sliceT {m : EM} {l h : OM} {f : μ α} {fl fh : μ (Option Int)} {x : α → PyData} {y : γ → PyData} (g : α → Option Int → Option Int → γ) (hm : JO 𝔅 Γ m f x) (hl : JN 𝔅 Γ l fl) (hh : JN 𝔅 Γ h fh) (op : ∀ a lo hi v M, RdAs v M (x a) → vSl v lo hi M = .ok (.d (y (g a lo hi))) M) :
    JX 𝔅 Γ (mSl m l h) (bd f fun a => bd fl fun lo => bd fh fun hi => pu (g a lo hi)) fun r => .v (y r) :=
  ⟨fun Q L P β M r hL S => WpE.bind ((hm.run _ L P β M (WM.run_bd r) hL S).mono (fun w M1 ⟨a, β1, q1, S1, d⟩ => WpE.bind ((hl.run _ L P β1 M1 (WM.run_bd q1) hL S1).mono (fun lo M2 ⟨β2, q2, S2⟩ => WpE.bind ((hh.run _ L P β2 M2 (WM.run_bd q2) hL S2).mono (fun hi M3 ⟨β3, q3, S3⟩ => by
    rw [op a lo hi w M3 (d.at_ S3)]
    exact ⟨_, β3, WM.run_pu q3, app1 (S3.push rfl rfl)⟩) fun _ _ h => h)) fun _ _ h => h)) fun _ _ h => h)⟩
theorem cutL_map (e : α → β) (xs : List α) (lo hi : Option Int) : cutL (xs.map e) lo hi = (cutL xs lo hi).map e := by
  unfold cutL
  rw [List.length_map, ← List.map_drop, ← List.map_take]
theorem sl_L {e : α → PyData} (xs : List α) (lo hi : Option Int) (v : Val) (M : Mm) (r : RdAs v M (eL e xs)) : vSl v lo hi M = .ok (.d (eL e (cutL xs lo hi))) M := by
  have l := rd_listD r
  show _ = Out.ok (Val.d (.list ((cutL xs lo hi).map e))) M
  rw [← cutL_map]
  have gen : (match listD v M with
    | some ds => Out.ok (Val.d (.list (cutL ds lo hi))) M
    | none => .bad) = .ok (.d (.list (cutL (xs.map e) lo hi))) M := by rw [l.1]
  rcases r with rfl | ⟨j, ys, rfl, _, _⟩ | ⟨_, _, _, _, z⟩
  · exact gen
  · exact gen
  · cases z
def slS (x : Str) (lo hi : Option Int) : Option Str := if fitsL x.length = true then some (cutS x lo hi) else none
def slD (x : PyData) (lo hi : Option Int) : Option PyData := match x with
  | .list ds => some (.list (cutL ds lo hi))
  | .tuple ds => some (.tuple (cutL ds lo hi))
  | .str z => (slS z lo hi).map .str
  | _ => none
theorem cz_lenL {e : α → PyData} (xs : List α) (v : Val) (M : Mm) (r : RdAs v M (eL e xs)) : vLen [v] M = .ok (.d (.int (xs.length : Int))) M := by
  show (match lenOf v M with | some n => Out.ok (Val.d (.int n)) M | none => .bad) = _
  rw [(rd_listD r).2.2.1, List.length_map]
theorem cz_lenT {e : α → PyData} (xs : List α) (v : Val) (M : Mm) (r : RdAs v M (eT e xs)) : vLen [v] M = .ok (.d (.int (xs.length : Int))) M := by
  rw [rd_tup r]
  show Out.ok (Val.d (.int ((xs.map e).length : Int))) M = _
  rw [List.length_map]
def lenD (x : PyData) : Option Int := match x with
  | .list ds => some ds.length
  | .tuple ds => some ds.length
  | .str z => if fitsL z.length = true then some z.length else none
  | _ => none
theorem cz_lenD (x : PyData) (n : Int) (v : Val) (M : Mm) (h : lenD x = some n) (r : RdAs v M x) : vLen [v] M = .ok (.d (.int n)) M := by
  unfold lenD at h
  split at h
  · rename_i ds
    cases h
    show (match lenOf v M with | some n => Out.ok (Val.d (.int n)) M | none => .bad) = _
    rw [(rd_listD r).2.2.1]
  · cases h; rw [rd_tup r]; rfl
  · rename_i z
    split at h
    · rename_i hf
      cases h
      rw [rd_str r]
      show (match (if fitsL z.length then some z.length else none) with | some n => Out.ok (Val.d (.int n)) M | none => .bad) = _
      rw [if_pos hf]
    · cases h
  · cases h
theorem cz_tupL {e : α → PyData} (xs : List α) (v : Val) (M : Mm) (r : RdAs v M (eL e xs)) : vTuple [v] M = .ok (.d (eT e xs)) M := by
  show (match seqD v M with | some ds => Out.ok (Val.d (.tuple ds)) M | none => .bad) = _
  rw [(rd_listD r).2.1]
def seqO (x : PyData) : Option (List PyData) := match x with
  | .list ds => some ds
  | .tuple ds => some ds
  | _ => none
theorem listD_rdL {xs : List PyData} {v : Val} {M : Mm} (r : RdAs v M (.list xs)) : listD v M = some xs := (rd_listD r).1
theorem cz_sortI (xs : List Int) (v : Val) (M : Mm) (r : RdAs v M (eL PyData.int xs)) : vSortX [v] M = .ok (.d (eL PyData.int (sortI xs))) M := z_sortX (listD_rdL r) (sortD_i xs)
theorem cz_sortP (xs : List (Int × Int)) (v : Val) (M : Mm) (r : RdAs v M (eL (eP2 PyData.int PyData.int) xs)) : vSortX [v] M = .ok (.d (eL (eP2 PyData.int PyData.int) (sortP xs))) M := z_sortX (listD_rdL r) (sortD_p xs)
def sortO (xs : List PyData) : Option (List PyData) := match sortD xs with
  | some es => some es
  | none => match headW xs with
    | some z => (allT z xs).map fun ps => (sortP ps).map (triD z)
    | none => none
def reprO (x : PyData) : Option Str := if (x.showable && fitsL x.shown.length && decide (x.depth ≤ 64)) = true then some x.shown else none
theorem cz_reprD (x : PyData) (s : Str) (M : Mm) (h : reprO x = some s) : vRepr [.d x] M = .ok (.d (.str s)) M := by
  unfold reprO at h
  split at h
  · rename_i hs
    cases h
    show (if (x.showable && fitsL x.shown.length && decide (x.depth ≤ 64)) = true then _ else _) = _
    rw [if_pos hs]
  · cases h
/-- the kind of a datum -/
def tyD : PyData → String
  | .none => "NoneType"
  | .bool _ => "bool"
  | .int _ => "int"
  | .str _ => "str"
  | .list _ => "list"
  | .tuple _ => "tuple"
  | .dict _ => "dict"
def isD (T : String) (x : PyData) : Bool := isT (tyD x) T
theorem jx_isI {T : String} {m : EM} {f : μ α} {x : α → PyData} (h : JX 𝔅 Γ m f fun a => .v (x a)) : JX 𝔅 Γ (mIsI T m) (bd f fun a => pu (isD T (x a))) fun b => .v (.bool b) :=
  ⟨fun Q L P β M r hL S => WpE.bind ((jx_at h _ L P β M (WM.run_bd r) hL S).mono (fun w M' ⟨a, β', q, e, S'⟩ => by
    rw [e]
    have ht : tyNm (.d (x a)) M' = some (tyD (x a)) := by cases x a <;> rfl
    show WpE (match tyNm (.d (x a)) M' with | some n => Out.ok (Val.d (.bool (isT n T))) M' | none => .bad) _ _
    rw [ht]
    exact ⟨_, β', WM.run_pu q, app1 (S'.push rfl rfl)⟩) fun _ _ h => h)⟩
def isNd : PyData → Bool
  | .none => true
  | _ => false
/-! ### displays -/
theorem jx_tup {ms : AM} {f : μ α} {xs : α → List PyData} (h : JA 𝔅 Γ ms f fun a => (xs a).map .v) (hn : ∀ a, (xs a).length ≤ 1000 := by intro _; exact Nat.le_of_ble_eq_true rfl) : JX 𝔅 Γ (mTup ms) f fun a => .v (.tuple (xs a)) :=
  ⟨fun Q L P β M r hL S => WpE.bind ((h.run _ L P β M r hL S).mono (fun vs M1 ⟨a, β1, q1, hl, S1⟩ => by
    rw [List.length_map] at hl
    have e := sat_ds hl S1
    rw [e, z_allDm]
    show WpE (if fitsL (xs a).length = true then _ else _) _ _
    rw [if_pos (fits_le (Nat.le_trans (hn a) (by decide)))]
    exact ⟨a, β1, q1, app1 ((sat_left S1).push rfl rfl)⟩) fun _ _ h => h)⟩
theorem jx_lst {ms : AM} {f : μ α} {xs : α → List PyData} (h : JA 𝔅 Γ ms f fun a => (xs a).map .v) (hn : ∀ a, (xs a).length ≤ 1000 := by intro _; exact Nat.le_of_ble_eq_true rfl) : JX 𝔅 Γ (mLst ms) f fun a => .v (.list (xs a)) :=
  ⟨fun Q L P β M r hL S => WpE.bind ((h.run _ L P β M r hL S).mono (fun vs M1 ⟨a, β1, q1, hl, S1⟩ => by
    rw [List.length_map] at hl
    have e := sat_ds hl S1
    rw [e, z_allDm]
    show WpE (if fitsL (xs a).length = true then _ else _) _ _
    rw [if_pos (fits_le (Nat.le_trans (hn a) (by decide)))]
    exact ⟨a, β1, q1, app1 ((sat_left S1).push rfl rfl)⟩) fun _ _ h => h)⟩
/-- a list of one's own -/
theorem jx_new {ms : AM} {f : μ α} {xs : α → List PyData} (h : JA 𝔅 Γ ms f fun a => (xs a).map .v) (hn : ∀ a, (xs a).length ≤ 1000 := by intro _; exact Nat.le_of_ble_eq_true rfl) : JX 𝔅 Γ (mNew ms) f fun a => .l (xs a) :=
  ⟨fun Q L P β M r hL S => WpE.bind ((h.run _ L P β M r hL S).mono (fun vs M1 ⟨a, β1, q1, hl, S1⟩ => by
    rw [List.length_map] at hl
    have e := sat_ds hl S1
    rw [e]
    show WpE (if fitsL ((xs a).map Val.d).length = true then _ else _) _ _
    rw [if_pos (fits_le (by rw [List.length_map]; exact Nat.le_trans (hn a) (by decide)))]
    exact ⟨a, β1, q1, app1 ((sat_left S1).grow below_lst ⟨_, rfl, by simp⟩)⟩) fun _ _ h => h)⟩
theorem jx_dctN : JX (μ := μ) 𝔅 Γ mDctN (pu ()) fun _ => .k [] :=
  ⟨fun Q L P β M r hL S => ⟨(), β, WM.run_pu r, app1 (S.grow rfl ⟨_, rfl, by simp⟩)⟩⟩
/-- list(x), to be one's own -/
theorem jx_listN {m : EM} {f : μ (List α)} {e : α → PyData} {x : List α → PyData} (h : JO 𝔅 Γ m f x) (hx : ∀ a, x a = eL e a ∨ x a = eT e a) : JX 𝔅 Γ (mB vListN (mCons m mNil)) f fun a => .l (a.map e) :=
  ⟨fun Q L P β M r hL S => WpE.bind (WpE.bind ((h.run _ L P β M r hL S).mono (fun v M1 ⟨a, β1, q1, S1, d⟩ => by
    have hs : seqD v M1 = some (a.map e) := by
      have d := d.at_ S1
      rcases hx a with z | z
      · rw [z] at d; exact (rd_listD d).2.1
      · rw [z] at d; rw [rd_tup d]; rfl
    show WpE (match seqD v M1 with
      | some ds => Out.ok (Val.obj M1.length) (M1 ++ [.lst (ds.map .d)])
      | none => .bad) _ _
    rw [hs]
    exact ⟨a, β1, q1, app1 (S1.grow below_lst ⟨_, rfl, by simp⟩)⟩) fun _ _ h => h))⟩
/-- list(range(n)), list(range(a, b)) -/
def rgO (a b : Int) : Option (List Int) := if okR a = true ∧ okR b = true then some (ran a b) else none
def rg1 (b : Int) : Option (List Int) := if okR b = true then some (ran 0 b) else none
theorem ranD_ran (a b : Int) : ranD a b = (ran a b).map .int := by unfold ranD ran; rw [List.map_map]; rfl
theorem jx_lr1 {m : EM} {f : μ Int} (h : JX 𝔅 Γ m f fun a => .v (.int a)) : JX 𝔅 Γ (mLR1 m) (bd f fun a => lf (rg1 a)) fun a => .v (eL PyData.int a) :=
  ⟨fun Q L P β M r hL S => WpE.bind ((jx_at h _ L P β M (WM.run_bd r) hL S).mono (fun w M' ⟨a, β', q, e, S'⟩ => by
    obtain ⟨c, hc, q2⟩ := LO.run_lf q
    unfold rg1 at hc
    split at hc
    · rename_i hk
      cases hc
      rw [e]
      show WpE (if okR a = true then _ else _) _ _
      rw [if_pos hk, ranD_ran]
      exact ⟨_, β', q2, app1 (S'.push rfl rfl)⟩
    · cases hc) fun _ _ h => h)⟩
/-! ### get -/
end Zm
namespace Zm
open PySem PySem.Spec PyProof.Rows L2
open WM (pu bd)
open LO (lf)
variable {𝔅 : Bas} {μ : Type → Type} [LO μ] {α β γ δ τ ρ σ φ ψ κ : Type} {Γ Γx : Cs}
/-! ### short words of the printed proofs -/
def mask : List Bool → Cs → Cs
  | b :: bs, s :: Γ => (if b = true then s else .n) :: mask bs Γ
  | [], Γ => Γ
  | _, [] => []
theorem wk_mask : ∀ (bs : List Bool) (Γ : Cs), Wk Γ (mask bs Γ)
  | [], _ => .refl
  | true :: bs, _ :: Γ => .keep (wk_mask bs Γ)
  | false :: bs, _ :: Γ => .drop (wk_mask bs Γ)
  | _ :: _, [] => .nil
theorem wkm {Δ : Cs} (bs : List Bool) (h : mask bs Γ = Δ) : Wk Γ Δ := h ▸ wk_mask bs Γ
/-! ### shorter forms -/
theorem lf_puo {μ : Type → Type} [LO μ] {α : Type} (a : α) : lf (pu (μ := Option) a) = pu (μ := μ) a := LO.lf_some
theorem lf_pu {μ : Type → Type} [LO μ] {α : Type} (a : α) : lf (some a) = pu (μ := μ) a := LO.lf_some
theorem cmpM_pu (p : τ → Bool) (g : τ → γ) : ∀ xs : List τ, cmpM (μ := μ) (fun x => pu (p x)) (fun x => pu (g x)) xs = pu ((xs.filter p).map g)
  | [] => rfl
  | x :: xs => by
    unfold cmpM
    rw [WM.pu_bd, cmpM_pu p g xs, List.filter_cons]
    cases p x with
    | true => rw [if_pos rfl, if_pos rfl, WM.pu_bd, WM.pu_bd, List.map_cons]
    | false => rw [if_neg (by decide), if_neg (by decide)]
theorem comp_pu {fi : μ (List τ)} (p : τ → Bool) (g : τ → γ) : (bd fi fun xs => bd (cmpM (fun x => pu (p x)) (fun x => pu (g x)) xs) fun r => lf (lim r)) = bd fi fun xs => lf (lim ((xs.filter p).map g)) := by
  congr 1
  funext xs
  rw [cmpM_pu, WM.pu_bd]
theorem comp_pu1 {fi : μ (List τ)} (g : τ → γ) : (bd fi fun xs => bd (cmpM (fun _ => pu true) (fun x => pu (g x)) xs) fun r => lf (lim r)) = bd fi fun xs => lf (lim (xs.map g)) := by
  rw [comp_pu (fun _ => true) g]
  congr 1
  funext xs
  rw [List.filter_eq_self.mpr fun _ _ => rfl]
theorem jt_yes : JT (μ := μ) 𝔅 Γ mYes (pu true) := ⟨fun Q L P β M r hL S => ⟨β, WM.run_pu r, S⟩⟩
theorem jx_proj {a : EM} {fa : μ α} {ys : α → List PyData} {xa : α → PyData} {y : γ → PyData} (i : Nat) (g : α → γ) (ha : JO 𝔅 Γ a fa xa) (hx : ∀ p, xa p = .tuple (ys p)) (hy : ∀ p, (ys p)[i]? = some (y (g p))) : JX 𝔅 Γ (mOp vIxX a (mC (.int (i : Nat)))) (bd fa fun p => pu (g p)) fun r => .v (y r) :=
  ⟨fun Q L P β M r hL S => WpE.bind ((ha.run _ L P β M (WM.run_bd r) hL S).mono (fun v M1 ⟨p, β1, q1, S1, d1⟩ => by
    have d := d1.at_ S1
    rw [hx] at d
    show WpE (vIxX v (.d (.int (i : Nat))) M1) _ _
    rw [o2_ixP _ _ _ (hy p) v (.d (.int (i : Nat))) M1 d (.inl rfl)]
    exact ⟨g p, β1, WM.run_pu q1, app1 (S1.push rfl rfl)⟩) fun _ _ h => h)⟩
theorem jx_repr {m : EM} {f : μ α} {x : α → PyData} (h : JX 𝔅 Γ m f fun a => .v (x a)) : JX 𝔅 Γ (mB vRepr (mCons m mNil)) (bd f fun a => lf (reprO (x a))) fun r => .v (.str r) :=
  ⟨fun Q L P β M r hL S => WpE.bind (WpE.bind ((jx_at h _ L P β M (WM.run_bd r) hL S).mono (fun w M1 ⟨a, β1, q1, e, S1⟩ => by
    obtain ⟨c, hc, q2⟩ := LO.run_lf q1
    rw [e]
    show WpE (vRepr [.d (x a)] M1) _ _
    rw [cz_reprD _ c M1 hc]
    exact ⟨c, β1, q2, app1 (S1.push rfl rfl)⟩) fun _ _ h => h))⟩
def catO (xs ys : List α) : Option (List α) := if xs.length + ys.length ≤ 16777216 then some (xs ++ ys) else none
theorem o2_catL {e : α → PyData} (xs ys zs : List α) (h : catO xs ys = some zs) : Op2 vAdd (eL e xs) (eL e ys) (eL e zs) := fun v w M r1 r2 => by
  unfold catO at h
  split at h
  · rename_i hl
    cases h
    have t1 := (rd_listD r1).2.2.2.2.2
    have t2 := (rd_listD r2).2.2.2.2.2
    have gen : (match trackD v M, trackD w M with
      | some a, some b => if fitsL (a.length + b.length) then Out.ok (Val.d (.list (a ++ b))) M else .bad
      | _, _ => .bad) = .ok (.d (eL e (xs ++ ys))) M := by
      rw [t1, t2]
      dsimp only
      rw [if_pos (fits_le (by rw [List.length_map, List.length_map]; exact hl)), ← List.map_append]
    rcases r1 with rfl | ⟨_, _, rfl, _, _⟩ | ⟨_, _, _, _, z⟩
    · rcases r2 with rfl | ⟨_, _, rfl, _, _⟩ | ⟨_, _, _, _, z⟩
      · exact gen
      · exact gen
      · cases z
    · exact gen
    · cases z
  · cases h
theorem o2_catT {e : α → PyData} (xs ys zs : List α) (h : catO xs ys = some zs) : Op2 vAdd (eT e xs) (eT e ys) (eT e zs) := fun v w M r1 r2 => by
  unfold catO at h
  split at h
  · rename_i hl
    cases h
    rw [rd_tup r1, rd_tup r2, z_addt' (by rw [List.length_map, List.length_map]; exact hl), ← List.map_append]
  · cases h
def catS (x y : Str) : Option Str := if fitsL (x.length + y.length) = true then some (x ++ y) else none
theorem map_coe {e : α → PyData} {e' : γ → PyData} {c : α → γ} (h : ∀ x, e x = e' (c x)) (xs : List α) : xs.map e = (xs.map c).map e' := by
  rw [List.map_map]
  exact List.map_congr_left fun x _ => h x
theorem coe_T {e : α → PyData} {e' : γ → PyData} {c : α → γ} (h : ∀ x, e x = e' (c x)) (xs : List α) : eT e xs = eT e' (xs.map c) := congrArg PyData.tuple (map_coe h xs)
def tp2 (xs : List α) : Option (α × α) := match xs with
  | [a, b] => some (a, b)
  | _ => none
/-! ### d[a], d[b], .. = x, y, .. -/
def gPuts (i : Nat) : List EM → GMs
  | [] => gsNil
  | mk :: r => gsCons (gSet (mVar i) mk vSetX) (gPuts i r)
inductive KeysE (𝔅 : Bas) (Γ : Cs) (i : Nat) (ek : κ → PyData) : List EM → List κ → Prop where
  | nil : KeysE 𝔅 Γ i ek [] []
  | cons {mk : EM} {k : κ} {mks : List EM} {ks : List κ} : (∀ z, JX (μ := Option) 𝔅 (Γ.set i (.k z)) mk (pu k) fun k => .v (ek k)) → KeysE 𝔅 Γ i ek mks ks → KeysE 𝔅 Γ i ek (mk :: mks) (k :: ks)
def dputs [DecidableEq κ] : List (κ × α) → List (κ × α) → Option (List (κ × α))
  | kvs, [] => some kvs
  | kvs, p :: r => (dputO kvs p.1 p.2).bind fun z => dputs z r
theorem and_pu (a b : Bool) : (if a = true then pu (μ := μ) b else pu false) = pu (a && b) := by cases a <;> rfl
theorem or_pu (a b : Bool) : (if a = true then pu (μ := μ) true else pu b) = pu (a || b) := by cases a <;> rfl
/-! ### defs -/
theorem sat_start {B M : Mm} {Γ0 : Cs} {sl : Sl} (hl : Γ0.length = sl.length) (h : ∀ (i : Nat) (s : Sp) (w : Option Val), Γ0[i]? = some s → sl[i]? = some w → SpOk M s w ∧ s.own = false) (hp : ∃ R, M = B ++ R) (hc : M.all (MO.below M.length) = true) :
    ∃ L : Ps, L.sl = sl ∧ L.cs = Γ0 ∧ Sat L B M := by
  have at_ : ∀ p ∈ Γ0.zip sl, SpOk M p.1 p.2 ∧ p.1.own = false := fun p hp => by
    obtain ⟨i, hi⟩ := List.getElem?_of_mem hp
    rw [List.getElem?_zip_eq_some] at hi
    exact h i p.1 p.2 hi.1 hi.2
  refine ⟨Γ0.zip sl, List.map_snd_zip (by omega), List.map_fst_zip (by omega), ⟨fun p hp => (at_ p hp).1, fun i i' p q j _ h1 _ o1 _ _ _ => ?_, fun p hp j o _ => ?_, hp, hc⟩⟩
  · rw [(at_ p (List.mem_of_getElem? h1)).2] at o1; cases o1
  · rw [(at_ p hp).2] at o; cases o
theorem start_vs {M : Mm} {xs : List PyData} {k : Nat} : ∀ (i : Nat) (s : Sp) (w : Option Val), (xs.map Sp.v ++ List.replicate k Sp.n)[i]? = some s → ((xs.map Val.d).map some ++ List.replicate k none)[i]? = some w → SpOk M s w ∧ s.own = false := by
  induction xs with
  | nil =>
    intro i s w h1 h2
    simp only [List.map_nil, List.nil_append, List.getElem?_replicate] at h1 h2
    split at h1
    · cases h1; exact ⟨trivial, rfl⟩
    · cases h1
  | cons x xs ih =>
    intro i s w h1 h2
    cases i with
    | zero =>
      simp only [List.map_cons, List.cons_append, List.getElem?_cons_zero] at h1 h2
      cases h1; cases h2
      exact ⟨rfl, rfl⟩
    | succ i => exact ih i s w h1 h2
theorem out_kr {y : ρ → PyData} {a : ρ} {o : SO} {β' : 𝔅.T} (k : Kr 𝔅 y a o β') : ∃ R, o.out = .ok (.d (y a)) (𝔅.mem β' ++ R) := by
  rcases k with ⟨M', e, R, h⟩ | ⟨h0, s, M', e, R, h⟩
  · exact ⟨R, by rw [e, h]; rfl⟩
  · exact ⟨R, by rw [e, h, h0]; rfl⟩
theorem fnP_of {n : Nat} {b : SM} {f : α → Option ρ} {xs : α → List PyData} {y : ρ → PyData} (Γ0 : α → Cs) (h : ∀ a M (hM : M.all (MO.below M.length) = true), JS (μ := Option) (Bas.cn M hM) (Γ0 a) Γx b (f a) (Kr _ y))
    (hΓ : ∀ a, Γ0 a = (xs a).map .v ++ List.replicate (n - (xs a).length) .n := by intro _; rfl) : FnP (trim (body n b)) f xs y := by
  intro a r M hf hM
  obtain ⟨L, e1, e2, S⟩ := sat_start (B := M) (M := M) (Γ0 := Γ0 a) (sl := slots0 n ((xs a).map Val.d)) (by rw [hΓ]; unfold slots0; simp) (fun i s w h1 h2 => by
    rw [hΓ] at h1
    unfold slots0 at h2
    rw [List.length_map] at h2
    exact start_vs i s w h1 h2) ⟨[], by simp⟩ hM
  rcases (h a M hM).run (fun x _ => match x with | .ok r' => r' = r | .er _ => False) L () M ⟨r, hf, rfl⟩ e2 S with ⟨r', β', q, k⟩ | ⟨e, _, _, _, ⟨_, q⟩, _⟩
  · cases q
    obtain ⟨R, ho⟩ := out_kr k
    refine z_trimc (M1 := M) (R := R) ?_ rfl hM
    rw [z_body, ← e1, ho]
    rfl
  · exact q.elim
/-! ### the deck of the laws -/
def DkD : Deck := ⟨Dk, fun q => q.mem [], 2, fun _ => rfl, fun q => dk_below (by decide), fun q j x e => by
  match j with
  | 0 => cases e
  | 1 => cases e
  | n + 2 => cases e⟩
def drawD (m : Int) : Dm Int := fun Q => (0 < m ∧ m < 1073741824) ∧ ∀ r, 0 ≤ r → r < m → Q r
def pickD (xs : List α) : Dm α := fun Q => (0 < xs.length ∧ xs.length < 1073741824) ∧ ∀ x ∈ xs, Q x
def mixD (e : α → PyData) (xs : List α) : Dm (List α) := fun Q => (Lay (xs.map e) ∧ xs.length ≤ 1000) ∧ ∀ ys, ys.Perm xs → Q ys
end Zm
namespace Zm
open PySem PySem.Spec PyProof.Rows L2
open WM (pu bd)
open LO (lf)
variable {𝔅 : Bas} {μ : Type → Type} [LO μ] {α β γ δ τ ρ σ φ ψ κ : Type} {Γ Γx : Cs}
/-! ### expressions that change a list of one's own -/
structure JX2 (𝔅 : Bas) (Γ : Cs) (m : EM) (f : μ α) (sp : α → Sp) (Γ' : α → Cs) : Prop where
  run : ∀ (Q : Res α → Nat → Prop) (L : Ps) (β : 𝔅.T) (M : Mm), WM.run f (𝔅.bud β) Q → L.cs = Γ → Sat L (𝔅.mem β) M →
    WpE (m L.sl M) (fun w M' => ∃ (a : α) (β' : 𝔅.T) (L' : Ps), Q (.ok a) (𝔅.bud β') ∧ L'.sl = L.sl ∧ L'.cs = Γ' a ∧ Sat (L' ++ [(sp a, some w)]) (𝔅.mem β') M') (ErE 𝔅 L [] fun e => ∃ b, Q (.er e) b)
def popO (xs : List α) (k : Int) : Option (α × List α) := if -9223372036854775808 ≤ k ∧ k < 9223372036854775808 then match seqIndex? k xs.length with
  | some j => match xs[j]? with
    | some x => some (x, xs.eraseIdx j)
    | none => none
  | none => none else none
def popL (xs : List α) : Option (α × List α) := match xs[xs.length - 1]? with
  | some x => some (x, xs.dropLast)
  | none => none
theorem map_eraseIdx' (e : α → β) (xs : List α) (j : Nat) : (xs.map e).eraseIdx j = (xs.eraseIdx j).map e := by
  induction xs generalizing j with
  | nil => rfl
  | cons x xs ih =>
    cases j with
    | zero => rfl
    | succ j => simp [ih]
theorem jx_pop {i : Nat} {e : EM} {f : μ Int} {y : α → PyData} (xs : List α) (h : JX 𝔅 Γ e f fun k => .v (.int k)) (hi : Γ[i]? = some (.l (xs.map y))) :
    JX2 𝔅 Γ (mM "list" vPop (mVar i) (mCons e mNil)) (bd f fun k => lf (popO xs k)) (fun p => .v (y p.1)) (fun p => Γ.set i (.l (p.2.map y))) :=
  ⟨fun Q L β M r hL S => by
    obtain ⟨j, h1, h2⟩ := own_at S (by rw [hL]; exact hi)
    have hs : mM "list" vPop (mVar i) (mCons e mNil) L.sl M = (e L.sl M).bind fun w M2 => vPop (.obj j) [w] M2 := by
      show ((mVar i L.sl M).bind fun v M1 => if tyOk "list" v M1 = true then _ else _) = _
      rw [mVar_at h1 rfl, rd_lst h2]
      show (if tyOk "list" (.obj j) M = true then ((e L.sl M).bind fun x M1 => Out.ok [x] M1).bind fun vs M2 => vPop (.obj j) vs M2 else _) = _
      rw [if_pos (ty_lst h2)]
      cases e L.sl M <;> rfl
    rw [hs]
    refine WpE.bind ((jx_at h _ L [] β M (WM.run_bd r) hL (by rw [List.append_nil]; exact S)).mono (fun w M' ⟨k, β1, q1, ew, S1⟩ => ?_) fun _ _ h => h)
    rw [List.append_nil] at S1
    obtain ⟨p, hp, q2⟩ := LO.run_lf q1
    unfold popO at hp
    split at hp
    · rename_i hk
      cases e1 : seqIndex? k xs.length with
      | none => rw [e1] at hp; cases hp
      | some n =>
        rw [e1] at hp
        dsimp only at hp
        cases e2 : xs[n]? with
        | none => rw [e2] at hp; cases hp
        | some x =>
          rw [e2] at hp
          cases hp
          obtain ⟨j', k1, k2⟩ := own_at S1 (by rw [hL]; exact hi)
          rw [h1] at k1
          cases k1
          have k3 := (List.getElem?_eq_some_iff.mp k2).1
          obtain ⟨L2, g1, g2, S2⟩ := write_at (sp' := .l ((xs.eraseIdx n).map y)) (u := .lst (((xs.eraseIdx n).map y).map Val.d)) S1 h1 rfl below_lst ⟨j, rfl, by rw [List.getElem?_set_self k3]⟩
          have hv : vPop (.obj j) [.d (.int k)] M' = .ok (.d (y x)) (M'.set j (.lst (((xs.eraseIdx n).map y).map Val.d))) := by
            show (match M'[j]? with
              | some (.lst us) => if -9223372036854775808 ≤ k ∧ k < 9223372036854775808 then match seqIndex? k us.length with
                | some j' => match us[j']? with
                  | some w => Out.ok (rd w M') (M'.set j (.lst (us.eraseIdx j')))
                  | none => .bad
                | none => .bad else .bad
              | _ => .bad) = _
            rw [k2]
            dsimp only
            rw [if_pos hk, List.length_map, List.length_map, e1]
            dsimp only
            rw [List.getElem?_map, List.getElem?_map, e2, map_eraseIdx', map_eraseIdx']
            rfl
          rw [ew, hv]
          exact ⟨(x, xs.eraseIdx n), β1, L2, q2, g1, by rw [g2, hL], S2.push rfl rfl⟩
    · cases hp⟩
theorem jx_pop0 {i : Nat} {y : α → PyData} (xs : List α) (hi : Γ[i]? = some (.l (xs.map y))) :
    JX2 (μ := μ) 𝔅 Γ (mM "list" vPop (mVar i) mNil) (lf (popL xs)) (fun p => .v (y p.1)) (fun p => Γ.set i (.l (p.2.map y))) :=
  ⟨fun Q L β M r hL S => by
    obtain ⟨j, h1, h2⟩ := own_at S (by rw [hL]; exact hi)
    have hs : mM "list" vPop (mVar i) mNil L.sl M = vPop (.obj j) [] M := by
      show ((mVar i L.sl M).bind fun v M1 => if tyOk "list" v M1 = true then _ else _) = _
      rw [mVar_at h1 rfl, rd_lst h2]
      show (if tyOk "list" (.obj j) M = true then _ else _) = _
      rw [if_pos (ty_lst h2)]
      rfl
    rw [hs]
    obtain ⟨p, hp, q2⟩ := LO.run_lf r
    unfold popL at hp
    cases e2 : xs[xs.length - 1]? with
    | none => rw [e2] at hp; cases hp
    | some x =>
      rw [e2] at hp
      cases hp
      have k3 := (List.getElem?_eq_some_iff.mp h2).1
      obtain ⟨L2, g1, g2, S2⟩ := write_at (sp' := .l (xs.dropLast.map y)) (u := .lst ((xs.dropLast.map y).map Val.d)) S h1 rfl below_lst ⟨j, rfl, by rw [List.getElem?_set_self k3]⟩
      have hv : vPop (.obj j) [] M = .ok (.d (y x)) (M.set j (.lst ((xs.dropLast.map y).map Val.d))) := by
        show (match M[j]? with
          | some (.lst us) => match us[us.length - 1]? with
            | some w => Out.ok (rd w M) (M.set j (.lst us.dropLast))
            | none => .bad
          | _ => .bad) = _
        rw [h2]
        dsimp only
        rw [List.length_map, List.length_map, List.getElem?_map, List.getElem?_map, e2, List.map_dropLast, List.map_dropLast]
        rfl
      rw [hv]
      exact ⟨(x, xs.dropLast), β, L2, q2, g1, by rw [g2, hL], S2.push rfl rfl⟩⟩
theorem jx2_top {m : EM} {f : μ α} {sp : α → Sp} {Γ' : α → Cs} (h : JX2 𝔅 Γ m f sp Γ') (x : XO μ Γ Γx) {Q : Res α → Nat → Prop} {L : Ps} {β : 𝔅.T} {M : Mm} (r : WM.run f (𝔅.bud β) Q) (hL : L.cs = Γ) (S : Sat L (𝔅.mem β) M) :
    (∃ a β' w M' L', Q (.ok a) (𝔅.bud β') ∧ m L.sl M = .ok w M' ∧ L'.sl = L.sl ∧ L'.cs = Γ' a ∧ Sat (L' ++ [(sp a, some w)]) (𝔅.mem β') M') ∨ ∃ e M' β' L', (∃ b, Q (.er e) b) ∧ m L.sl M = .er e M' ∧ L'.sl = L.sl ∧ L'.cs = Γx ∧ Sat L' (𝔅.mem β') M' := by
  rcases x with hn | w
  · have := h.run _ L β M (NE.ne r) hL S
    cases em : m L.sl M with
    | ok w M' =>
      rw [em] at this
      obtain ⟨a, β', L', q, e1, e2, S'⟩ := this
      exact .inl ⟨a, β', w, M', L', q, rfl, e1, e2, S'⟩
    | er e M' => rw [em] at this; exact this.1.elim fun _ z => z.elim
    | bad => rw [em] at this; exact this.elim
  · have := h.run Q L β M r hL S
    cases em : m L.sl M with
    | ok w M' =>
      rw [em] at this
      obtain ⟨a, β', L', q, e1, e2, S'⟩ := this
      exact .inl ⟨a, β', w, M', L', q, rfl, e1, e2, S'⟩
    | er e M' =>
      rw [em] at this
      obtain ⟨q, β', S'⟩ := this
      rw [List.append_nil] at S'
      obtain ⟨L', e1, e2, S2⟩ := sat_weak S' (by rw [hL]; exact w)
      exact .inr ⟨e, M', β', L', q, rfl, e1, e2, S2⟩
    | bad => rw [em] at this; exact this.elim
theorem js_asg2 {i : Nat} {m : EM} {f : μ α} {sp : α → Sp} {Γ' : α → Cs} (h : JX2 𝔅 Γ m f sp Γ') (x : XO μ Γ Γx) : JS 𝔅 Γ Γx (sAsg m (gN i)) f (Kn 𝔅 fun a => (Γ' a).set i (sp a)) :=
  ⟨fun Q L β M r hL S => by
    rcases jx2_top h x r hL S with ⟨a, β', w, M', L1, q, e, e1, e2, S'⟩ | ⟨e, M', β', L', q, em, e1, e2, S2⟩
    · have S2 : Sat (L1.set i (sp a, some w) ++ []) (𝔅.mem β') M' := Sat.set S' i
      rw [List.append_nil] at S2
      exact .inl ⟨a, β', q, L1.set i (sp a, some w), M', by show (m L.sl M).asg L.sl (gN i) = _; rw [e, set_sl, e1]; rfl, by rw [set_cs, e2], S2⟩
    · exact .inr ⟨e, L', M', β', q, by show (m L.sl M).asg L.sl (gN i) = _; rw [em, e1]; rfl, e2, S2⟩⟩
/-- got.append(rest.pop(..)) -/
theorem js_append2 {i : Nat} {e : EM} {f : μ α} {g : α → γ} {Γ' : α → Cs} {y : γ → PyData} (xs : List γ) (h : JX2 𝔅 Γ e f (fun a => .v (y (g a))) Γ') (hi : Γ[i]? = some (.l (xs.map y))) (hi2 : ∀ a, (Γ' a)[i]? = some (.l (xs.map y))) (x : XO μ Γ Γx) :
    JS 𝔅 Γ Γx (sDrop (mM "list" vAppend (mVar i) (mCons e mNil))) (bd f fun a => bd (lf (psh xs (g a))) fun z => pu (z, a)) (Kn 𝔅 fun z => (Γ' z.2).set i (.l (z.1.map y))) :=
  ⟨fun Q L β M r hL S => by
    obtain ⟨j, h1, h2⟩ := own_at S (by rw [hL]; exact hi)
    have hs : sDrop (mM "list" vAppend (mVar i) (mCons e mNil)) L.sl M = (e L.sl M).bindS L.sl fun w M2 => (vAppend (.obj j) [w] M2).bindS L.sl fun _ M3 => .nx L.sl M3 := by
      show ((mVar i L.sl M).bind fun v M1 => if tyOk "list" v M1 = true then _ else _).bindS _ _ = _
      rw [mVar_at h1 rfl, rd_lst h2]
      show (if tyOk "list" (.obj j) M = true then ((e L.sl M).bind fun x M1 => Out.ok [x] M1).bind fun vs M2 => vAppend (.obj j) vs M2 else _).bindS _ _ = _
      rw [if_pos (ty_lst h2)]
      cases e L.sl M <;> rfl
    rw [hs]
    rcases jx2_top h x (WM.run_bd r) hL S with ⟨a, β', w, M', L1, q, em, f1, f2, S'⟩ | ⟨e, M', β', L', q, em, e1, e2, S2⟩
    · have s : some w = some (Val.d (y (g a))) := S'.ok (.v (y (g a)), some w) (by simp)
      cases s
      obtain ⟨zs, hz, q2⟩ := LO.run_lf (WM.run_bd q)
      unfold psh at hz
      split at hz
      · rename_i hl
        cases hz
        obtain ⟨j', k1, k2⟩ := own_at S'.left (by rw [f2]; exact hi2 a)
        have hj : j' = j := by
          have a1 : L1.sl[i]? = some (some (.obj j')) := by rw [List.getElem?_map, k1]; rfl
          have a2 : L.sl[i]? = some (some (.obj j)) := by rw [List.getElem?_map, h1]; rfl
          rw [f1, a2] at a1
          cases a1
          rfl
        subst hj
        have k3 := (List.getElem?_eq_some_iff.mp k2).1
        obtain ⟨L2, e1, e2, S2⟩ := write_at (sp' := .l ((xs ++ [g a]).map y)) (u := .lst (((xs ++ [g a]).map y).map Val.d)) S'.left k1 rfl below_lst ⟨_, rfl, by rw [List.getElem?_set_self k3]⟩
        refine .inl ⟨(xs ++ [g a], a), β', WM.run_pu q2, L2, _, ?_, by rw [e2, f2], S2⟩
        rw [em]
        show (vAppend (.obj j') [.d (y (g a))] M').bindS L.sl _ = _
        have ha : vAppend (.obj j') [.d (y (g a))] M' = .ok (.d .none) (M'.set j' (.lst (((xs ++ [g a]).map y).map Val.d))) := by
          show (match M'[j']? with
            | some (.lst us) => if us.length < 16777216 then Out.ok (Val.d .none) (M'.set j' (.lst (us ++ [Val.d (y (g a))]))) else .bad
            | _ => .bad) = _
          rw [k2]
          show (if ((xs.map y).map Val.d).length < 16777216 then _ else _) = _
          rw [if_pos (by rw [List.length_map, List.length_map]; exact hl), List.map_append, List.map_append]
          rfl
        rw [ha, e1, f1]
        rfl
      · cases hz
    · exact .inr ⟨e, L', M', β', q, by rw [em, e1]; rfl, e2, S2⟩⟩
/-! ### while -/
def tnE (g : σ → μ φ) (b : σ → μ φ) (r : ρ → μ φ) : Tn σ ρ → μ φ
  | .go s => g s
  | .br s => b s
  | .rt x => r x
def whM (c : σ → μ Bool) (b : σ → μ (Tn σ ρ)) : Nat → σ → μ (Fi σ ρ)
  | 0, _ => lf none
  | n + 1, s => bd (c s) fun k => if k = true then bd (b s) (tnE (fun s' => whM c b n s') (fun s' => pu (.dn s')) fun r => pu (.rt r)) else pu (.dn s)
class WH (μ : Type → Type) extends LO μ where
  wh : {α : Type} → (Nat → μ α) → μ α
  run_wh : ∀ {α : Type} {F : Nat → μ α} {b : Nat} {Q : Res α → Nat → Prop}, run (wh F) b Q → ∃ n, run (F n) b Q
open Classical in
noncomputable instance : WH Option where
  wh F := if h : ∃ n, F n ≠ none then F (Classical.choose h) else none
  run_wh := fun {_ F _ Q} r => by
    by_cases h : ∃ n, F n ≠ none
    · rw [dif_pos h] at r; exact ⟨_, r⟩
    · rw [dif_neg h] at r
      obtain ⟨a, e, _⟩ := r
      cases e
instance : WH Dm where
  wh F := fun Q => ∃ n, F n Q
  run_wh := id
instance : WH DE where
  wh F := fun Q => ∃ n, F n Q
  run_wh := id
end Zm
namespace Zm
open PySem PySem.Spec PyProof.Rows L2
open WM (pu bd)
open LO (lf)
variable {𝔅 : Bas} {μ : Type → Type} [WH μ] {α β γ δ τ ρ σ φ ψ κ : Type} {Γ Γx : Cs}
theorem whM_run {c : TM} {b : SM} {Γσ : σ → Cs} {y : ρ → PyData} {fc : σ → μ Bool} {fb : σ → μ (Tn σ ρ)} (hc : ∀ st, JT 𝔅 (Γσ st) c (fc st)) (hx : ∀ st, XO μ (Γσ st) Γx) (hb : ∀ st, JS 𝔅 (Γσ st) Γx b (fb st) (Ks 𝔅 Γσ y)) :
    ∀ (n : Nat) (st : σ) (Q : Res (Fi σ ρ) → Nat → Prop) (L : Ps) (β : 𝔅.T) (M : Mm), WM.run (whM fc fb n st) (𝔅.bud β) Q → L.cs = Γσ st → Sat L (𝔅.mem β) M →
      (∃ a β', Q (.ok a) (𝔅.bud β') ∧ Kf 𝔅 Γσ y a (whN c b n L.sl M) β') ∨ ErS 𝔅 Γx (fun e => ∃ b, Q (.er e) b) (whN c b n L.sl M)
  | 0, st, Q, L, β, M, r, hL, S => by
    obtain ⟨a, h, _⟩ := LO.run_lf r
    cases h
  | n + 1, st, Q, L, β, M, r, hL, S => by
    have hw : ∀ k M', c L.sl M = .ok k M' → whN c b (n + 1) L.sl M = if k = true then (match b L.sl M' with
        | .nx s2 M2 => whN c b n s2 M2
        | .ct s2 M2 => whN c b n s2 M2
        | .bk s2 M2 => .nx s2 M2
        | o => o) else .nx L.sl M' := fun k M' e => by
      show (c L.sl M).bindS L.sl _ = _
      rw [e]
      rfl
    rcases jt_top (hc st) (hx st) (WM.run_bd r) hL S with ⟨k, β1, M1, q1, e1, S1⟩ | ⟨e, M', β', L', q, em, e1, e2, S2⟩
    · rw [hw k M1 e1]
      dsimp only at q1
      cases k with
      | false => exact .inl ⟨.dn st, β1, WM.run_pu q1, L, M1, rfl, hL, S1⟩
      | true =>
        rw [if_pos rfl] at q1 ⊢
        rcases (hb st).run _ L β1 M1 (WM.run_bd q1) hL S1 with ⟨a, β', q, k⟩ | ⟨e, L', M', β', q, eb, c', S'⟩
        · dsimp only at q
          rcases k with k | ⟨s', rfl, L', M', eb, c', S'⟩
          · cases a with
            | go s' =>
              obtain ⟨L', M', eb, c', S'⟩ := k
              rw [eb]
              exact whM_run hc hx hb n s' Q L' β' M' q c' S'
            | br s' =>
              obtain ⟨L', M', eb, c', S'⟩ := k
              rw [eb]
              exact .inl ⟨.dn s', β', WM.run_pu q, L', M', rfl, c', S'⟩
            | rt r' =>
              obtain ⟨M', eb, hp⟩ := k
              rw [eb]
              exact .inl ⟨.rt r', β', WM.run_pu q, M', rfl, hp⟩
          · rw [eb]
            exact whM_run hc hx hb n s' Q L' β' M' q c' S'
        · rw [eb]
          exact .inr ⟨e, L', M', β', q, rfl, c', S'⟩
    · exact .inr ⟨e, L', M', β', q, by show (c L.sl M).bindS L.sl _ = _; rw [em, e1]; rfl, e2, S2⟩
theorem js_while {c : TM} {b : SM} {Γσ : σ → Cs} {y : ρ → PyData} {fc : σ → μ Bool} {fb : σ → μ (Tn σ ρ)} (st : σ) (hc : ∀ st, JT 𝔅 (Γσ st) c (fc st)) (hx : ∀ st, XO μ (Γσ st) Γx) (w : Wk Γ (Γσ st)) (hb : ∀ st, JS 𝔅 (Γσ st) Γx b (fb st) (Ks 𝔅 Γσ y)) :
    JS 𝔅 Γ Γx (sWhile c b) (WH.wh fun n => whM fc fb n st) (Kf 𝔅 Γσ y) :=
  ⟨fun Q L β M r hL S => by
    obtain ⟨n, r⟩ := WH.run_wh r
    obtain ⟨L', e1, c1, S1⟩ := sat_weak S (by rw [hL]; exact w)
    have := whM_run hc hx hb n st Q L' β M r c1 S1
    rw [e1] at this
    have hs : sWhile c b L.sl M = whN c b n L.sl M := sWhile_of rfl (by
      intro z
      rw [z] at this
      rcases this with ⟨a, β', _, k⟩ | ⟨_, _, _, _, _, h, _⟩
      · cases a with
        | dn s => obtain ⟨_, _, h, _⟩ := k; cases h
        | rt r => obtain ⟨_, h, _⟩ := k; cases h
      · cases h)
    rw [hs]
    exact this⟩
end Zm
namespace Zm
open PySem PySem.Spec PyProof.Rows L2
open WM (pu bd)
open LO (lf)
variable {α β γ δ τ ρ σ φ ψ κ : Type}
theorem jo_of {𝔅 : Bas} {μ : Type → Type} [LO μ] {Γ : Cs} {m : EM} {f : μ α} {x : α → PyData} (h : JX 𝔅 Γ m f fun a => .v (x a)) : JO 𝔅 Γ m f x := JX.ro h
/-! ### the deck, by the wider words -/
section
variable {q : Dk} {rest : Mm}
theorem z_ixXl {M : Mm} {i : Int} {ds : List PyData} {x : PyData} (h : atI ds i = some x) : vIxX (.d (.list ds)) (.d (.int i)) M = .ok (.d x) M := by
  show (match atI ds i with | some d => Out.ok (Val.d d) M | none => .bad) = _
  rw [h]
end
/-! ### a drawn row -/
/-- what _law_mixed reckons -/
noncomputable def mixP (e : α → PyData) (xs : List α) : Dm (List α) :=
  bd (pu (xs, ([] : List α), ())) fun a => bd (WH.wh fun n => whM (fun st : List α × List α => lf (neO (eL e st.1) (eL e []))) (fun st : List α × List α => bd (bd (bd (drawD (st.1.length : Int)) fun k => lf (popO st.1 k)) fun p => bd (lf (psh st.2 p.1)) fun z => pu (z, p)) fun z => pu (Tn.go (z.2.2, z.1))) n (a.1, a.2.1))
    (fiE (fun st => pu st.2) fun r : List α => pu r)
theorem perm_erase' : ∀ {l : List α} {n : Nat} {x : α}, l[n]? = some x → (x :: l.eraseIdx n).Perm l
  | [], n, x, h => by simp at h
  | y :: l, 0, x, h => by simp at h; subst h; exact .refl _
  | y :: l, n + 1, x, h => by
    have ih := perm_erase' (l := l) (n := n) (x := x) (by simpa using h)
    exact (List.Perm.swap y x _).trans (ih.cons y)
theorem neO_nil {e : α → PyData} {xs : List α} (h : Lay (xs.map e)) : neO (eL e xs) (eL e []) = some (!xs.isEmpty) := by
  unfold neO eqO
  have hs : SeqAt.shaped (eL e xs) = true := h.shaped
  cases xs with
  | nil => rfl
  | cons x xs =>
    show Option.map _ (match eqAtom (.list (e x :: xs.map e)) (.list []) with
      | some r => some r
      | none => if (SeqAt.shaped (eL e (x :: xs)) && SeqAt.shaped (.list [])) = true then some _ else none) = _
    rw [hs]
    rfl
theorem seqIndex_in {k : Int} {n : Nat} (h0 : 0 ≤ k) (hn : k < n) : seqIndex? k n = some k.toNat := by
  unfold seqIndex?
  simp only [if_neg (show ¬ k < 0 by omega)]
  rw [if_pos (by rw [Bool.and_eq_true, decide_eq_true_eq, decide_eq_true_eq]; omega)]
end Zm
/-! Plain words about the printed functions: how they are reckoned, loops by what stays so. -/
namespace Zm
open PySem PySem.Spec PyProof.Rows L2
open WM (pu bd)
open LO (lf)
variable {α β γ δ τ ρ σ φ ψ κ : Type}
/-! ### Option -/
theorem ev_bd {a : α} {f : α → Option β} : bd (μ := Option) (some a) f = f a := rfl
theorem ev_pu {a : α} : pu (μ := Option) a = some a := rfl
theorem ev_lf {x : Option α} : lf (μ := Option) x = x := rfl
/-- a loop that hands on s: what stays so, with what has been walked -/
theorem ev_forI {b : σ → τ → Option σ} (I : List τ → σ → Prop) (xs : List τ) (s : σ) (h0 : I [] s) (h : ∀ pre x post, xs = pre ++ x :: post → ∀ s, I pre s → ∃ s', b s x = some s' ∧ I (pre ++ [x]) s') : ∃ s', forM' b xs s = some s' ∧ I xs s' := by
  suffices H : ∀ post pre s, xs = pre ++ post → I pre s → ∃ s', forM' b post s = some s' ∧ I xs s' from H xs [] s rfl h0
  intro post
  induction post with
  | nil => intro pre s e hi; rw [List.append_nil] at e; subst e; exact ⟨s, rfl, hi⟩
  | cons x post ih =>
    intro pre s e hi
    obtain ⟨s', e1, hi'⟩ := h pre x post e s hi
    obtain ⟨s2, e2, hi2⟩ := ih (pre ++ [x]) s' (by rw [e, List.append_assoc]; rfl) hi'
    refine ⟨s2, ?_, hi2⟩
    show bd (b s x) _ = _
    rw [e1]
    exact e2
theorem ev_cmp {t : τ → Option Bool} {e : τ → Option γ} (p : τ → Bool) (g : τ → γ) : ∀ xs : List τ, (∀ x ∈ xs, t x = some (p x)) → (∀ x ∈ xs, p x = true → e x = some (g x)) → cmpM t e xs = some ((xs.filter p).map g)
  | [], _, _ => rfl
  | x :: xs, h1, h2 => by
    unfold cmpM
    rw [h1 x (List.mem_cons_self ..), ev_bd, ev_cmp p g xs (fun y hy => h1 y (List.mem_cons_of_mem _ hy)) fun y hy => h2 y (List.mem_cons_of_mem _ hy), List.filter_cons]
    cases hp : p x with
    | true =>
      rw [if_pos rfl, if_pos rfl, h2 x (List.mem_cons_self ..) hp]
      rfl
    | false => rw [if_neg (by decide), if_neg (by decide)]
theorem dput_mem [DecidableEq κ] {kvs : List (κ × α)} {k : κ} {v : α} {p : κ × α} (h : p ∈ dput kvs k v) : p ∈ kvs ∨ (p.1 = k ∧ p.2 = v) := by
  unfold dput at h
  split at h
  · obtain ⟨q, hq, e⟩ := List.mem_map.mp h
    split at e
    · rename_i hk
      subst e
      exact .inr ⟨hk, rfl⟩
    · subst e; exact .inl hq
  · rcases List.mem_append.mp h with h | h
    · exact .inl h
    · rw [List.mem_singleton.mp h]; exact .inr ⟨rfl, rfl⟩
theorem dput_len [DecidableEq κ] {kvs : List (κ × α)} {k : κ} {v : α} : (dput kvs k v).length ≤ kvs.length + 1 := by
  unfold dput
  split
  · rw [List.length_map]; omega
  · rw [List.length_append, List.length_singleton]; exact Nat.le_refl _
theorem dputO_ok [DecidableEq κ] {kvs : List (κ × α)} {k : κ} {v : α} (h : kvs.length < 16777216) : dputO kvs k v = some (dput kvs k v) := if_pos h
theorem dget_mem [DecidableEq κ] {kvs : List (κ × α)} {k : κ} {v : α} (h : dget kvs k = some v) : (k, v) ∈ kvs := by
  unfold dget at h
  cases q : kvs.find? fun p => decide (p.1 = k) with
  | none => rw [q] at h; cases h
  | some p =>
    rw [q] at h
    cases h
    have h1 := List.mem_of_find?_eq_some q
    have h2 := List.find?_some q
    rw [← of_decide_eq_true h2]
    exact h1
theorem lim_ok {xs : List α} (h : xs.length ≤ 16777216) : lim xs = some xs := if_pos h
theorem psh_ok {xs : List α} {a : α} (h : xs.length < 16777216) : psh xs a = some (xs ++ [a]) := if_pos h
theorem cat_ok {xs ys : List α} (h : xs.length + ys.length ≤ 16777216) : catO xs ys = some (xs ++ ys) := if_pos h
theorem ran1_ok {j : Int} (h1 : -4611686018427387904 ≤ j) (h2 : j < 4611686018427387904) : ran1 j = some (ran 0 j) := if_pos (smallR_lit h1 h2)
theorem rg1_ok {j : Int} (h1 : 0 ≤ j) (h2 : j ≤ 16777216) : rg1 j = some (ran 0 j) := if_pos (okR_le h1 h2)
theorem mem_ran {lo hi x : Int} : x ∈ ran lo hi ↔ lo ≤ x ∧ x < hi := by
  unfold ran
  rw [List.mem_map]
  constructor
  · rintro ⟨n, hn, rfl⟩
    have := List.mem_range.mp hn
    omega
  · rintro ⟨h1, h2⟩
    exact ⟨(x - lo).toNat, List.mem_range.mpr (by omega), by omega⟩
theorem len_ran {lo hi : Int} : (ran lo hi).length = (hi - lo).toNat := by unfold ran; simp
theorem nodup_ran (lo hi : Int) : (ran lo hi).Nodup := by
  unfold ran
  refine List.pairwise_map.mpr (List.Pairwise.imp ?_ List.nodup_range)
  intro i j h e
  have e : lo + (i : Int) = lo + (j : Int) := e
  exact h (by omega)
theorem ixO_nat {xs : List α} {i : Nat} : ixO xs (i : Int) = xs[i]? := by
  unfold ixO atI ixN
  by_cases h : i < xs.length
  · rw [if_pos (by omega), if_pos (by omega)]; rfl
  · rw [if_pos (by omega), if_neg (by omega)]
    exact (List.getElem?_eq_none_iff.mpr (by omega)).symm
theorem ixD_tup {xs : List PyData} {i : Nat} : ixD (.tuple xs) (i : Int) = xs[i]? := ixO_nat (xs := xs)
theorem enuF_len : ∀ (xs : List α) (n : Nat), (enuF n xs).length = xs.length
  | [], _ => rfl
  | x :: xs, n => by show (enuF (n + 1) xs).length + 1 = _; rw [enuF_len xs]; rfl
theorem enu_len (xs : List α) : (enu xs).length = xs.length := enuF_len xs 0
theorem enuF_get : ∀ (xs : List α) (n i : Nat), (enuF n xs)[i]? = (xs[i]?).map fun x => (((n + i : Nat) : Int), x)
  | [], _, _ => rfl
  | x :: xs, n, 0 => rfl
  | x :: xs, n, i + 1 => by
    show (enuF (n + 1) xs)[i]? = (xs[i]?).map _
    rw [enuF_get xs (n + 1) i, show n + 1 + i = n + (i + 1) by omega]
theorem mem_enu {xs : List α} {p : Int × α} : p ∈ enu xs ↔ ∃ i : Nat, p.1 = i ∧ xs[i]? = some p.2 := by
  rw [List.mem_iff_getElem?]
  constructor
  · rintro ⟨i, hi⟩
    unfold enu at hi
    rw [enuF_get] at hi
    cases q : xs[i]? with
    | none => rw [q] at hi; cases hi
    | some x =>
      rw [q] at hi
      cases hi
      exact ⟨i, by show ((0 + i : Nat) : Int) = i; rw [Nat.zero_add], q⟩
  · rintro ⟨i, h1, h2⟩
    refine ⟨i, ?_⟩
    unfold enu
    rw [enuF_get, h2]
    obtain ⟨a, b⟩ := p
    simp only [Option.map_some, Nat.zero_add]
    rw [show a = (i : Int) from h1]
/-! ### whatever is drawn -/
/-- how a turn, a loop may end -/
def tnP (I J : σ → Prop) (R : ρ → Prop) : Tn σ ρ → Prop
  | .go s => I s
  | .br s => J s
  | .rt r => R r
def fiP (I : σ → Prop) (R : ρ → Prop) : Fi σ ρ → Prop
  | .dn s => I s
  | .rt r => R r
end Zm
/-! Charts, boards, orders: the plain notions. -/
namespace Zm
open PySem PySem.Spec PyProof.Rows L2
open WM (pu bd)
open LO (lf)
abbrev ChartT := Int × List (Int × Int) × List Int
abbrev BoardT := ChartT × List (Int × Int)
def nbL (rps : List (Int × Int)) (f : Int) : List Int := sortI ((rps.filter fun y => mem f [y.1, y.2]).map fun y => y.1 + y.2 - f)
theorem mem_iff {α : Type} [DecidableEq α] {x : α} {xs : List α} : mem x xs = true ↔ x ∈ xs := decide_eq_true_iff
theorem mem_nbL {rps : List (Int × Int)} {f g : Int} : g ∈ nbL rps f ↔ (f, g) ∈ rps ∨ (g, f) ∈ rps := by
  unfold nbL
  rw [(sortI_perm _).mem_iff, List.mem_map]
  constructor
  · rintro ⟨y, hy, rfl⟩
    rw [List.mem_filter, mem_iff] at hy
    obtain ⟨a, b⟩ := y
    obtain ⟨h1, h2⟩ := hy
    simp only [List.mem_cons, List.not_mem_nil, or_false] at h2
    rcases h2 with rfl | rfl
    · exact .inl (by rw [show f + b - f = b by omega]; exact h1)
    · exact .inr (by rw [show a + f - f = a by omega]; exact h1)
  · rintro (h | h)
    · exact ⟨(f, g), List.mem_filter.mpr ⟨h, mem_iff.mpr (by simp)⟩, by show f + g - f = g; omega⟩
    · exact ⟨(g, f), List.mem_filter.mpr ⟨h, mem_iff.mpr (by simp)⟩, by show g + f - f = g; omega⟩
def ltP (a b : Int × Int) : Prop := a.1 < b.1 ∨ (a.1 = b.1 ∧ a.2 < b.2)
/-- a chart -/
structure GC (c : ChartT) : Prop where
  k1 : 1 ≤ c.1
  k2 : c.1 ≤ 24
  rd : ∀ p ∈ c.2.1, 0 ≤ p.1 ∧ p.1 < p.2 ∧ p.2 < c.1
  ra : c.2.1.Pairwise ltP
  rl : c.2.1.length ≤ 300
  cd : ∀ x ∈ c.2.2, 0 ≤ x ∧ x < c.1
  ca : c.2.2.Pairwise (· < ·)
  cl : c.2.2.length ≤ 24
/-- pieces on so many fields -/
structure GP (k : Int) (ps : List (Int × Int)) : Prop where
  pd : ∀ p ∈ ps, (0 ≤ p.1 ∧ p.1 < k) ∧ 0 ≤ p.2 ∧ p.2 < 6
  pa : ps.Pairwise fun a b => a.1 < b.1
  pl : ps.length ≤ 16
structure GB (b : BoardT) : Prop where
  c : GC b.1
  p : GP b.1.1 b.2
theorem GC.nb {c : ChartT} (h : GC c) {f g : Int} (hg : g ∈ nbL c.2.1 f) : (0 ≤ f ∧ f < c.1) ∧ (0 ≤ g ∧ g < c.1) ∧ f ≠ g := by
  have k := h.k1
  rcases mem_nbL.mp hg with h1 | h1
  · have := h.rd _ h1
    exact ⟨by omega, by omega, by omega⟩
  · have := h.rd _ h1
    exact ⟨by omega, by omega, by omega⟩
theorem sortI_asc {ns : List Int} (h : ns.Nodup) : (sortI ns).Pairwise (· < ·) := by
  have a := sortI_sorted ns
  have b : (sortI ns).Nodup := (sortI_perm ns).nodup_iff.mpr h
  exact (a.and b).imp fun h => by have h1 := h.1; have h2 := h.2; omega
/-! ### orders -/
inductive Od where
  | stay
  | go (g : Int)
  | back (f g : Int)
deriving DecidableEq
def oD : Od → PyData
  | .stay => .tuple [.str "stay"]
  | .go g => .tuple [.str "go", .int g]
  | .back f g => .tuple [.str "back", .int f, .int g]
/-- what a piece in the field s may be told -/
def OkO (b : BoardT) (s : Int) : Od → Prop
  | .stay => True
  | .go g => g ∈ nbL b.1.2.1 s
  | .back f g => f ≠ s ∧ (∃ p ∈ b.2, p.1 = f) ∧ g ∈ nbL b.1.2.1 s ∧ (g = f ∨ g ∈ nbL b.1.2.1 f)
/-- orders of a board -/
structure GO (b : BoardT) (os : List Od) : Prop where
  len : os.length = b.2.length
  ok : ∀ (i : Nat) (p : Int × Int) (o : Od), b.2[i]? = some p → os[i]? = some o → OkO b p.1 o
/-! ### the first piece in a field -/
def at? (ps : List (Int × Int)) (f : Int) : Option Nat := ps.findIdx? fun p => decide (p.1 = f)
theorem at_some {ps : List (Int × Int)} {f : Int} (h : ∃ p ∈ ps, p.1 = f) : ∃ i p, at? ps f = some i ∧ ps[i]? = some p ∧ p.1 = f := by
  obtain ⟨p, hp, e⟩ := h
  cases q : at? ps f with
  | none =>
    unfold at? at q
    rw [List.findIdx?_eq_none_iff] at q
    have := q p hp
    rw [decide_eq_true e] at this
    cases this
  | some i =>
    unfold at? at q
    rw [List.findIdx?_eq_some_iff_getElem] at q
    obtain ⟨h, h1, _⟩ := q
    exact ⟨i, ps[i], rfl, List.getElem?_eq_getElem h, of_decide_eq_true h1⟩
/-- the backs of a piece, as they are made -/
def bksL (rps : List (Int × Int)) (own : Int) (fs : List Int) : List (Int × Int) := fs.flatMap fun f => if f = own then [] else ((nbL rps own).filter fun g => decide (g = f) || mem g (nbL rps f)).map fun g => (f, g)
/-- all orders of the piece in the field s -/
def ordsL (b : BoardT) (s : Int) : List Od := .stay :: ((nbL b.1.2.1 s).map .go ++ (sortP (bksL b.1.2.1 s (b.2.map (·.1)))).map fun p => .back p.1 p.2)
/-! ### sizes, for repr -/
theorem reprO_ok {k w : Nat} {x : PyData} (h : Sz k w x) (hk : k ≤ 64 := by omega) (hw : w ≤ 399000 := by omega) : reprO x = some x.shown := by
  unfold reprO
  rw [h.sh, h.shown hk hw, decide_eq_true (Nat.le_trans h.dp hk)]
  rfl
theorem sz_map {α : Type} {e : α → PyData} {k w : Nat} {xs : List α} (h : ∀ x ∈ xs, Sz k w (e x)) : SzE k w (xs.map e) := fun y hy => by
  obtain ⟨x, hx, rfl⟩ := List.mem_map.mp hy
  exact h x hx
abbrev eChart : ChartT → PyData := eP3 PyData.int (eT (eP2 PyData.int PyData.int)) (eT PyData.int)
abbrev eBoard : BoardT → PyData := eP2 eChart (eT (eP2 PyData.int PyData.int))
/-- small orders -/
def SmO : Od → Prop
  | .stay => True
  | .go g => g.natAbs < 256
  | .back f g => f.natAbs < 256 ∧ g.natAbs < 256
theorem GO.set {b : BoardT} {os : List Od} (h : GO b os) {n : Nat} {p : Int × Int} {o : Od} (hp : b.2[n]? = some p) (ho : OkO b p.1 o) : GO b (os.set n o) := ⟨by rw [List.length_set]; exact h.len, fun i q o' hq ho' => by
  by_cases z : n = i
  · subst z
    rw [hp] at hq
    cases hq
    have hn : n < os.length := by rw [h.len]; exact (List.getElem?_eq_some_iff.mp hp).1
    rw [List.getElem?_set_self hn] at ho'
    cases ho'
    exact ho
  · rw [List.getElem?_set_ne z] at ho'
    exact h.ok i q o' hq ho'⟩
/-- whether a back of f to g fits an order -/
def fitB (f g : Int) (o : Od) : Bool := if g = f then (match o with | .go _ => false | _ => true) else decide (o = .go g)
end Zm
namespace Zm
open PySem PySem.Spec PyProof.Rows L2
open WM (pu bd)
open LO (lf)
section
variable {𝔅 : Bas} {μ : Type → Type} [LO μ] {α β γ δ τ ρ σ φ ψ κ : Type} {Γ Γx : Cs}
end
end Zm
/-! More of the walk: list.remove, dicts whose keys are tuples. -/
namespace Zm
open PySem PySem.Spec PyProof.Rows L2
section
variable {X : Cx} {W : WX} {K : PySem.W.Frag} {mg : Str → Option Value} {G : Gh} {H : Hp} {M : Mm}
/-! ### xs.remove(k), of ints -/
def intsV : List Val → Option (List Int)
  | [] => some []
  | .d (.int i) :: r => (intsV r).map (i :: ·)
  | _ => none
def vRem (v u : Val) (M : Mm) : Out Val := match v, u with
  | .obj i, .d (.int k) => match M[i]? with
    | some (.lst us) => match intsV us with
      | some ns => if k ∈ ns then .ok (.d .none) (M.set i (.lst ((ns.erase k).map fun n => .d (.int n)))) else .bad
      | none => .bad
    | _ => .bad
  | _, _ => .bad
def mRem (mo me : EM) : EM := fun s M => (mo s M).bind fun v M1 => if tyOk "list" v M1 = true then (me s M1).bind fun u M2 => vRem v u M2 else .bad
/-! ### dicts whose keys are tuples -/
def keysD : List PyData → Option (List Key)
  | [] => some []
  | .int i :: r => (keysD r).map (.inl i :: ·)
  | .str x :: r => (keysD r).map (.inr x :: ·)
  | _ => none
theorem rvs_keys : ∀ ks : List Key, RVs K G.F H (ks.map kV) (ks.map keyD)
  | [] => .nil
  | .inl i :: ks => .cons (.int i) (rvs_keys ks)
  | .inr x :: ks => .cons (.str x) (rvs_keys ks)
def keyT : Val → Option (List Key)
  | .d (.tuple ds) => keysD ds
  | _ => none
def putT (kvs : List (List Key × Val)) (k : List Key) (v : Val) : List (List Key × Val) := if kvs.any (fun p => decide (p.1 = k)) = true then kvs.map fun p => if p.1 = k then (p.1, v) else p else kvs ++ [(k, v)]
abbrev PTs (K : PySem.W.Frag) (mg : Str → Option Value) (G : Gh) (H : Hp) : List (List Key × V) → List (List Key × Val) → Prop := Paired fun y k => y.1 = k.1 ∧ RW K mg G H y.2 k.2
/-- {} at a place of its own, for keys that are tuples -/
def mDctT : EM := fun _ M => .ok (.obj M.length) (M ++ [.dcT []])
def vSetT : SetF := fun o i v M => match o, keyT i with
  | .obj j, some k => match M[j]? with
    | some (.dcT kvs) => if kvs.length < 16777216 then some (M.set j (.dcT (putT kvs k v))) else none
    | _ => none
  | _, _ => none
/-- list(d), of a dict whose keys are tuples -/
def vKeysT (vs : List Val) (M : Mm) : Out Val := match vs with
  | [.obj j] => match M[j]? with
    | some (.dcT kvs) => .ok (.d (.list (kvs.map fun p => .tuple (p.1.map keyD)))) M
    | _ => .bad
  | _ => .bad
/-! ### any(bs), all(bs) -/
def boolsD : List PyData → Option (List Bool)
  | [] => some []
  | .bool b :: r => (boolsD r).map (b :: ·)
  | _ => none
def vBools (f : List Bool → Bool) (vs : List Val) (M : Mm) : Out Val := match vs with
  | [.d (.list ds)] => match boolsD ds with
    | some bs => .ok (.d (.bool (f bs))) M
    | none => .bad
  | _ => .bad
/-! ### a comprehension within a comprehension -/
def relS (sc osc : Scope) : Scope := { sc with names := sc.names.map fun (n, k) => if (k == .free && osc.kind == .function && osc.names.lookup n == some .cell) then (n, .cell) else (n, k) }
end
end Zm
/-! The jar of the later laws: a dict with a list in it. -/
namespace Zm
open PySem PySem.Spec PyProof.Rows L2
open WM (pu bd)
open LO (lf)
variable {α β γ δ τ ρ σ φ ψ κ : Type}
structure Jr where
  far : List Int
  st : Int
  n : Int
  pos : ∀ c ∈ far, 0 ≤ c
  len : far.length ≤ 63
def Jr.mem (q : Jr) (rest : Mm) : Mm := .lst (q.far.map fun i => .d (.int i)) :: .dct [(.str "far", .obj 0), (.str "stirred", .d (.int q.st)), (.str "turn", .d (.int q.n))] :: rest
section
variable {q : Jr} {rest : Mm}
end
theorem jr_below {q : Jr} {n : Nat} (hn : 0 < n) : (q.mem []).all (MO.below n) = true := by
  show (MO.below n _ && (MO.below n _ && true)) = true
  rw [Bool.and_true, Bool.and_eq_true]
  refine ⟨List.all_eq_true.mpr fun x hx => ?_, ?_⟩
  · obtain ⟨i, _, rfl⟩ := List.mem_map.mp hx
    rfl
  · show ((decide (0 < n)) && (true && (true && true))) = true
    rw [decide_eq_true hn]
    rfl
def DkJ : Deck := ⟨Jr, fun q => q.mem [], 2, fun _ => rfl, fun q => jr_below (by decide), fun q j x e => by
  match j with
  | 0 => cases e
  | 1 => cases e
  | n + 2 => cases e⟩
end Zm
/-! Dicts whose keys are tuples; dicts that are records. -/
namespace Zm
open PySem PySem.Spec PyProof.Rows L2
open WM (pu bd)
open LO (lf)
variable {𝔅 : Bas} {μ : Type → Type} [LO μ] {α β γ δ τ ρ σ φ ψ κ : Type} {Γ Γx : Cs}
/-! ### records -/
/-! ### keys that are tuples -/
structure KeyT [DecidableEq κ] (tk : κ → List Key) (ek : κ → PyData) : Prop where
  kv : ∀ k, keyT (.d (ek k)) = some (tk k)
  inj : ∀ a b, tk a = tk b → a = b
  ek : ∀ k, ek k = .tuple ((tk k).map keyD)
abbrev tkI2 (p : Int × Int) : List Key := [.inl p.1, .inl p.2]
/-- a dict with keys that are tuples, at a place of one's own -/
abbrev tD (tk : κ → List Key) (ev : α → PyData) (kvs : List (κ × α)) : MO := .dcT (kvs.map fun p => (tk p.1, .d (ev p.2)))
end Zm
/-! What a law knows of a board. -/
namespace Zm
open PySem PySem.Spec PyProof.Rows L2
open WM (pu bd)
open LO (lf)
abbrev LotT := List (List Int) × List (Int × Int) × List Int × List Int
abbrev lotKvs (p : LotT) : List (Str × PyData) := [(("beside" : Str), eL (eL PyData.int) p.1), (("at" : Str), eK PyData.int PyData.int p.2.1), (("fields" : Str), eL PyData.int p.2.2.1), (("players" : Str), eL PyData.int p.2.2.2)]
abbrev eLot (p : LotT) : PyData := eK PyData.str eD (lotKvs p)
end Zm
/-! any, all; xs.remove(k); xs[k] = v. -/
namespace Zm
open PySem PySem.Spec PyProof.Rows L2
open WM (pu bd)
open LO (lf)
variable {𝔅 : Bas} {μ : Type → Type} [LO μ] {α β γ δ τ ρ σ φ ψ κ : Type} {Γ Γx : Cs}
def remO (xs : List Int) (k : Int) : Option (List Int) := if k ∈ xs then some (xs.erase k) else none
def lsetO (xs : List α) (k : Int) (a : α) : Option (List α) := (ixN xs.length k).map fun n => xs.set n a
end Zm
/-! A comprehension over a list at a place of one's own, which is not written meanwhile. -/
namespace Zm
open PySem PySem.Spec PyProof.Rows L2
open Classical in
noncomputable def compP (P : Mm → Prop) (g : GM) (t : TM) (e : EM) (s0 : Sl) : List Val → Mm → Out (List Val)
  | [], M => if P M then .ok [] M else .bad
  | v :: vs, M => if P M then (match g v s0 M with
    | some (s1, M1) => (t s1 M1).noer.bind fun b M2 => if b = true then (e s1 M2).noer.bind fun y M3 => (compP P g t e s0 vs M3).bind fun r M4 => .ok (y :: r) M4 else compP P g t e s0 vs M2
    | none => .bad) else .bad
/-- J goes over vs, as long as P holds of the store -/
def GoesP (K : PySem.W.Frag) (mg : Str → Option Value) (G : Gh) (H : Hp) (J : It) (vs : List Val) (P : Mm → Prop) : Prop :=
  ∀ G' H' M', Ext G H G' H' → SimM K mg G' M' H' → P M' → (∀ i, i < vs.length → J.go i H') ∧ J.stop vs.length H' ∧
    ∀ i v, vs[i]? = some v → ∀ x H'', J.yld i H' x H'' → ∃ G'', Ext G' H' G'' H'' ∧ SimM K mg G'' M' H'' ∧ RW K mg G'' H'' x v
abbrev PM := Sl → Mm → Out (List Val × (Mm → Prop))
def TImP (K : PySem.W.Frag) (mg : Str → Option Value) (W : WX) (m : PM) : TI := fun σ H R => ∃ G s M, SimM K mg G M H ∧ SimS K mg G s σ H ∧ Post K mg W G σ H (fun G' H' J vp => GoesP K mg G' H' J vp.1 vp.2) R (m s M)
section
variable {X : Cx} {W : WX}
variable {elt tg iter : Expr} {ifs : List Expr} {scope : Scope} {own : List (Str × Nat)} {pos : Pos} {it : PM} {g : GM} {t : TM} {e : EM}
/-- the list at the place in slot i -/
def itP (i : Nat) : PM := fun s M => (mVar i s M).bind fun v M1 => match v with
  | .obj j => match M1[j]? with
    | some (.lst vs) => .ok (vs, fun M' => M'[j]? = some (.lst vs)) M1
    | _ => .bad
  | _ => .bad
/-- a comprehension over the list at the place in slot i, which is not written meanwhile -/
noncomputable def mCompP (k : List Val → Mm → Out Val) (i : Nat) (g : GM) (t : TM) (e : EM) (own : List Nat) : EM := fun s M => (itP i s M).bind fun vp M1 => (compP vp.2 g t e (wipeS s own) vp.1 M1).bind k
end
/-! ### .. in the pure layer -/
open WM (pu bd)
open LO (lf)
end Zm
/-! sorted(d), of a dict whose keys are ints. -/
namespace Zm
open PySem PySem.Spec PyProof.Rows L2
def intsD : List PyData → Option (List Int)
  | [] => some []
  | .int i :: r => (intsD r).map (i :: ·)
  | _ => none
theorem intsD_ok : ∀ {ds : List PyData} {ks : List Int}, intsD ds = some ks → ds = ks.map .int
  | [], ks, h => by cases h; rfl
  | d :: ds, ks, h => by
    cases d with
    | int i =>
      rw [intsD] at h
      cases e : intsD ds with
      | none => rw [e] at h; cases h
      | some ms =>
        rw [e] at h
        cases h
        rw [intsD_ok e]
        rfl
    | none => cases h
    | bool _ => cases h
    | str _ => cases h
    | tuple _ => cases h
    | list _ => cases h
    | dict _ => cases h
theorem intsD_map : ∀ ks : List Int, intsD (ks.map .int) = some ks
  | [] => rfl
  | k :: ks => by rw [List.map_cons, intsD, intsD_map ks]; rfl
def vSortDI (vs : List Val) (M : Mm) : Out Val := match vs with
  | [v] => match dctV v M with
    | some kvs => match intsD (kvs.map fun p => p.1) with
      | some ks => if ks.length < 64 then .ok (.d (.list ((sortI ks).map .int))) M else .bad
      | none => .bad
    | none => .bad
  | _ => .bad
section
variable {X : Cx} {K : PySem.W.Frag} {mg : Str → Option Value} {G : Gh} {H : Hp} {M : Mm}
theorem keys_in : ∀ {ys : List (Key × V)} {kvs : List (PyData × Val)} {ks : List Int}, PKs K mg G H ys kvs → (kvs.map fun p => p.1) = ks.map PyData.int → ys.map (·.1) = ks.map Sum.inl
  | _, _, [], .nil, _ => rfl
  | _, _, _ :: _, .nil, h => by cases h
  | _, _, [], .cons _ _, h => by cases h
  | y :: ys, k :: kvs, i :: ks, .cons h t, e => by
    have e := List.cons.inj e
    have h1 : keyD y.1 = .int i := h.1.symm.trans e.1
    have h2 : y.1 = Sum.inl i := by
      cases hy : y.1 with
      | inl j => rw [hy] at h1; cases h1; rfl
      | inr z => rw [hy] at h1; cases h1
    rw [List.map_cons, List.map_cons, h2, keys_in t e.2]
end
/-! ### .. in the pure layer -/
open WM (pu bd)
open LO (lf)
def sortKO {α : Type} (kvs : List (Int × α)) : Option (List Int) := if kvs.length < 64 then some (sortI (kvs.map fun p => p.1)) else none
end Zm
/-! *xs at the end of a display. -/
namespace Zm
open PySem PySem.Spec PyProof.Rows L2
open WM (pu bd)
open LO (lf)
variable {𝔅 : Bas} {μ : Type → Type} [LO μ] {α γ δ : Type} {Γ : Cs}
variable {β ε : Type}
def toP4 (d : PyData → Option α) (e : PyData → Option β) (f : PyData → Option γ) (g : PyData → Option δ) : PyData → Option (α × β × γ × δ)
  | .tuple [x, y, z, u] => (d x).bind fun a => (e y).bind fun b => (f z).bind fun c => (g u).map fun h => (a, b, c, h)
  | _ => none
end Zm
/-! A pick out of a datum or of a list at a place. -/
namespace Zm
open PySem PySem.Spec PyProof.Rows L2
open WM (pu bd)
open LO (lf)
end Zm
/-! A list of one's own is lent to an expression: fixed while it runs, one's own again behind it. -/
namespace Zm
open PySem PySem.Spec PyProof.Rows L2
mutual
def flatD : PyData → Bool
  | .list _ => false
  | .dict _ => false
  | .tuple ds => flatDs ds
  | _ => true
def flatDs : List PyData → Bool
  | [] => true
  | d :: ds => flatD d && flatDs ds
end
def flatV : Val → Bool
  | .d x => flatD x
  | .prO k _ => flatD k
  | .prF k _ => flatD k
  | .ri _ _ => false
  | _ => true
def flatO : MO → Bool
  | .frz _ => false
  | .lst vs => vs.all flatV
  | .dct kvs => kvs.all fun p => flatV p.2
  | .dcT kvs => kvs.all fun p => flatV p.2
  | .ins _ fs => fs.all fun p => flatV p.2
section
variable {K : PySem.W.Frag} {F F' : Addr → Prop} {H : Hp}
end
section
variable {K : PySem.W.Frag} {mg : Str → Option Value} {φ : List Addr} {F F' : Addr → Prop} {H : Hp}
end
/-- what stands behind a loan: the lent place is as it was, all else is flat or was fixed before -/
def BackOk (M M' : Mm) (j : Nat) : Prop := M.length ≤ M'.length ∧ ∀ (k : Nat) (o : MO), k ≠ j → M'[k]? = some o → flatO o = true ∨ ∃ x, o = .frz x ∧ M[k]? = some (.frz x)
open Classical in
noncomputable def mLend (i : Nat) (m : EM) : EM := fun s M => match s[i]? with
  | some (some (.obj j)) => match M[j]? with
    | some (.lst vs) => match fzL vs M with
      | some ds => match m s (M.set j (.frz (.list ds))) with
        | .ok v M' => if flatV v = true ∧ BackOk M M' j then .ok v (M'.set j (.lst vs)) else .bad
        | _ => .bad
      | none => .bad
    | _ => .bad
  | _ => .bad
section
variable {X : Cx} {W : WX}
end
end Zm
/-! A call whose arguments are data or lists at places, of a def that makes a flat value and changes nothing: its run knows no places. -/
namespace Zm
open PySem PySem.Spec PyProof.Rows L2
def datF (M : Mm) : Val → Option PyData
  | .d x => some x
  | .obj j => match M[j]? with
    | some (.lst us) => (fzL us M).map .list
    | _ => none
  | _ => none
def datsF (M : Mm) : List Val → Option (List PyData)
  | [] => some []
  | v :: vs => match datF M v, datsF M vs with
    | some d, some ds => some (d :: ds)
    | _, _ => none
def allF (G : Gh) : Gh := ⟨[], fun b => G.F b ∨ b ∈ G.φ⟩
section
variable {K : PySem.W.Frag} {mg : Str → Option Value} {G : Gh} {H : Hp} {M : Mm}
end
def mCallF (n : Nat) (den : Den) (ms : AM) : EM := fun s M => (ms s M).bind fun vs M1 => if vs.length = n then (match datsF M1 vs with
  | some ds => match den (ds.map .d) [] with
    | .ok (.d r) _ => if flatD r = true then .ok (.d r) M1 else .bad
    | _ => .bad
  | none => .bad) else .bad
section
variable {X : Cx} {W : WX} {k : Nat} {ps : List Str} {den : Den} {x : Str} {st : Stmt} {p pos : Pos} {e : Expr} {es : List Expr} {ms mk : AM} {f : Addr} {fd : FuncData}
end
end Zm
namespace Zm
open PySem PySem.Spec PyProof.Rows L2
open WM (pu bd)
open LO (lf)
variable {𝔅 : Bas} {μ : Type → Type} [LO μ] {α γ ρ : Type} {Γ : Cs}
/-- arguments that are names -/
structure AR (Γ : Cs) (ms : AM) (xs : List PyData) : Prop where
  run : ∀ (L P : Ps) (B M : Mm), L.cs = Γ → Sat (L ++ P) B M → ∃ vs, ms L.sl M = .ok vs M ∧ datsF M vs = some xs ∧ vs.length = xs.length
end Zm
/-! Rows of one's own in a list of one's own, beside a dict: how a law lays what it knows of a board. -/
namespace Zm
open PySem PySem.Spec PyProof.Rows L2
open WM (pu bd)
open LO (lf)
def rowM (r : List Int) : MO := .lst (r.map fun i => .d (.int i))
def lstM (n m : Nat) : MO := .lst ((List.range m).map fun f => .obj (n + f))
def kvM (kvs : List (Int × Int)) : MO := .dct ((eKs PyData.int PyData.int kvs).map fun p => (p.1, Val.d p.2))
def LM (M0 : Mm) (rows : List (List Int)) (last : MO) : Mm := M0 ++ (rows.map rowM ++ [lstM M0.length rows.length, last])
section
variable {M0 : Mm} {rows : List (List Int)} {last : MO} {kvs : List (Int × Int)}
end
/-! ### what it knows -/
def nbRow (rps : List (Int × Int)) (f : Int) : List Int := (rps.filter fun y => mem f [y.1, y.2]).map fun y => y.1 + y.2 - f
def lotOf (b : BoardT) : LotT := ((List.range b.1.1.toNat).map fun f : Nat => nbL b.1.2.1 (f : Int), (enu b.2).map fun y => (y.2.1, y.1), b.2.map (·.1), b.2.map (·.2))
open Classical in
noncomputable def lotB (b : BoardT) : Option LotT := if GB b then some (lotOf b) else none
theorem dput_new {κ α : Type} [DecidableEq κ] {kvs : List (κ × α)} {k : κ} {v : α} (h : ∀ p ∈ kvs, p.1 ≠ k) : dput kvs k v = kvs ++ [(k, v)] := by
  unfold dput
  rw [if_neg]
  intro z
  obtain ⟨p, hp, e⟩ := List.any_eq_true.mp z
  exact h p hp (of_decide_eq_true e)
def rowsOf (k : Nat) (rps : List (Int × Int)) : List (List Int) := (List.range k).map fun f : Nat => nbRow rps (f : Int)
theorem seq_step {a b : SM} {s s1 : Sl} {M M1 : Mm} (h : a s M = .nx s1 M1) : sSeq a b s M = b s1 M1 := by
  show (a s M).seq b = _
  rw [h]
  rfl
end Zm
/-! Own orders: an order, or none. What is read back. -/
namespace Zm
open PySem PySem.Spec PyProof.Rows L2
open WM (pu bd)
open LO (lf)
abbrev Ow := Option Od
def eOw : Ow → PyData
  | none => .none
  | some o => oD o
/-- the field to which a piece goes -/
def goOf : Ow → Option Int
  | some (.go g) => some g
  | _ => none
/-- where what a piece does is aimed -/
def aimOf (s : Int) : Ow → Int
  | some (.go g) => g
  | _ => s
theorem at_ok {ps : List (Int × Int)} {f : Int} {i : Nat} (h : at? ps f = some i) : ∃ p, ps[i]? = some p ∧ p.1 = f := by
  unfold at? at h
  rw [List.findIdx?_eq_some_iff_getElem] at h
  obtain ⟨h, h1, _⟩ := h
  exact ⟨ps[i], List.getElem?_eq_getElem h, of_decide_eq_true h1⟩
/-- own orders of a board: orders of pieces, or none -/
structure OwB (b : BoardT) (ow : List Ow) : Prop where
  len : ow.length = b.2.length
  ok : ∀ (i : Nat) (p : Int × Int) (o : Od), b.2[i]? = some p → ow[i]? = some (some o) → OkO b p.1 o
/-- .. no go to an own piece that does not go -/
structure OwS (b : BoardT) (ow : List Ow) : Prop extends OwB b ow where
  st : ∀ (i j : Nat) (g : Int) (o : Od), ow[i]? = some (some (.go g)) → at? b.2 g = some j → ow[j]? = some (some o) → ∃ g', o = .go g'
theorem OwB.set {b : BoardT} {os : List Ow} (h : OwB b os) {n : Nat} {p : Int × Int} {o : Od} (hp : b.2[n]? = some p) (ho : OkO b p.1 o) : OwB b (os.set n (some o)) := ⟨by rw [List.length_set]; exact h.len, fun i q o' hq ho' => by
  by_cases z : n = i
  · subst z
    rw [hp] at hq
    cases hq
    have hn : n < os.length := by rw [h.len]; exact (List.getElem?_eq_some_iff.mp hp).1
    rw [List.getElem?_set_self hn] at ho'
    cases ho'
    exact ho
  · rw [List.getElem?_set_ne z] at ho'
    exact h.ok i q o' hq ho'⟩
theorem dput_keys {κ α : Type} [DecidableEq κ] {kvs : List (κ × α)} {k : κ} {v : α} : (dput kvs k v).map (·.1) = if k ∈ kvs.map (·.1) then kvs.map (·.1) else kvs.map (·.1) ++ [k] := by
  unfold dput
  by_cases h : k ∈ kvs.map (·.1)
  · rw [if_pos h]
    obtain ⟨p, hp, e⟩ := List.mem_map.mp h
    rw [if_pos (List.any_eq_true.mpr ⟨p, hp, decide_eq_true e⟩), List.map_map]
    refine List.map_congr_left fun q _ => ?_
    show (if q.1 = k then (q.1, v) else q).1 = q.1
    split <;> rfl
  · rw [if_neg h, if_neg (fun z => by
      obtain ⟨p, hp, e⟩ := List.any_eq_true.mp z
      exact h (List.mem_map.mpr ⟨p, hp, of_decide_eq_true e⟩)), List.map_append]
    rfl
theorem dput_nd {κ α : Type} [DecidableEq κ] {kvs : List (κ × α)} {k : κ} {v : α} (h : (kvs.map (·.1)).Nodup) : ((dput kvs k v).map (·.1)).Nodup := by
  rw [dput_keys]
  split
  · exact h
  · rename_i hk
    rw [List.nodup_append]
    exact ⟨h, by simp, fun a ha c hc e => hk (by rw [List.mem_singleton.mp hc] at e; rw [← e]; exact ha)⟩
/-- roads that are drawn: a dict with pairs for keys -/
structure JR (many : Int) (n : Nat) (rd : List ((Int × Int) × Bool)) : Prop where
  ok : ∀ p ∈ rd, 0 ≤ p.1.1 ∧ p.1.1 < p.1.2 ∧ p.1.2 < many
  nd : (rd.map (·.1)).Nodup
  len : rd.length ≤ n
theorem JR.mono {many : Int} {n m : Nat} {rd : List ((Int × Int) × Bool)} (h : JR many n rd) (hm : n ≤ m) : JR many m rd := ⟨h.ok, h.nd, Nat.le_trans h.len hm⟩
theorem lay_intL (xs : List Int) : Lay (xs.map PyData.int) := ⟨fun x hx => by obtain ⟨i, _, rfl⟩ := List.mem_map.mp hx; rfl, fun x hx => by obtain ⟨i, _, rfl⟩ := List.mem_map.mp hx; exact Nat.zero_le _⟩
theorem wh_ok {α : Type} {F : Nat → Option α} (P : α → Prop) (h1 : ∃ n a, F n = some a) (h2 : ∀ n a, F n = some a → P a) : ∃ a, WH.wh F = some a ∧ P a := by
  have h : ∃ n, F n ≠ none := let ⟨n, a, e⟩ := h1; ⟨n, by rw [e]; exact fun z => by cases z⟩
  have e : WH.wh F = F (Classical.choose h) := dif_pos h
  have hc := Classical.choose_spec h
  cases q : F (Classical.choose h) with
  | none => exact absurd q hc
  | some a => exact ⟨a, by rw [e, q], h2 _ a q⟩
theorem map_some (ws : List Od) : ws.map oD = (ws.map some).map eOw := by rw [List.map_map]; rfl
theorem wh_go {σ ρ : Type} {c : σ → Option Bool} {b : σ → Option (Tn σ ρ)} {n : Nat} {s s' : σ} (hc : c s = some true) (hb : b s = some (.go s')) : whM c b (n + 1) s = whM c b n s' := by
  show bd (c s) _ = _
  rw [hc]
  show bd (b s) _ = _
  rw [hb]
  rfl
end Zm
/-! Places of own orders that are picked out. -/
namespace Zm
open PySem PySem.Spec PyProof.Rows L2
open WM (pu bd)
open LO (lf)
/-- the places of the orders that .. -/
def sel (ow : List Ow) (P : Int × Ow → Bool) : List Int := ((enu ow).filter P).map (·.1)
/-- the field of a place -/
def flD (b : BoardT) (i : Int) : Int := ((b.2.map (·.1))[i.toNat]?).getD 0
/-- the backs of what a piece in a field does -/
def bkL (ow : List Ow) (s a : Int) : List Int := sel ow fun y => decide (y.2 = some (.back s a))
/-- the places without an order in fields near a field -/
def fnL (b : BoardT) (ow : List Ow) (f : Int) : List Int := sel ow fun y => y.2.isNone && mem (flD b y.1) (nbL b.1.2.1 f)
/-- whether the piece with a place is struck against a field -/
def stB (b : BoardT) (ow : List Ow) (i aim : Int) : Bool := !(sel ow fun y => decide (y.2 = some (.go (flD b i))) && !decide (flD b y.1 = aim)).isEmpty
theorem nd_len {α : Type} [DecidableEq α] : ∀ {xs ys : List α}, xs.Nodup → (∀ x ∈ xs, x ∈ ys) → xs.length ≤ ys.length
  | [], _, _, _ => Nat.zero_le _
  | x :: xs, ys, h, hs => by
    rw [List.nodup_cons] at h
    have hx := hs x (List.mem_cons_self ..)
    have := nd_len (xs := xs) (ys := ys.erase x) h.2 fun y hy => (List.mem_erase_of_ne (fun e : y = x => h.1 (by rw [← e]; exact hy))).mpr (hs y (List.mem_cons_of_mem _ hy))
    rw [List.length_erase_of_mem hx] at this
    have := List.length_pos_of_mem hx
    rw [List.length_cons]
    omega
/-- a dict that is used as a set -/
structure KSt (U : List Int) (S : Int → Prop) (kvs : List (Int × Bool)) : Prop where
  nd : (kvs.map (·.1)).Nodup
  mem : ∀ x, x ∈ kvs.map (·.1) ↔ S x
  sub : ∀ x, S x → x ∈ U
theorem KSt.len {U : List Int} {S : Int → Prop} {kvs : List (Int × Bool)} (h : KSt U S kvs) : kvs.length ≤ U.length := by
  have := nd_len h.nd fun x hx => h.sub x ((h.mem x).mp hx)
  rwa [List.length_map] at this
theorem KSt.same {U : List Int} {S S' : Int → Prop} {kvs : List (Int × Bool)} (h : KSt U S kvs) (hs : ∀ y, S' y ↔ S y) : KSt U S' kvs := ⟨h.nd, fun y => by rw [hs, h.mem], fun y hy => h.sub y ((hs y).mp hy)⟩
/-! ### sizes -/
abbrev BarT := Str × Int × List Int × List Int × List Int
abbrev eBar : BarT → PyData := eP5 PyData.str PyData.int (eT PyData.int) (eT PyData.int) (eT PyData.int)
/-- a bar that is small -/
structure SmBar (x : BarT) : Prop where
  k : Sz 0 10 (.str x.1)
  m : 0 ≤ x.2.1 ∧ x.2.1 < 16
  h : Sz 1 (16 * 9) (eT PyData.int x.2.2.1)
  c : Sz 1 (16 * 9) (eT PyData.int x.2.2.2.1)
  b : Sz 1 (16 * 9) (eT PyData.int x.2.2.2.2)
end Zm
/-! sorted(set(xs)) of a list of ints; len(d). -/
namespace Zm
open PySem PySem.Spec PyProof.Rows L2
section
variable {P : Program} {w : World} {A : Around} {E : Value → Shared → Prop} {s : Shared}
abbrev sOb (w : World) : Obj := { cls := .type "set", dict := none, data := .set #[] 0 (.fresh 0 0 (!w.params.followText "set-order")) }
end
end Zm
/-! sorted(set(xs)) of a list of ints; len(d); a comprehension over d.items(). -/
namespace Zm
open PySem PySem.Spec PyProof.Rows L2
section
variable {X : Cx} {W : WX}
def nubI : List Int → List Int
  | [] => []
  | x :: xs => if x ∈ xs then nubI xs else x :: nubI xs
/-- the members, ascending -/
def ssetI (xs : List Int) : List Int := sortI (nubI xs)
def vSSet (vs : List Val) (M : Mm) : Out Val := match vs with
  | [v] => match listD v M with
    | some ds => match allI ds with
      | some ns => if ns.length ≤ 60 then .ok (.d (.list ((ssetI ns).map .int))) M else .bad
      | none => .bad
    | none => .bad
  | _ => .bad
/-- len(d) -/
def vLenDc (vs : List Val) (M : Mm) : Out Val := match vs with
  | [.obj j] => match M[j]? with
    | some (.dct kvs) => .ok (.d (.int kvs.length)) M
    | _ => .bad
  | _ => .bad
/-! ### a comprehension over d.items(), d a dict at a place with plain values: its turns know no places -/
def scaD : PyData → Bool
  | .int _ => true
  | .str _ => true
  | .bool _ => true
  | .none => true
  | _ => false
theorem RV.sca {K : PySem.W.Frag} {F F' : Addr → Prop} {H H' : Hp} : ∀ {x : PyData} {v : V}, scaD x = true → RV K F H v x → RV K F' H' v x
  | .int i, _, _, h => by cases h; exact .int i
  | .str x, _, _, h => by cases h; exact .str x
  | .bool b, _, _, h => by cases h; exact .bl b
  | .none, _, _, h => by cases h; exact .non
def itsV : List (PyData × Val) → Option (List PyData)
  | [] => some []
  | (k, .d x) :: r => if scaD x = true then (itsV r).map (.tuple [k, x] :: ·) else none
  | _ => none
def datS (s : Sl) : Sl := s.map fun v => match v with
  | some (.d x) => some (.d x)
  | _ => none
noncomputable def mCompI (i : Nat) (g : GM) (t : TM) (e : EM) (own : List Nat) : EM := fun s M => match s[i]? with
  | some (some (.obj j)) => match M[j]? with
    | some (.dct kvs) => match itsV kvs with
      | some ds => match (compL g t e (wipeS (datS s) own) (ds.map .d) []).bind lcK with
        | .ok (.d x) [] => .ok (.d x) M
        | _ => .bad
      | none => .bad
    | _ => .bad
  | _ => .bad
section
variable {K : PySem.W.Frag} {mg : Str → Option Value} {G : Gh} {H : Hp} {M : Mm} {F : Addr → Prop} {a : Addr} {o : HO}
mutual
theorem RV.side (h1 : ∀ xs, H a ≠ some (.tup xs)) (h2 : ¬ F a) : ∀ (d : PyData) (v : V), RV K F H v d → RV K F (upd H a o) v d
  | .none, _, h => by cases h; exact .non
  | .bool b, _, h => by cases h; exact .bl b
  | .int i, _, h => by cases h; exact .int i
  | .str x, _, h => by cases h; exact .str x
  | .tuple ds, _, h => by
    cases h with
    | @tup c xs _ g1 g2 => exact .tup (by rw [upd_ne (fun z => h1 xs (by rw [← z]; exact g1))]; exact g1) (RVs.side h1 h2 ds _ g2)
  | .list ds, _, h => by
    cases h with
    | @lst c xs _ g0 g1 g2 => exact .lst g0 (by rw [upd_ne (fun z => h2 (by rw [← z]; exact g0))]; exact g1) (RVs.side h1 h2 ds _ g2)
  | .dict ds, _, h => by
    cases h with
    | @dct c xs _ g0 g1 g2 => exact .dct g0 (by rw [upd_ne (fun z => h2 (by rw [← z]; exact g0))]; exact g1) (RKs.side h1 h2 ds _ g2)
theorem RVs.side (h1 : ∀ xs, H a ≠ some (.tup xs)) (h2 : ¬ F a) : ∀ (ds : List PyData) (vs : List V), RVs K F H vs ds → RVs K F (upd H a o) vs ds
  | [], _, h => by cases h; exact .nil
  | d :: ds, _, h => by cases h with | cons g1 g2 => exact .cons (RV.side h1 h2 d _ g1) (RVs.side h1 h2 ds _ g2)
theorem RKs.side (h1 : ∀ xs, H a ≠ some (.tup xs)) (h2 : ¬ F a) : ∀ (ds : List (PyData × PyData)) (vs : List (Key × V)), RKs K F H vs ds → RKs K F (upd H a o) vs ds
  | [], _, h => by cases h; exact .nil
  | (_, d) :: ds, _, h => by cases h with | cons g1 g2 => exact .cons (RV.side h1 h2 d _ g1) (RKs.side h1 h2 ds _ g2)
end
theorem its_get {G : Gh} : ∀ {ys : List (Key × V)} {kvs : List (PyData × Val)} {ds : List PyData}, PKs K mg G H ys kvs → itsV kvs = some ds → ys.length = ds.length ∧ ∀ (i : Nat) (y : Key × V) (d : PyData), ys[i]? = some y → ds[i]? = some d → ∃ x, d = .tuple [keyD y.1, x] ∧ ∀ (F' : Addr → Prop) (H' : Hp), RV K F' H' y.2 x ∧ RV K F' H' (kV y.1) (keyD y.1)
  | _, _, ds, .nil, e => by cases e; exact ⟨rfl, fun i y d h => by simp at h⟩
  | y :: ys, (k, v) :: kvs, ds, .cons h t, e => by
    cases v with
    | d x =>
      rw [itsV] at e
      by_cases hf : scaD x = true
      · rw [if_pos hf] at e
        cases q : itsV kvs with
        | none => rw [q] at e; cases e
        | some es =>
          rw [q] at e
          cases e
          obtain ⟨l, r⟩ := its_get t q
          refine ⟨by rw [List.length_cons, List.length_cons, l], fun i y' d' h1 h2 => ?_⟩
          cases i with
          | zero =>
            cases h1; cases h2
            refine ⟨x, by rw [show k = keyD y.1 from h.1], fun F' H' => ⟨RV.sca hf (show RV K G.F H y.2 x from h.2), ?_⟩⟩
            cases y.1 with
            | inl j => exact .int j
            | inr z => exact .str z
          | succ i => exact r i y' d' h1 h2
      · rw [if_neg hf] at e; cases e
    | obj _ => cases e
    | scr _ => cases e
    | fnc _ => cases e
    | prO _ _ => cases e
    | prF _ _ => cases e
    | ri _ _ => cases e
theorem sim_dat {σ : L2.St} {s : Sl} (N : SimS K mg G s σ H) (hF : ¬ G.F a) (ht : ∀ xs, H a ≠ some (.tup xs)) : SimS K mg ⟨[], G.F⟩ (datS s) σ (upd H a o) := ⟨by unfold datS; rw [List.length_map]; exact N.len, fun i v h => by
  unfold datS at h
  rw [List.getElem?_map] at h
  cases hs : s[i]? with
  | none => rw [hs] at h; cases h
  | some w =>
    rw [hs] at h
    cases w with
    | none => cases h
    | some u =>
      cases u with
      | d x =>
        cases h
        obtain ⟨z, e1, e2⟩ := N.at_ i _ hs
        exact ⟨z, e1, RV.side ht hF x z e2⟩
      | obj _ => cases h
      | scr _ => cases h
      | fnc _ => cases h
      | prO _ _ => cases h
      | prF _ _ => cases h
      | ri _ _ => cases h⟩
end
variable {elt e0 : Expr} {elts : List Expr} {kk : Nat} {tpos apos cpos pos : Pos} {ifs : List Expr} {scope : Scope} {own : List (Str × Nat)} {g : GM} {t : TM} {e : EM}
open Classical in
theorem se_lcI {i : Nat} (hc : X.calm = true) (hN : X.N.Nodup) (hv : PE X e0 (tVar i)) (ok : BlkOk X.N X.env.scope scope own)
    (hg : ∀ (s : Shared) (H : Hp) (C : Addr) (cl : List (Str × Addr)) (fp : List Addr), SGo (X.blk s H scope (compEnvC scope cl C X.env) fp) (own.map (·.2)) (.Tuple elts kk tpos) g)
    (ht : ∀ (s : Shared) (H : Hp) (C : Addr) (cl : List (Str × Addr)) (fp : List Addr), STs (X.blk s H scope (compEnvC scope cl C X.env) fp) W0 ifs t)
    (he : ∀ (s : Shared) (H : Hp) (C : Addr) (cl : List (Str × Addr)) (fp : List Addr), SE (X.blk s H scope (compEnvC scope cl C X.env) fp) W0 elt e)
    (hbase : attributeBase e0 "items" X.env (eval e0 X.env) = eval e0 X.env := by rfl) (hline : (apos.endLine == cpos.line) = true := by rfl)
    (hs : ∀ x, foldedSetIterable (.Call (.Attribute e0 "items" apos) [] [] cpos) X.env x = pure x := by intro _; rfl) :
    SE X W (.ListComp elt [⟨.Tuple elts kk tpos, .Call (.Attribute e0 "items" apos) [] [] cpos, ifs, 0⟩] scope pos) (mCompI i g t e (own.map (·.2))) := by
  refine ⟨peImp (pe_lock (pe_lc (te := TEm X.K X.mg W0 e) (tt := TTm X.K X.mg W0 t) (g := TGo X.K X.mg (own.map (·.2)) g) hc hN (pi_items hv hbase hline) ok (fun s H C cl fp => (hg s H C cl fp).pg) (fun s H C cl fp => (ht s H C cl fp).pts) (fun s H C cl fp => (he s H C cl fp).pe) hs)) fun σ H Q ⟨G, s, M, S, N, p⟩ => ?_⟩
  unfold mCompI at p
  split at p
  · rename_i j hsj
    split at p
    · rename_i kvs hk
      split at p
      · rename_i ds hds
        split at p
        · rename_i xr hcomp
          obtain ⟨y0, hσ, a, rfl, hφ⟩ := N.at_ i _ hsj
          obtain ⟨nF, ys, hx, rx⟩ := S.obj j a _ hφ hk
          obtain ⟨hlen, hget⟩ := its_get rx hds
          have nt : ∀ xs, H a ≠ some (.tup xs) := fun xs z => by rw [hx] at z; cases z
          have ha : a ∈ G.φ := List.mem_of_getElem? hφ
          refine ⟨a, .dK ys, hx, trivial, fun od => ?_⟩
          have hla : (upd H a (.frz od (.dK ys))) a = some (.frz od (.dK ys)) := upd_same
          have hlo : ∀ b, b ≠ a → (upd H a (.frz od (.dK ys))) b = H b := fun b h => upd_ne h
          generalize hHl : upd H a (.frz od (.dK ys)) = Hl at hla hlo
          have Sl : SimM X.K X.mg ⟨[], G.F⟩ [] Hl := ⟨rfl, List.nodup_nil, fun i a o h _ => (by cases (show (none : Option Addr) = some a from h)), fun a h => (by cases h), fun b h => by
            rw [hlo b (fun z => nF (by rw [← z]; exact h))]; exact S.fthere b h, by
            obtain ⟨o, u, h⟩ := S.sys
            exact ⟨o, u, by rw [hlo _ (fun z => by rw [z, hx] at h; cases h)]; exact h⟩⟩
          have Nl : SimS X.K X.mg ⟨[], G.F⟩ (datS s) σ Hl := by rw [← hHl]; exact sim_dat N nF nt
          have key := lc_read (own := own) (it := fun s' M' => if s' = datS s ∧ M' = [] then .ok (ds.map .d) [] else .bad) (g := g) (t := t) (e := e) (W := W) (σ := σ) (H := Hl) (Q := fun v H' => H' a = some (.frz od (.dK ys)) ∧ Q v (upd H' a (.dK ys))) (.inl rfl) ⟨⟨[], G.F⟩, datS s, [], Sl, Nl, by
            have ev : (fun s' M' => ((fun s' M' => if s' = datS s ∧ M' = [] then Out.ok (ds.map Val.d) [] else .bad : AM) s' M').bind fun vs M1 => (compL g t e (wipeS s' (own.map (·.2))) vs M1).bind lcK : EM) (datS s) [] = .ok (.d xr) [] := by
              show ((if datS s = datS s ∧ ([] : Mm) = [] then Out.ok (ds.map Val.d) [] else .bad : Out (List Val)).bind _) = _
              rw [if_pos ⟨rfl, rfl⟩]
              exact hcomp
            rw [ev]
            intro G' H' x e2 S2 r2
            have ea : H' a = some (.frz od (.dK ys)) := e2.frz a od (.dK ys) hla
            refine ⟨ea, ?_⟩
            have nF' : ¬ G'.F a := fun z => by
              rcases e2.Fnew a z with z | z | z
              · exact nF z
              · rw [hla] at z; cases z
              · cases z
            have kp : ∀ b, H b ≠ none → (upd H' a (.dK ys)) b = H b := fun b hb => by
              by_cases z : b = a
              · subst z; rw [upd_same, hx]
              · rw [upd_ne z, e2.keep b (by rw [hlo b z]; exact hb) (fun q => by cases q), hlo b z]
            have fF : ∀ b, G.F b → G'.F b := fun b hb => (e2.fix b hb).1
            have fb : ∀ b, G'.F b → G.F b ∨ H b = none := fun b hb => by
              have zb : b ≠ a := fun z => nF' (by rw [← z]; exact hb)
              rcases e2.Fnew b hb with z | z | z
              · exact .inl z
              · rw [hlo b zb] at z; exact .inr z
              · cases z
            have E3 : Ext G H ⟨G.φ, G'.F⟩ (upd H' a (.dK ys)) := ⟨⟨⟨[], by simp⟩, fun b xs h => by rw [kp b (by rw [h]; simp)]; exact h, fun b o u h => by rw [kp b (by rw [h]; simp)]; exact h, fun b h => ⟨fF b h, kp b (S.fthere b h)⟩⟩, fun b h _ => kp b h, fun b h => .inl h, fun b h => (fb b h).elim .inl fun z => .inr (.inl z)⟩
            have S3 : SimM X.K X.mg ⟨G.φ, G'.F⟩ M (upd H' a (.dK ys)) := S.grow E3.toExt0 rfl (fun b hb => kp b (S.there b hb)) (fun b hb hn z => (fb b z).elim hn (S.there b hb)) fun b hb => by
              have zb : b ≠ a := fun z => nF' (by rw [← z]; exact hb)
              show (upd H' a (.dK ys)) b ≠ none
              rw [upd_ne zb]
              exact S2.fthere b hb
            exact p _ _ x E3 S3 (RV.side (fun xs z => by rw [ea] at z; cases z) nF' xr x r2)⟩
          show iItems (tVar i) σ Hl _
          have hR : TIm X.K X.mg W (fun s' M' => if s' = datS s ∧ M' = [] then .ok (ds.map .d) [] else .bad) σ Hl _ := key
          obtain ⟨G', s', M', S', N', p'⟩ := hR
          by_cases hsm : s' = datS s ∧ M' = []
          · obtain ⟨rfl, rfl⟩ := hsm
            dsimp only at p'
            rw [if_pos ⟨rfl, rfl⟩] at p'
            refine ⟨.ref a, hσ, a, od, ys, rfl, hla, p' G' Hl _ .refl S' fun G2 H2 e2 => ?_⟩
            have h2a : H2 a = some (.frz od (.dK ys)) := e2.frz a od (.dK ys) hla
            refine ⟨fun k hk => ⟨h2a, by rw [List.length_map] at hk; omega⟩, ⟨h2a, by rw [List.length_map]; omega⟩, fun k v hv M2 S2 x H3 y => ?_⟩
            obtain ⟨T, k1, v1, hk1, rfl, hT, rfl⟩ := y
            rw [List.getElem?_map] at hv
            cases hd : ds[k]? with
            | none => rw [hd] at hv; cases hv
            | some d =>
              rw [hd] at hv
              cases hv
              obtain ⟨x1, rfl, rr⟩ := hget k _ d hk1 hd
              obtain ⟨S3, e3⟩ := S2.lay (o := .tup [kV k1, v1]) hT
              exact ⟨G2, e3, S3, RV.tup upd_same (.cons (rr _ _).2 (.cons (rr _ _).1 .nil))⟩
          · dsimp only at p'
            rw [if_neg hsm] at p'
            exact p'.elim
        · exact p.elim
      · exact p.elim
    · exact p.elim
  · exact p.elim
theorem defZ_bad {P : Program} {w : World} {K : PySem.W.Frag} {mg : Str → Option Value} {base : Heap} {x : Str} {st : Stmt} {ps : List Str} {k : Nat} (D : DefAt K mg x st) : DefZ P w K mg base k x st ps (fun _ _ => .bad) := by
  obtain ⟨f, fd, F, g⟩ := D.ex
  exact ⟨f, fd, F, g, ⟨fun A outer s H args us vs Q E _ _ _ _ _ _ h => by obtain ⟨_, _, _, _, _, q⟩ := h; exact q.elim⟩⟩
end
end Zm
/-! Matchings: one cutter after another is placed, others being moved on. -/
namespace Zm
open PySem PySem.Spec PyProof.Rows L2
abbrev MS := List (Int × Int) × List Int
def plcL (rc : Int → MS → Option (Bool × MS)) (c : Int) : List (Int × Int) → MS → Option (Bool × MS)
  | [], s => some (false, s)
  | p :: ps, s => if p.1 = c ∧ p.2 ∉ s.2 then (match dget s.1 p.2 with
      | none => some (true, (dput s.1 p.2 c, s.2 ++ [p.2]))
      | some x => match rc x (s.1, s.2 ++ [p.2]) with
        | none => none
        | some (true, t) => some (true, (dput t.1 p.2 c, t.2))
        | some (false, t) => plcL rc c ps t) else plcL rc c ps s
def plc (pairs : List (Int × Int)) : Nat → Int → MS → Option (Bool × MS)
  | 0, _, _ => none
  | n + 1, c, s => plcL (plc pairs n) c pairs s
def runM (pairs : List (Int × Int)) (n : Nat) : List Int → List (Int × Int) → Option (List (Int × Int))
  | [], m => some m
  | c :: cs, m => match plc pairs n c (m, []) with
    | none => none
    | some (_, s) => runM pairs n cs s.1
/-- the backs that there are -/
structure UB (pairs : List (Int × Int)) (U : List Int) : Prop where
  sub : ∀ p ∈ pairs, p.2 ∈ U
  len : U.length ≤ 16
structure MI (pairs : List (Int × Int)) (U : List Int) (s : MS) : Prop where
  kn : (s.1.map (·.1)).Nodup
  ku : ∀ p ∈ s.1, (p.2, p.1) ∈ pairs
  sn : s.2.Nodup
  su : ∀ b ∈ s.2, b ∈ U
theorem dget_map {κ α : Type} [DecidableEq κ] {k j : κ} {v : α} : ∀ kvs : List (κ × α), (∃ q ∈ kvs, q.1 = k) → dget (kvs.map fun p => if p.1 = k then (p.1, v) else p) j = if j = k then some v else dget kvs j
  | [], h => by obtain ⟨q, hq, _⟩ := h; cases hq
  | p :: r, h => by
    have same : (¬ ∃ q ∈ r, q.1 = k) → (r.map fun p => if p.1 = k then (p.1, v) else p) = r := fun hr => by
      refine (List.map_congr_left fun q hq => ?_).trans (List.map_id r)
      rw [if_neg fun z => hr ⟨q, hq, z⟩]
      rfl
    unfold dget
    rw [List.map_cons, List.find?_cons, List.find?_cons]
    by_cases hp : p.1 = k
    · rw [if_pos hp]
      dsimp only
      by_cases hj : j = k
      · subst hj; rw [hp, decide_eq_true rfl, if_pos rfl]; rfl
      · rw [decide_eq_false (by rw [hp]; exact fun z => hj z.symm), if_neg hj]
        by_cases hr : ∃ q ∈ r, q.1 = k
        · have := dget_map (v := v) (j := j) r hr
          rw [if_neg hj] at this
          exact this
        · rw [same hr]
    · rw [if_neg hp]
      by_cases hj : p.1 = j
      · rw [decide_eq_true hj, if_neg (by rw [← hj]; exact hp)]
      · rw [decide_eq_false hj]
        obtain ⟨q, hq, e⟩ := h
        rcases List.mem_cons.mp hq with rfl | hq
        · exact absurd e hp
        · exact dget_map r ⟨q, hq, e⟩
theorem dget_put {κ α : Type} [DecidableEq κ] {kvs : List (κ × α)} {k j : κ} {v : α} : dget (dput kvs k v) j = if j = k then some v else dget kvs j := by
  unfold dput
  by_cases h : (kvs.any fun p => decide (p.1 = k)) = true
  · rw [if_pos h]
    obtain ⟨q, hq, e⟩ := List.any_eq_true.mp h
    exact dget_map kvs ⟨q, hq, of_decide_eq_true e⟩
  · rw [if_neg h]
    have hn : ∀ q ∈ kvs, q.1 ≠ k := fun q hq z => h (List.any_eq_true.mpr ⟨q, hq, decide_eq_true z⟩)
    unfold dget
    rw [List.find?_append]
    by_cases hj : j = k
    · subst hj
      have : kvs.find? (fun p => decide (p.1 = j)) = none := List.find?_eq_none.mpr fun q hq => by simpa using hn q hq
      rw [this, if_pos rfl]
      simp
    · rw [if_neg hj]
      have : [(k, v)].find? (fun p => decide (p.1 = j)) = none := List.find?_eq_none.mpr fun q hq => by
        rw [List.mem_singleton.mp hq]; simpa using fun z => hj z.symm
      rw [this, Option.or_none]
theorem dget_none {κ α : Type} [DecidableEq κ] {kvs : List (κ × α)} {k : κ} : dget kvs k = none ↔ k ∉ kvs.map (·.1) := by
  unfold dget
  rw [Option.map_eq_none_iff, List.find?_eq_none]
  constructor
  · intro h z
    obtain ⟨p, hp, e⟩ := List.mem_map.mp z
    exact h p hp (decide_eq_true e)
  · intro h p hp z
    exact h (List.mem_map.mpr ⟨p, hp, of_decide_eq_true z⟩)
/-- how often a cutter stands in the mates -/
abbrev cnt (m : List (Int × Int)) (x : Int) : Nat := m.countP fun p => decide (p.2 = x)
theorem dput_len_old {m : List (Int × Int)} {b x c : Int} (h : dget m b = some x) : (dput m b c).length = m.length := by
  unfold dput
  rw [if_pos, List.length_map]
  have := dget_mem h
  exact List.any_eq_true.mpr ⟨_, this, decide_eq_true rfl⟩
theorem cnt_old : ∀ {m : List (Int × Int)} {b x c : Int}, (m.map (·.1)).Nodup → dget m b = some x → ∀ y, cnt (dput m b c) y + (if y = x then 1 else 0) = cnt m y + (if y = c then 1 else 0)
  | [], b, x, c, _, h, y => by cases h
  | p :: m, b, x, c, nd, h, y => by
    rw [List.map_cons, List.nodup_cons] at nd
    by_cases hp : p.1 = b
    · have e1 : dput (p :: m) b c = (p.1, c) :: m := by
        unfold dput
        rw [if_pos (by rw [List.any_cons, decide_eq_true hp]; rfl), List.map_cons, if_pos hp]
        congr 1
        refine (List.map_congr_left fun q hq => ?_).trans (List.map_id m)
        rw [if_neg fun z => nd.1 (by rw [hp, ← z]; exact List.mem_map.mpr ⟨q, hq, rfl⟩)]
        rfl
      have e2 : p.2 = x := by
        unfold dget at h
        rw [List.find?_cons, decide_eq_true hp] at h
        cases h; rfl
      rw [e1]
      show ((p.1, c) :: m).countP _ + _ = (p :: m).countP _ + _
      rw [List.countP_cons, List.countP_cons, e2]
      by_cases h1 : c = y <;> by_cases h2 : x = y <;> simp [h1, h2, eq_comm] <;> omega
    · have h' : dget m b = some x := by
        unfold dget at h ⊢
        rw [List.find?_cons, decide_eq_false hp] at h
        exact h
      have e1 : dput (p :: m) b c = p :: dput m b c := by
        have a : m.any (fun p => decide (p.1 = b)) = true := List.any_eq_true.mpr ⟨_, dget_mem h', decide_eq_true rfl⟩
        unfold dput
        rw [if_pos (by rw [List.any_cons, a, Bool.or_true]), if_pos a, List.map_cons, if_neg hp]
      rw [e1]
      show (p :: dput m b c).countP _ + _ = (p :: m).countP _ + _
      rw [List.countP_cons, List.countP_cons]
      have z : (dput m b c).countP (fun p => decide (p.2 = y)) + (if y = x then 1 else 0) = m.countP (fun p => decide (p.2 = y)) + (if y = c then 1 else 0) := cnt_old (c := c) nd.2 h' y
      omega
theorem cnt_new {m : List (Int × Int)} {b c : Int} (h : dget m b = none) (y : Int) : cnt (dput m b c) y = cnt m y + (if y = c then 1 else 0) := by
  have hn := dget_none.mp h
  rw [dput_new fun p hp z => hn (List.mem_map.mpr ⟨p, hp, z⟩)]
  show (m ++ [(b, c)]).countP _ = _
  rw [List.countP_append]
  congr 1
  rw [List.countP_singleton]
  by_cases h1 : c = y <;> simp [h1, eq_comm]
/-- what placing a cutter does -/
structure PlT (pairs : List (Int × Int)) (c : Int) (s t : MS) : Prop where
  len : t.1.length = s.1.length + 1
  cn : ∀ y, cnt t.1 y = cnt s.1 y + (if y = c then 1 else 0)
  kp : ∀ b ∈ s.2, dget t.1 b = dget s.1 b
structure PlF (pairs ps : List (Int × Int)) (c : Int) (s t : MS) : Prop where
  same : t.1 = s.1
  all : ∀ b, (c, b) ∈ ps → b ∈ t.2
  new : ∀ b ∈ t.2, b ∉ s.2 → ∃ x, dget s.1 b = some x ∧ ∀ b', (x, b') ∈ pairs → b' ∈ t.2
def PlR (pairs ps : List (Int × Int)) (U : List Int) (c : Int) (s : MS) (r : Bool × MS) : Prop :=
  MI pairs U r.2 ∧ (∀ b ∈ s.2, b ∈ r.2.2) ∧ s.2.length ≤ r.2.2.length ∧ (r.1 = true → PlT pairs c s r.2) ∧ (r.1 = false → PlF pairs ps c s r.2)
theorem MI.step {pairs : List (Int × Int)} {U : List Int} {s : MS} (h : MI pairs U s) (hU : UB pairs U) {c b : Int} (hp : (c, b) ∈ pairs) (hb : b ∉ s.2) : MI pairs U (s.1, s.2 ++ [b]) := ⟨h.kn, h.ku, by
  rw [List.nodup_append]
  exact ⟨h.sn, by simp, fun x hx y hy e => hb (by rw [List.mem_singleton.mp hy] at e; rw [← e]; exact hx)⟩, fun x hx => by
  rcases List.mem_append.mp hx with hx | hx
  · exact h.su x hx
  · rw [List.mem_singleton.mp hx]; exact hU.sub _ hp⟩
theorem MI.put {pairs : List (Int × Int)} {U : List Int} {s : MS} (h : MI pairs U s) {c b : Int} (hp : (c, b) ∈ pairs) : MI pairs U (dput s.1 b c, s.2) := ⟨dput_nd h.kn, fun p hq => by
  rcases dput_mem hq with hq | ⟨e1, e2⟩
  · exact h.ku p hq
  · rw [e1, e2]; exact hp, h.sn, h.su⟩
theorem plcL_ok {pairs : List (Int × Int)} {U : List Int} (hU : UB pairs U) {rc : Int → MS → Option (Bool × MS)} {n : Nat}
    (hrc : ∀ x s, MI pairs U s → U.length - s.2.length < n → ∃ r, rc x s = some r ∧ PlR pairs pairs U x s r) (c : Int) : ∀ (ps : List (Int × Int)) (s : MS), (∀ p ∈ ps, p ∈ pairs) → MI pairs U s → U.length - s.2.length < n + 1 → ∃ r, plcL rc c ps s = some r ∧ PlR pairs ps U c s r
  | [], s, _, hs, _ => ⟨_, rfl, hs, fun _ h => h, Nat.le_refl _, fun z => (by cases z), fun _ => ⟨rfl, fun _ h => (by cases h), fun b hb hn => absurd hb hn⟩⟩
  | p :: ps, s, hps, hs, hn => by
    obtain ⟨a, b⟩ := p
    have hp := hps (a, b) (List.mem_cons_self ..)
    have hps' := fun q hq => hps q (List.mem_cons_of_mem _ hq)
    unfold plcL
    by_cases hc : a = c ∧ b ∉ s.2
    · rw [if_pos hc]
      obtain ⟨rfl, hb⟩ := hc
      have hs1 := hs.step hU hp hb
      cases hg : dget s.1 b with
      | none =>
        refine ⟨_, rfl, MI.put hs1 hp, fun x hx => List.mem_append_left _ hx, by show s.2.length ≤ (s.2 ++ [b]).length; rw [List.length_append]; omega, fun _ => ⟨?_, fun y => cnt_new hg y, fun x hx => ?_⟩, fun z => by cases z⟩
        · have hk := dget_none.mp hg
          show (dput s.1 b a).length = _
          rw [dput_new fun p hp z => hk (List.mem_map.mpr ⟨p, hp, z⟩), List.length_append]; rfl
        · show dget (dput s.1 b a) x = _
          rw [dget_put, if_neg fun z => hb (by rw [← z]; exact hx)]
      | some x =>
        have hlen : (s.2 ++ [b]).length ≤ U.length := nd_len hs1.sn hs1.su
        rw [List.length_append, List.length_singleton] at hlen
        obtain ⟨⟨k, t⟩, er, g1, g2, g3, g4, g5⟩ := hrc x (s.1, s.2 ++ [b]) hs1 (by show U.length - (s.2 ++ [b]).length < n; rw [List.length_append, List.length_singleton]; omega)
        dsimp only
        rw [er]
        have g3' : s.2.length + 1 ≤ t.2.length := by
          have : (s.2 ++ [b]).length ≤ t.2.length := g3
          rw [List.length_append, List.length_singleton] at this
          exact this
        have sub : ∀ y ∈ s.2, y ∈ t.2 := fun y hy => g2 y (List.mem_append_left _ hy)
        cases k with
        | true =>
          have T := g4 rfl
          have hbt : dget t.1 b = some x := by
            have := T.kp b (List.mem_append_right _ (List.mem_singleton_self _))
            rw [this]; exact hg
          refine ⟨_, rfl, MI.put g1 hp, sub, by show s.2.length ≤ t.2.length; omega, fun _ => ⟨?_, fun y => ?_, fun y hy => ?_⟩, fun z => by cases z⟩
          · show (dput t.1 b a).length = _
            rw [dput_len_old hbt]; exact T.len
          · have c1 : cnt (dput t.1 b a) y + (if y = x then 1 else 0) = cnt t.1 y + (if y = a then 1 else 0) := cnt_old (c := a) g1.kn hbt y
            have c2 : cnt t.1 y = cnt s.1 y + (if y = x then 1 else 0) := T.cn y
            show cnt (dput t.1 b a) y = _
            omega
          · show dget (dput t.1 b a) y = _
            rw [dget_put, if_neg fun z => hb (by rw [← z]; exact hy)]
            exact T.kp y (List.mem_append_left _ hy)
        | false =>
          have Fl := g5 rfl
          have e1 : t.1 = s.1 := Fl.same
          obtain ⟨r, e2, k1, k2, k3, k4, k5⟩ := plcL_ok hU hrc a ps t hps' g1 (by omega)
          refine ⟨r, e2, k1, fun y hy => k2 y (sub y hy), by omega, fun z => ?_, fun z => ?_⟩
          · have T := k4 z
            exact ⟨by rw [T.len, e1], fun y => by rw [T.cn y, e1], fun y hy => by rw [T.kp y (sub y hy), e1]⟩
          · have G := k5 z
            refine ⟨by rw [G.same, e1], fun y hy => ?_, fun y hy hny => ?_⟩
            · rcases List.mem_cons.mp hy with e | e
              · cases e
                exact k2 b (g2 b (List.mem_append_right _ (List.mem_singleton_self _)))
              · exact G.all y e
            · by_cases hyt : y ∈ t.2
              · by_cases hyb : y = b
                · subst hyb
                  exact ⟨x, hg, fun b' hb' => k2 b' (Fl.all b' hb')⟩
                · obtain ⟨x', f1, f2⟩ := Fl.new y hyt (fun z => by
                    rcases List.mem_append.mp z with z | z
                    · exact hny z
                    · exact hyb (List.mem_singleton.mp z))
                  exact ⟨x', f1, fun b' hb' => k2 b' (f2 b' hb')⟩
              · obtain ⟨x', f1, f2⟩ := G.new y hy hyt
                exact ⟨x', by rw [← e1]; exact f1, f2⟩
    · rw [if_neg hc]
      obtain ⟨r, e2, k1, k2, k3, k4, k5⟩ := plcL_ok hU hrc c ps s hps' hs hn
      refine ⟨r, e2, k1, k2, k3, k4, fun z => ?_⟩
      have G := k5 z
      refine ⟨G.same, fun y hy => ?_, G.new⟩
      rcases List.mem_cons.mp hy with e | e
      · have e1 : c = a := congrArg Prod.fst e
        have e2 : y = b := congrArg Prod.snd e
        have hy : b ∈ s.2 := by
          by_cases q : b ∈ s.2
          · exact q
          · exact absurd ⟨e1.symm, q⟩ hc
        rw [e2]
        exact k2 b hy
      · exact G.all y e
theorem plc_ok {pairs : List (Int × Int)} {U : List Int} (hU : UB pairs U) : ∀ (n : Nat) (c : Int) (s : MS), MI pairs U s → U.length - s.2.length < n → ∃ r, plc pairs n c s = some r ∧ PlR pairs pairs U c s r
  | 0, _, _, _, h => by omega
  | n + 1, c, s, hs, hn => plcL_ok hU (plc_ok hU n) c pairs s (fun _ h => h) hs hn
/-- a matching that uses cutters of D alone -/
structure Mtc (pairs : List (Int × Int)) (D : Int → Prop) (N : List (Int × Int)) : Prop where
  sub : ∀ p ∈ N, p ∈ pairs
  dom : ∀ p ∈ N, D p.1
  n1 : (N.map (·.1)).Nodup
  n2 : (N.map (·.2)).Nodup
structure MtM (pairs : List (Int × Int)) (D : Int → Prop) (m : List (Int × Int)) : Prop where
  kn : (m.map (·.1)).Nodup
  ku : ∀ p ∈ m, (p.2, p.1) ∈ pairs
  one : ∀ y, cnt m y ≤ 1
  dom : ∀ p ∈ m, D p.2
  max : ∀ N, Mtc pairs D N → N.length ≤ m.length
theorem nodup_of_cnt : ∀ {m : List (Int × Int)}, (∀ y, cnt m y ≤ 1) → (m.map (·.2)).Nodup
  | [], _ => .nil
  | p :: m, h => by
    rw [List.map_cons, List.nodup_cons]
    constructor
    · intro z
      obtain ⟨q, hq, e⟩ := List.mem_map.mp z
      have h1 := h p.2
      have h2 : 0 < m.countP fun q => decide (q.2 = p.2) := List.countP_pos_iff.mpr ⟨q, hq, decide_eq_true e⟩
      have h1 : (p :: m).countP (fun q => decide (q.2 = p.2)) ≤ 1 := h1
      rw [List.countP_cons, if_pos (decide_eq_true rfl)] at h1
      omega
    · refine nodup_of_cnt fun y => ?_
      have h1 : (p :: m).countP (fun q => decide (q.2 = y)) ≤ 1 := h y
      rw [List.countP_cons] at h1
      show m.countP _ ≤ 1
      omega
theorem cnt_zero {m : List (Int × Int)} {c : Int} (h : ∀ p ∈ m, p.2 ≠ c) : cnt m c = 0 := by
  show m.countP _ = 0
  rw [List.countP_eq_zero]
  intro p hp z
  exact h p hp (of_decide_eq_true z)
theorem mem_cnt {m : List (Int × Int)} {p : Int × Int} (h : p ∈ m) : 0 < cnt m p.2 := List.countP_pos_iff.mpr ⟨p, h, decide_eq_true rfl⟩
theorem MtM.mtc {pairs : List (Int × Int)} {D : Int → Prop} {m : List (Int × Int)} (h : MtM pairs D m) : Mtc pairs D (m.map fun p => (p.2, p.1)) := ⟨fun p hp => by
  obtain ⟨q, hq, rfl⟩ := List.mem_map.mp hp
  exact h.ku q hq, fun p hp => by
  obtain ⟨q, hq, rfl⟩ := List.mem_map.mp hp
  exact h.dom q hq, by rw [List.map_map]; exact nodup_of_cnt h.one, by rw [List.map_map]; exact h.kn⟩
theorem nodup_filter_map {α β : Type} {f : α → β} {N : List α} (h : (N.map f).Nodup) (p : α → Bool) : ((N.filter p).map f).Nodup := h.sublist (List.Sublist.map _ List.filter_sublist)
theorem filter_two {α : Type} (p : α → Bool) : ∀ N : List α, N.length = (N.filter p).length + (N.filter fun x => !p x).length
  | [] => rfl
  | x :: N => by
    rw [List.filter_cons, List.filter_cons]
    have := filter_two p N
    cases p x <;> simp <;> omega
theorem mt_of {pairs : List (Int × Int)} {U : List Int} {D : Int → Prop} {m : List (Int × Int)} (h : MtM pairs D m) {c : Int} (hc : ¬ D c) {k : Bool} {t : MS} (g1 : MI pairs U t) (g4 : k = true → PlT pairs c (m, []) t) (g5 : k = false → PlF pairs pairs c (m, []) t) : MtM pairs (fun x => D x ∨ x = c) t.1 := by
  cases k with
  | true =>
    have T := g4 rfl
    have len : t.1.length = m.length + 1 := T.len
    have cn : ∀ y, cnt t.1 y = cnt m y + (if y = c then 1 else 0) := T.cn
    have c0 : cnt m c = 0 := cnt_zero fun p hp z => hc (by rw [← z]; exact h.dom p hp)
    refine ⟨g1.kn, g1.ku, fun y => ?_, fun p hp => ?_, fun N hN => ?_⟩
    · have := h.one y
      have := cn y
      split at this
      · rename_i hy; subst hy; show cnt t.1 y ≤ 1; omega
      · show cnt t.1 y ≤ 1; omega
    · have h1 : 0 < cnt t.1 p.2 := mem_cnt hp
      have h2 := cn p.2
      by_cases z : p.2 = c
      · exact .inr z
      · rw [if_neg z] at h2
        have : 0 < m.countP fun q => decide (q.2 = p.2) := by show 0 < cnt m p.2; omega
        obtain ⟨q, hq, e⟩ := List.countP_pos_iff.mp this
        have := h.dom q hq
        rw [of_decide_eq_true e] at this
        exact .inl this
    · have a1 := h.max (N.filter fun p => !decide (p.1 = c)) ⟨fun p hp => hN.sub p (List.mem_filter.mp hp).1, (fun p hp => by
        obtain ⟨k1, k2⟩ := List.mem_filter.mp hp
        rcases hN.dom p k1 with d | d
        · exact d
        · rw [decide_eq_true d] at k2; cases k2), nodup_filter_map hN.n1 _, nodup_filter_map hN.n2 _⟩
      have a2 := filter_two (fun p : Int × Int => decide (p.1 = c)) N
      have a3 : (N.filter fun p => decide (p.1 = c)).length ≤ 1 := by
        have nd := nodup_filter_map hN.n1 fun p => decide (p.1 = c)
        have := nd_len (ys := [c]) nd fun x hx => by
          obtain ⟨p, hp, rfl⟩ := List.mem_map.mp hx
          exact List.mem_singleton.mpr (of_decide_eq_true (List.mem_filter.mp hp).2)
        rwa [List.length_map] at this
      show N.length ≤ t.1.length
      omega
  | false =>
    have Fl := g5 rfl
    have e1 : t.1 = m := Fl.same
    show MtM pairs _ t.1
    rw [e1]
    refine ⟨h.kn, h.ku, h.one, fun p hp => .inl (h.dom p hp), fun N hN => ?_⟩
    have hS : ∀ b ∈ t.2, ∃ x, dget m b = some x ∧ ∀ b', (x, b') ∈ pairs → b' ∈ t.2 := fun b hb => Fl.new b hb fun z => by cases z
    have a2 := filter_two (fun p : Int × Int => decide (p.2 ∈ t.2)) N
    have a1 : (N.filter fun p => decide (p.2 ∈ t.2)).length ≤ (m.filter fun q => decide (q.1 ∈ t.2)).length := by
      have nd := nodup_filter_map hN.n2 fun p => decide (p.2 ∈ t.2)
      have := nd_len (ys := (m.filter fun q => decide (q.1 ∈ t.2)).map (·.1)) nd fun b hb => by
        obtain ⟨p, hp, rfl⟩ := List.mem_map.mp hb
        have hb := of_decide_eq_true (List.mem_filter.mp hp).2
        obtain ⟨x, hx, _⟩ := hS _ hb
        exact List.mem_map.mpr ⟨_, List.mem_filter.mpr ⟨dget_mem hx, decide_eq_true hb⟩, rfl⟩
      rwa [List.length_map, List.length_map] at this
    have tc : ∀ q ∈ m, q.1 ∈ t.2 → ∀ b', (q.2, b') ∈ pairs → b' ∈ t.2 := fun q hq hb => by
      obtain ⟨x, hx, h2⟩ := hS _ hb
      have := dget_mem hx
      have e : q.2 = x := by
        have i1 := List.mem_iff_getElem?.mp hq
        have i2 := List.mem_iff_getElem?.mp this
        obtain ⟨i, hi⟩ := i1
        obtain ⟨j, hj⟩ := i2
        have nd := List.pairwise_iff_getElem.mp h.kn
        obtain ⟨li, ei⟩ := List.getElem?_eq_some_iff.mp hi
        obtain ⟨lj, ej⟩ := List.getElem?_eq_some_iff.mp hj
        rcases Nat.lt_trichotomy i j with l | l | l
        · have := nd i j (by rw [List.length_map]; exact li) (by rw [List.length_map]; exact lj) l
          rw [List.getElem_map, List.getElem_map, ei, ej] at this
          exact absurd rfl this
        · subst l; rw [ei] at ej; rw [ej]
        · have := nd j i (by rw [List.length_map]; exact lj) (by rw [List.length_map]; exact li) l
          rw [List.getElem_map, List.getElem_map, ei, ej] at this
          exact absurd rfl this
      rw [e]; exact h2
    have hNB : Mtc pairs D (((m.filter fun q => decide (q.1 ∈ t.2)).map fun q => (q.2, q.1)) ++ N.filter fun p => !decide (p.2 ∈ t.2)) := by
      have hm' := h.mtc
      refine ⟨fun p hp => ?_, fun p hp => ?_, ?_, ?_⟩
      · rcases List.mem_append.mp hp with hp | hp
        · obtain ⟨q, hq, rfl⟩ := List.mem_map.mp hp
          exact h.ku q (List.mem_filter.mp hq).1
        · exact hN.sub p (List.mem_filter.mp hp).1
      · rcases List.mem_append.mp hp with hp | hp
        · obtain ⟨q, hq, rfl⟩ := List.mem_map.mp hp
          exact h.dom q (List.mem_filter.mp hq).1
        · obtain ⟨k1, k2⟩ := List.mem_filter.mp hp
          rcases hN.dom p k1 with d | d
          · exact d
          · have : p.2 ∈ t.2 := Fl.all p.2 (by rw [← d]; exact hN.sub p k1)
            rw [decide_eq_true this] at k2; cases k2
      · rw [List.map_append, List.map_map, List.nodup_append]
        refine ⟨nodup_filter_map (nodup_of_cnt h.one) _, nodup_filter_map hN.n1 _, fun x hx y hy e => ?_⟩
        obtain ⟨q, hq, rfl⟩ := List.mem_map.mp hx
        obtain ⟨p, hp, rfl⟩ := List.mem_map.mp hy
        obtain ⟨k1, k2⟩ := List.mem_filter.mp hq
        obtain ⟨k3, k4⟩ := List.mem_filter.mp hp
        have e : q.2 = p.1 := e
        have : p.2 ∈ t.2 := tc q k1 (of_decide_eq_true k2) p.2 (by rw [e]; exact hN.sub p k3)
        rw [decide_eq_true this] at k4; cases k4
      · rw [List.map_append, List.map_map, List.nodup_append]
        refine ⟨nodup_filter_map h.kn _, nodup_filter_map hN.n2 _, fun x hx y hy e => ?_⟩
        obtain ⟨q, hq, rfl⟩ := List.mem_map.mp hx
        obtain ⟨p, hp, rfl⟩ := List.mem_map.mp hy
        have k2 := of_decide_eq_true (List.mem_filter.mp hq).2
        have k4 := (List.mem_filter.mp hp).2
        have e : q.1 = p.2 := e
        rw [e] at k2
        rw [decide_eq_true k2] at k4; cases k4
    have := h.max _ hNB
    rw [List.length_append, List.length_map] at this
    omega
theorem mt_step {pairs : List (Int × Int)} {U : List Int} (hU : UB pairs U) {D : Int → Prop} {m : List (Int × Int)} (h : MtM pairs D m) {c : Int} (hc : ¬ D c) : ∃ r, plc pairs 18 c (m, []) = some r ∧ MtM pairs (fun x => D x ∨ x = c) r.2.1 := by
  have hm : MI pairs U (m, []) := ⟨h.kn, h.ku, .nil, fun _ h => by cases h⟩
  have hl := hU.len
  obtain ⟨⟨k, t⟩, e, g1, _, _, g4, g5⟩ := plc_ok hU 18 c (m, []) hm (by show U.length - 0 < 18; omega)
  exact ⟨_, e, mt_of h hc g1 g4 g5⟩
theorem runM_ok {pairs : List (Int × Int)} {U : List Int} (hU : UB pairs U) : ∀ (cs : List Int) (D : Int → Prop) (m : List (Int × Int)), MtM pairs D m → cs.Nodup → (∀ c ∈ cs, ¬ D c) → ∃ m', runM pairs 18 cs m = some m' ∧ MtM pairs (fun x => D x ∨ x ∈ cs) m'
  | [], D, m, h, _, _ => ⟨m, rfl, h.kn, h.ku, h.one, fun p hp => .inl (h.dom p hp), fun N hN => h.max N ⟨hN.sub, fun p hp => (hN.dom p hp).elim id fun z => (by cases z), hN.n1, hN.n2⟩⟩
  | c :: cs, D, m, h, nd, hd => by
    rw [List.nodup_cons] at nd
    obtain ⟨r, e, h1⟩ := mt_step hU h (hd c (List.mem_cons_self ..))
    obtain ⟨m', e2, h2⟩ := runM_ok hU cs (fun x => D x ∨ x = c) r.2.1 h1 nd.2 (fun x hx z => z.elim (hd x (List.mem_cons_of_mem _ hx)) fun z => nd.1 (by rw [← z]; exact hx))
    refine ⟨m', by unfold runM; rw [e]; exact e2, h2.kn, h2.ku, h2.one, fun p hp => ?_, fun N hN => h2.max N ⟨hN.sub, fun p hp => ?_, hN.n1, hN.n2⟩⟩
    · rcases h2.dom p hp with (z | z) | z
      · exact .inl z
      · exact .inr (by rw [z]; exact List.mem_cons_self ..)
      · exact .inr (List.mem_cons_of_mem _ z)
    · rcases hN.dom p hp with z | z
      · exact .inl (.inl z)
      · rcases List.mem_cons.mp z with z | z
        · exact .inl (.inr z)
        · exact .inr z
/-- the mates that a row of cutters comes to -/
theorem run_ok {pairs : List (Int × Int)} {U : List Int} (hU : UB pairs U) {cs : List Int} (nd : cs.Nodup) : ∃ m, runM pairs 18 cs [] = some m ∧ MtM pairs (fun x => x ∈ cs) m := by
  obtain ⟨m, e, h⟩ := runM_ok hU cs (fun _ => False) [] ⟨.nil, fun _ h => (by cases h), fun _ => Nat.zero_le _, fun _ h => (by cases h), fun N hN => by
    cases N with
    | nil => exact Nat.le_refl _
    | cons p N => exact (hN.dom p (List.mem_cons_self ..)).elim⟩ nd fun _ _ h => h
  exact ⟨m, e, h.kn, h.ku, h.one, fun p hp => (h.dom p hp).elim (fun z => z.elim) id, fun N hN => h.max N ⟨hN.sub, fun p hp => .inr (hN.dom p hp), hN.n1, hN.n2⟩⟩
end Zm
/-! Mates and what has been seen, at two places of the store. -/
namespace Zm
open PySem PySem.Spec PyProof.Rows L2
open WM (pu bd)
open LO (lf)
def kbM (seen : List Int) : MO := .dct ((eKs PyData.int PyData.bool (seen.map fun b => (b, true))).map fun p => (p.1, Val.d p.2))
def WW (SM : List Int → MO) (M0 : Mm) (i j : Nat) (m : List (Int × Int)) (s : List Int) : Mm := (M0.set i (kvM m)).set j (SM s)
section
variable {SM : List Int → MO} {M0 : Mm} {i j : Nat} {m m' : List (Int × Int)} {s s' : List Int}
theorem ww_len : (WW SM M0 i j m s).length = M0.length := by unfold WW; rw [List.length_set, List.length_set]
theorem ww_i (hi : i < M0.length) (hij : i ≠ j) : (WW SM M0 i j m s)[i]? = some (kvM m) := by
  unfold WW
  rw [List.getElem?_set_ne fun z => hij z.symm, List.getElem?_set_self hi]
theorem ww_j (hj : j < M0.length) : (WW SM M0 i j m s)[j]? = some (SM s) := by
  unfold WW
  rw [List.getElem?_set_self (by rw [List.length_set]; exact hj)]
theorem ww_si (hij : i ≠ j) : (WW SM M0 i j m s).set i (kvM m') = WW SM M0 i j m' s := by
  unfold WW
  rw [List.set_comm _ _ (fun z => hij z.symm), List.set_set]
theorem ww_sj : (WW SM M0 i j m s).set j (SM s') = WW SM M0 i j m s' := by
  unfold WW
  rw [List.set_set]
theorem ww_rdi (hi : i < M0.length) (hij : i ≠ j) : rd (.obj i) (WW SM M0 i j m s) = .obj i := by
  show (match (WW SM M0 i j m s)[i]? with | some (.frz x) => Val.d x | _ => .obj i) = _
  rw [ww_i hi hij]
  rfl
theorem isSome_dget (b : Int) : (dget (s.map fun b => (b, true)) b).isSome = decide (b ∈ s) := by
  by_cases h : b ∈ s
  · rw [decide_eq_true h]
    cases q : dget (s.map fun b => (b, true)) b with
    | some _ => rfl
    | none => exact absurd (List.mem_map.mpr ⟨(b, true), List.mem_map.mpr ⟨b, h, rfl⟩, rfl⟩) (dget_none.mp q)
  · rw [decide_eq_false h]
    cases q : dget (s.map fun b => (b, true)) b with
    | none => rfl
    | some v =>
      have := dget_mem q
      obtain ⟨x, hx, e⟩ := List.mem_map.mp this
      cases e
      exact absurd hx h
section
variable {M : Mm} {neg : Bool} {b c x : Int}
theorem dct_in {κ α : Type} [DecidableEq κ] {ek : κ → PyData} {ev : α → PyData} (K : KeyE ek) {kvs : List (κ × α)} {k : κ} (h : M[i]? = some (.dct ((eKs ek ev kvs).map fun p => (p.1, Val.d p.2)))) : vInX neg (.d (ek k)) (.obj i) M = .ok (.d (.bool (xor neg (dget kvs k).isSome))) M := by
  have hd : dctV (.obj i) M = some ((eKs ek ev kvs).map fun p => (p.1, Val.d p.2)) := by
    show (match M[i]? with | some (.dct kvs) => some kvs | _ => none) = _
    rw [h]
  unfold vInX isDct
  rw [hd]
  show vDIn neg (.d (ek k)) (.obj i) M = _
  unfold vDIn
  rw [K.kv, hd]
  dsimp only
  rw [find_eKs K, Option.isSome_map]
theorem in_kv (h : M[i]? = some (kvM m)) : vInX neg (.d (.int b)) (.obj i) M = .ok (.d (.bool (xor neg (dget m b).isSome))) M := dct_in key_int h
theorem in_kb (h : M[i]? = some (kbM s)) : vInX neg (.d (.int b)) (.obj i) M = .ok (.d (.bool (xor neg (decide (b ∈ s))))) M := by
  have := dct_in (neg := neg) (k := b) key_int h
  rw [isSome_dget] at this
  exact this
theorem ix_kv (h : M[i]? = some (kvM m)) (hx : dget m b = some x) : vIxX (.obj i) (.d (.int b)) M = .ok (.d (.int x)) M := by
  have hd : dctV (.obj i) M = some ((eKs PyData.int PyData.int m).map fun p => (p.1, Val.d p.2)) := by
    show (match M[i]? with | some (.dct kvs) => some kvs | _ => none) = _
    rw [h]
    rfl
  unfold vIxX isDct
  rw [hd]
  show vDIx (.obj i) (.d (.int b)) M = _
  unfold vDIx
  rw [hd]
  show (match findD (.int b) ((eKs PyData.int PyData.int m).map fun p => (p.1, Val.d p.2)) with | some u => Out.ok (rd u M) M | none => .bad) = _
  rw [find_eKs key_int, hx]
  rfl
theorem dct_set {κ α : Type} [DecidableEq κ] {ek : κ → PyData} {ev : α → PyData} (K : KeyE ek) {kvs : List (κ × α)} {k : κ} {v : α} (h : M[i]? = some (.dct ((eKs ek ev kvs).map fun p => (p.1, Val.d p.2)))) (hl : kvs.length < 16777216) : vSetX (.obj i) (.d (ek k)) (.d (ev v)) M = some (M.set i (.dct ((eKs ek ev (dput kvs k v)).map fun p => (p.1, Val.d p.2)))) := by
  have hd : isDct (.obj i) M = true := by
    unfold isDct
    show (match M[i]? with | some (.dct kvs) => some kvs | _ => none).isSome = true
    rw [h]
    rfl
  unfold vSetX
  rw [hd]
  show vSetD (.obj i) (.d (ek k)) (.d (ev v)) M = _
  unfold vSetD
  rw [K.kv]
  dsimp only
  rw [h]
  dsimp only
  rw [if_pos (by rw [List.length_map, List.length_map]; exact hl), put_eKs K]
theorem set_kv (h : M[i]? = some (kvM m)) (hl : m.length < 16777216) : vSetX (.obj i) (.d (.int b)) (.d (.int c)) M = some (M.set i (kvM (dput m b c))) := dct_set key_int h hl
theorem set_kb (h : M[i]? = some (kbM s)) (hb : b ∉ s) (hl : s.length < 16777216) : vSetX (.obj i) (.d (.int b)) (.d (.bool true)) M = some (M.set i (kbM (s ++ [b]))) := by
  have := dct_set (ev := PyData.bool) (k := b) (v := true) key_int h (by rw [List.length_map]; exact hl)
  rw [dput_new (fun p hp z => by
    obtain ⟨y, hy, rfl⟩ := List.mem_map.mp hp
    have z : y = b := z
    exact hb (by rw [← z]; exact hy))] at this
  refine this.trans ?_
  unfold kbM
  rw [List.map_append]
  rfl
end
theorem MI.ml {pairs : List (Int × Int)} {U : List Int} {s : MS} (hU : UB pairs U) (h : MI pairs U s) : s.1.length ≤ 16 := by
  have := nd_len h.kn (ys := U) fun b hb => by
    obtain ⟨p, hp, rfl⟩ := List.mem_map.mp hb
    exact hU.sub _ (h.ku p hp)
  rw [List.length_map] at this
  exact Nat.le_trans this hU.len
theorem MI.sl {pairs : List (Int × Int)} {U : List Int} {s : MS} (hU : UB pairs U) (h : MI pairs U s) : s.2.length ≤ 16 := Nat.le_trans (nd_len h.sn h.su) hU.len
theorem MI.nil {pairs : List (Int × Int)} {U : List Int} : MI pairs U ([], []) := ⟨.nil, (fun _ h => by cases h), .nil, fun _ h => by cases h⟩
theorem runM_MI {pairs : List (Int × Int)} {U : List Int} (hU : UB pairs U) : ∀ (cs : List Int) (m m' : List (Int × Int)), MI pairs U (m, []) → runM pairs 18 cs m = some m' → MI pairs U (m', [])
  | [], m, m', h, e => by cases e; exact h
  | c :: cs, m, m', h, e => by
    have hl := hU.len
    obtain ⟨⟨k, t⟩, er, g1, _⟩ := plc_ok hU 18 c (m, []) h (by show U.length - 0 < 18; omega)
    unfold runM at e
    rw [er] at e
    exact runM_MI hU cs t.1 m' ⟨g1.kn, g1.ku, .nil, fun _ h => by cases h⟩ e
theorem itsV_kv : ∀ m : List (Int × Int), itsV ((eKs PyData.int PyData.int m).map fun p => (p.1, Val.d p.2)) = some (m.map fun p => .tuple [.int p.1, .int p.2])
  | [] => rfl
  | p :: m => by
    show (itsV ((eKs PyData.int PyData.int m).map fun p => (p.1, Val.d p.2))).map (PyData.tuple [.int p.1, .int p.2] :: ·) = _
    rw [itsV_kv m]
    rfl
end
end Zm
/-! zip of two lists, walked. -/
namespace Zm
open PySem PySem.Spec PyProof.Rows L2
open WM (pu bd)
open LO (lf)
def zipK (vs : List Val) (M : Mm) : Out (List Val) := match vs with
  | [.d (.list ds), .d (.list es)] => .ok ((ds.zip es).map fun p => .d (.tuple [p.1, p.2])) M
  | [.d (.tuple ds), .d (.tuple es)] => .ok ((ds.zip es).map fun p => .d (.tuple [p.1, p.2])) M
  | _ => .bad
def mZip (ms : AM) : AM := fun s M => (ms s M).bind zipK
section
variable {X : Cx} {W : WX}
end
section
variable {𝔅 : Bas} {μ : Type → Type} [LO μ] {α β γ δ τ ρ σ φ ψ κ : Type} {Γ Γx : Cs}
variable {ε ζ : Type}
def toP5 (d : PyData → Option α) (e : PyData → Option β) (f : PyData → Option γ) (g : PyData → Option δ) (h : PyData → Option ε) : PyData → Option (α × β × γ × δ × ε)
  | .tuple [x, y, z, u, v] => (d x).bind fun a => (e y).bind fun b => (f z).bind fun c => (g u).bind fun k => (h v).map fun l => (a, b, c, k, l)
  | _ => none
end
end Zm
/-! A list so many times. -/
namespace Zm
open PySem PySem.Spec PyProof.Rows L2
open WM (pu bd)
open LO (lf)
section
variable {α : Type}
def repL (xs : List α) (k : Int) : Option (List α) := if k.natAbs ≤ 1000000000 ∧ xs.length * k.toNat ≤ 16777216 then some (List.replicate k.toNat xs).flatten else none
end
end Zm
/-! dict(xs) of a list of pairs. -/
namespace Zm
open PySem PySem.Spec PyProof.Rows L2
def pairsKD : List PyData → Option (List (PyData × PyData))
  | [] => some []
  | .tuple [k, v] :: ds => match keyV (.d k), pairsKD ds with
    | some k, some r => some ((k, v) :: r)
    | _, _ => none
  | _ :: _ => none
def mergeD (kvs more : List (PyData × PyData)) : List (PyData × PyData) := more.foldl (fun a p => putD a p.1 p.2) kvs
section
variable {K : PySem.W.Frag} {mg : Str → Option Value} {G : Gh} {H : Hp} {M : Mm}
theorem rks_any (y : Key) : ∀ {ys : List (Key × V)} {ds : List (PyData × PyData)}, RKs K G.F H ys ds → (ds.any fun p => eqK p.1 (keyD y)) = ys.any fun p => decide (p.1 = y)
  | _, _, .nil => rfl
  | _, _, .cons h t => by rw [List.any_cons, List.any_cons, eqK_keyD, rks_any y t]
theorem rks_app {ys zs : List (Key × V)} {ds es : List (PyData × PyData)} (h : RKs K G.F H ys ds) (t : RKs K G.F H zs es) : RKs K G.F H (ys ++ zs) (ds ++ es) := by
  induction ys generalizing ds with
  | nil => cases h; exact t
  | cons y ys ih =>
    cases h with
    | cons h1 h2 => exact .cons h1 (ih h2)
theorem rks_repl (y : Key) {u : V} {d : PyData} (r : RV K G.F H u d) : ∀ {ys : List (Key × V)} {ds : List (PyData × PyData)}, RKs K G.F H ys ds → RKs K G.F H (ys.map fun p => if p.1 = y then (p.1, u) else p) (ds.map fun p => if eqK p.1 (keyD y) = true then (p.1, d) else p)
  | _, _, .nil => .nil
  | (k, v) :: ys, (kd, d') :: ds, h => by
    cases h with
    | cons h1 h2 =>
      rw [List.map_cons, List.map_cons, eqK_keyD]
      by_cases e : k = y
      · rw [decide_eq_true e, if_pos e, if_pos rfl]
        exact .cons r (rks_repl y r h2)
      · rw [decide_eq_false e, if_neg e, if_neg (by decide)]
        exact .cons h1 (rks_repl y r h2)
theorem rks_put (y : Key) {u : V} {d : PyData} (r : RV K G.F H u d) {ys : List (Key × V)} {ds : List (PyData × PyData)} (p : RKs K G.F H ys ds) : RKs K G.F H (putK ys y u) (putD ds (keyD y) d) := by
  unfold putK putD
  rw [rks_any y p]
  split
  · exact rks_repl y r p
  · exact rks_app p (.cons r .nil)
theorem rks_merge : ∀ {more : List (Key × V)} {ds : List (PyData × PyData)}, RKs K G.F H more ds → ∀ {kvs : List (Key × V)} {es : List (PyData × PyData)}, RKs K G.F H kvs es → RKs K G.F H (mergeK kvs more) (mergeD es ds)
  | _, _, .nil, _, _, h => h
  | _, _, .cons h1 h2, _, _, h => rks_merge h2 (rks_put _ h1 h)
theorem pairs_kd : ∀ {ds : List PyData} {kds : List (PyData × PyData)} {xs : List V}, RVs K G.F H xs ds → pairsKD ds = some kds → ∃ (ps : List Addr) (kvs : List (Key × V)), xs = ps.map V.ref ∧ Paired (fun p kv => SqT K H p [kV kv.1, kv.2]) ps kvs ∧ RKs K G.F H kvs kds
  | [], _, _, .nil, h => by cases h; exact ⟨[], [], rfl, .nil, .nil⟩
  | d :: ds, kds, x :: xs, .cons r1 r2, h => by
    unfold pairsKD at h
    split at h
    · rename_i heq
      cases heq
    · rename_i k v ds' heq
      cases heq
      split at h
      · rename_i k' r e1 e2
        cases h
        obtain ⟨ps, kvs, f1, f2, f3⟩ := pairs_kd r2 e2
        cases r1 with
        | tup h1 h2 =>
          cases h2 with
          | cons g1 g2 =>
            cases g2 with
            | cons g2 g3 =>
              cases g3
              obtain ⟨y, rfl, rfl⟩ := keyV_ok (mg := fun _ => none) (G := G) (v := .d k) e1 g1
              exact ⟨_ :: ps, (y, _) :: kvs, by rw [List.map_cons, ← f1], .cons (SqT.of h1) f2, .cons g2 f3⟩
      · cases h
    · cases h
end
section
variable {X : Cx} {W : WX}
/-- dict(xs), by value -/
def vDictP (vs : List Val) (M : Mm) : Out Val := match vs with
  | [v] => match listD v M with
    | some ds => match pairsKD ds with
      | some kds => .ok (.d (.dict (mergeD [] kds))) M
      | none => .bad
    | none => .bad
  | _ => .bad
theorem cz_dictP : CallZ X (fun xs H Q => ∃ (a : Addr) (ps : List Addr) (kvs : List (Key × V)), xs = [.ref a] ∧ SqL X.K H a (ps.map V.ref) ∧ Paired (fun p kv => SqT X.K H p [kV kv.1, kv.2]) ps kvs ∧
    ∀ p, H p = none → Q (.ref p) (upd H p (.dK (mergeK [] kvs)))) vDictP := by
  intro W G M σ H Q xs vs S r p
  unfold vDictP at p
  split at p
  · cases r with
    | cons r1 r2 =>
      cases r2
      split at p
      · rename_i ds hd
        split at p
        · rename_i kds hk
          obtain ⟨a, ys, rfl, h, hr⟩ := listD_ok S r1 hd
          obtain ⟨ps, kvs, e1, e2, e3⟩ := pairs_kd hr hk
          subst e1
          refine ⟨a, ps, kvs, rfl, h, e2, fun l hl => ?_⟩
          obtain ⟨S2, e2⟩ := S.layF (o := .dK (mergeK [] kvs)) hl
          exact p _ _ _ e2 S2 (RV.dct (.inl rfl) upd_same (RKs.ext e2 _ _ (rks_merge e3 .nil)))
        · exact p.elim
      · exact p.elim
  · exact p.elim
end
/-! .. read by the pure layer -/
section
variable {κ α : Type} [DecidableEq κ]
def dOfP (ps : List (κ × α)) : List (κ × α) := ps.foldl (fun a p => dput a p.1 p.2) []
theorem put_eK2 {ek : κ → PyData} {ev : α → PyData} (K : KeyE ek) (k : κ) (v : α) (kvs : List (κ × α)) : putD (eKs ek ev kvs) (ek k) (ev v) = eKs ek ev (dput kvs k v) := by
  have ha : ((eKs ek ev kvs).any fun p => eqK p.1 (ek k)) = kvs.any fun p => decide (p.1 = k) := by
    rw [List.any_map]
    congr 1
    funext p
    exact K.eq _ _
  unfold putD dput
  rw [ha]
  split
  · unfold eKs
    rw [List.map_map, List.map_map]
    refine List.map_congr_left fun p _ => ?_
    show (if eqK (ek p.1) (ek k) = true then (ek p.1, ev v) else (ek p.1, ev p.2)) = (fun p : κ × α => (ek p.1, ev p.2)) (if p.1 = k then (p.1, v) else p)
    rw [K.eq]
    by_cases e : p.1 = k
    · rw [decide_eq_true e, if_pos rfl, if_pos e]
    · rw [decide_eq_false e, if_neg (by decide), if_neg e]
  · unfold eKs
    rw [List.map_append]
    rfl
theorem merge_eK {ek : κ → PyData} {ev : α → PyData} (K : KeyE ek) : ∀ (ps kvs : List (κ × α)), mergeD (eKs ek ev kvs) (ps.map fun p => (ek p.1, ev p.2)) = eKs ek ev (ps.foldl (fun a p => dput a p.1 p.2) kvs)
  | [], _ => rfl
  | p :: ps, kvs => by
    show mergeD (putD (eKs ek ev kvs) (ek p.1) (ev p.2)) (ps.map fun p => (ek p.1, ev p.2)) = _
    rw [put_eK2 K, merge_eK K ps]
    rfl
theorem pairs_eK {ek : κ → PyData} {ev : α → PyData} (K : KeyE ek) : ∀ ps : List (κ × α), pairsKD (ps.map (eP2 ek ev)) = some (ps.map fun p => (ek p.1, ev p.2))
  | [] => rfl
  | p :: ps => by
    rw [List.map_cons]
    show (match keyV (.d (ek p.1)), pairsKD (ps.map (eP2 ek ev)) with
      | some k, some r => some ((k, ev p.2) :: r)
      | _, _ => none) = _
    rw [K.kv, pairs_eK K ps]
    rfl
theorem cz_dictK {ek : κ → PyData} {ev : α → PyData} (K : KeyE ek) (a : List (κ × α)) (v : Val) (M : Mm) (r : RdAs v M (eL (eP2 ek ev) a)) : vDictP [v] M = .ok (.d (eK ek ev (dOfP a))) M := by
  have e := (rd_listD r).1
  show (match listD v M with
    | some ds => match pairsKD ds with
      | some kds => Out.ok (Val.d (.dict (mergeD [] kds))) M
      | none => .bad
    | none => .bad) = _
  rw [e]
  dsimp only
  rw [pairs_eK K]
  show Out.ok (Val.d (.dict (mergeD (eKs ek ev []) _))) M = _
  rw [merge_eK K]
  rfl
end
end Zm
/-! max of a list of ints. -/
namespace Zm
open PySem PySem.Spec PyProof.Rows L2
section
variable {X : Cx} {W : WX}
end
/-- the greatest of some ints -/
def maxI : List Int → Option Int
  | [] => none
  | x :: xs => some (xs.foldl (fun a b => if b > a then b else a) x)
section
variable {X : Cx} {W : WX}
def vMaxL (vs : List Val) (M : Mm) : Out Val := match vs with
  | [v] => match listD v M with
    | some ds => match intsD ds with
      | some ns => match maxI ns with
        | some m => .ok (.d (.int m)) M
        | none => .bad
      | none => .bad
    | none => .bad
  | _ => .bad
end
/-! .. read by the pure layer -/
end Zm
/-! a comprehension over a dict whose keys are tuples: its turns know no places -/
namespace Zm
open PySem PySem.Spec PyProof.Rows L2
def keysTD (kvs : List (List Key × Val)) : List PyData := kvs.map fun p => .tuple (p.1.map keyD)
noncomputable def mCompKT (i : Nat) (g : GM) (t : TM) (e : EM) (own : List Nat) : EM := fun s M => match s[i]? with
  | some (some (.obj j)) => match M[j]? with
    | some (.dcT kvs) => match (compL g t e (wipeS (datS s) own) ((keysTD kvs).map .d) []).bind lcK with
      | .ok (.d x) [] => .ok (.d x) M
      | _ => .bad
    | _ => .bad
  | _ => .bad
theorem kts_get {K : PySem.W.Frag} {G : Gh} {H : Hp} {ys : List (List Key × V)} {kvs : List (List Key × Val)} {ds : List PyData} (h : PTs K mg G H ys kvs) (e : keysTD kvs = ds) : ys.length = ds.length ∧ ∀ (i : Nat) (y : List Key × V) (d : PyData), ys[i]? = some y → ds[i]? = some d → d = .tuple (y.1.map keyD) := by
  subst e
  induction h with
  | nil => exact ⟨rfl, fun i y d h => by simp at h⟩
  | cons h t ih =>
    refine ⟨by show _ = (List.map _ (_ :: _)).length; rw [List.map_cons, List.length_cons, List.length_cons, ih.1]; rfl, fun i y d h1 h2 => ?_⟩
    cases i with
    | zero =>
      cases h1
      cases h2
      rw [h.1]
    | succ i => exact ih.2 i y d h1 h2
section
variable {X : Cx} {W : WX}
variable {elt e0 tg : Expr} {pos : Pos} {ifs : List Expr} {scope : Scope} {own : List (Str × Nat)} {g : GM} {t : TM} {e : EM}
open Classical in
theorem se_lcKT {i : Nat} (hc : X.calm = true) (hN : X.N.Nodup) (hv : PE X e0 (tVar i)) (ok : BlkOk X.N X.env.scope scope own)
    (hg : ∀ (s : Shared) (H : Hp) (C : Addr) (cl : List (Str × Addr)) (fp : List Addr), SGo (X.blk s H scope (compEnvC scope cl C X.env) fp) (own.map (·.2)) tg g)
    (ht : ∀ (s : Shared) (H : Hp) (C : Addr) (cl : List (Str × Addr)) (fp : List Addr), STs (X.blk s H scope (compEnvC scope cl C X.env) fp) W0 ifs t)
    (he : ∀ (s : Shared) (H : Hp) (C : Addr) (cl : List (Str × Addr)) (fp : List Addr), SE (X.blk s H scope (compEnvC scope cl C X.env) fp) W0 elt e)
    (hs : ∀ x, foldedSetIterable e0 X.env x = pure x := by intro _; rfl) :
    SE X W (.ListComp elt [⟨tg, e0, ifs, 0⟩] scope pos) (mCompKT i g t e (own.map (·.2))) := by
  refine ⟨peImp (pe_lock (pe_lc (te := TEm X.K X.mg W0 e) (tt := TTm X.K X.mg W0 t) (g := TGo X.K X.mg (own.map (·.2)) g) hc hN (pi_keys hv) ok (fun s H C cl fp => (hg s H C cl fp).pg) (fun s H C cl fp => (ht s H C cl fp).pts) (fun s H C cl fp => (he s H C cl fp).pe) hs)) fun σ H Q ⟨G, s, M, S, N, p⟩ => ?_⟩
  unfold mCompKT at p
  split at p
  · rename_i j hsj
    split at p
    · rename_i kvs hk
      · generalize hds : keysTD kvs = ds at p
        split at p
        · rename_i xr hcomp
          obtain ⟨y0, hσ, a, rfl, hφ⟩ := N.at_ i _ hsj
          obtain ⟨nF, ys, hx, rx⟩ := S.obj j a _ hφ hk
          obtain ⟨hlen, hget⟩ := kts_get rx hds
          have nt : ∀ xs, H a ≠ some (.tup xs) := fun xs z => by rw [hx] at z; cases z
          have ha : a ∈ G.φ := List.mem_of_getElem? hφ
          refine ⟨a, .dT ys, hx, trivial, fun od => ?_⟩
          have hla : (upd H a (.frz od (.dT ys))) a = some (.frz od (.dT ys)) := upd_same
          have hlo : ∀ b, b ≠ a → (upd H a (.frz od (.dT ys))) b = H b := fun b h => upd_ne h
          generalize hHl : upd H a (.frz od (.dT ys)) = Hl at hla hlo
          have Sl : SimM X.K X.mg ⟨[], G.F⟩ [] Hl := ⟨rfl, List.nodup_nil, fun i a o h _ => (by cases (show (none : Option Addr) = some a from h)), fun a h => (by cases h), fun b h => by
            rw [hlo b (fun z => nF (by rw [← z]; exact h))]; exact S.fthere b h, by
            obtain ⟨o, u, h⟩ := S.sys
            exact ⟨o, u, by rw [hlo _ (fun z => by rw [z, hx] at h; cases h)]; exact h⟩⟩
          have Nl : SimS X.K X.mg ⟨[], G.F⟩ (datS s) σ Hl := by rw [← hHl]; exact sim_dat N nF nt
          have key := lc_read (own := own) (it := fun s' M' => if s' = datS s ∧ M' = [] then .ok (ds.map .d) [] else .bad) (g := g) (t := t) (e := e) (W := W) (σ := σ) (H := Hl) (Q := fun v H' => H' a = some (.frz od (.dT ys)) ∧ Q v (upd H' a (.dT ys))) (.inl rfl) ⟨⟨[], G.F⟩, datS s, [], Sl, Nl, by
            have ev : (fun s' M' => ((fun s' M' => if s' = datS s ∧ M' = [] then Out.ok (ds.map Val.d) [] else .bad : AM) s' M').bind fun vs M1 => (compL g t e (wipeS s' (own.map (·.2))) vs M1).bind lcK : EM) (datS s) [] = .ok (.d xr) [] := by
              show ((if datS s = datS s ∧ ([] : Mm) = [] then Out.ok (ds.map Val.d) [] else .bad : Out (List Val)).bind _) = _
              rw [if_pos ⟨rfl, rfl⟩]
              exact hcomp
            rw [ev]
            intro G' H' x e2 S2 r2
            have ea : H' a = some (.frz od (.dT ys)) := e2.frz a od (.dT ys) hla
            refine ⟨ea, ?_⟩
            have nF' : ¬ G'.F a := fun z => by
              rcases e2.Fnew a z with z | z | z
              · exact nF z
              · rw [hla] at z; cases z
              · cases z
            have kp : ∀ b, H b ≠ none → (upd H' a (.dT ys)) b = H b := fun b hb => by
              by_cases z : b = a
              · subst z; rw [upd_same, hx]
              · rw [upd_ne z, e2.keep b (by rw [hlo b z]; exact hb) (fun q => by cases q), hlo b z]
            have fF : ∀ b, G.F b → G'.F b := fun b hb => (e2.fix b hb).1
            have fb : ∀ b, G'.F b → G.F b ∨ H b = none := fun b hb => by
              have zb : b ≠ a := fun z => nF' (by rw [← z]; exact hb)
              rcases e2.Fnew b hb with z | z | z
              · exact .inl z
              · rw [hlo b zb] at z; exact .inr z
              · cases z
            have E3 : Ext G H ⟨G.φ, G'.F⟩ (upd H' a (.dT ys)) := ⟨⟨⟨[], by simp⟩, fun b xs h => by rw [kp b (by rw [h]; simp)]; exact h, fun b o u h => by rw [kp b (by rw [h]; simp)]; exact h, fun b h => ⟨fF b h, kp b (S.fthere b h)⟩⟩, fun b h _ => kp b h, fun b h => .inl h, fun b h => (fb b h).elim .inl fun z => .inr (.inl z)⟩
            have S3 : SimM X.K X.mg ⟨G.φ, G'.F⟩ M (upd H' a (.dT ys)) := S.grow E3.toExt0 rfl (fun b hb => kp b (S.there b hb)) (fun b hb hn z => (fb b z).elim hn (S.there b hb)) fun b hb => by
              have zb : b ≠ a := fun z => nF' (by rw [← z]; exact hb)
              show (upd H' a (.dT ys)) b ≠ none
              rw [upd_ne zb]
              exact S2.fthere b hb
            exact p _ _ x E3 S3 (RV.side (fun xs z => by rw [ea] at z; cases z) nF' xr x r2)⟩
          show iKeys (tVar i) σ Hl _
          have hR : TIm X.K X.mg W (fun s' M' => if s' = datS s ∧ M' = [] then .ok (ds.map .d) [] else .bad) σ Hl _ := key
          obtain ⟨G', s', M', S', N', p'⟩ := hR
          by_cases hsm : s' = datS s ∧ M' = []
          · obtain ⟨rfl, rfl⟩ := hsm
            dsimp only at p'
            rw [if_pos ⟨rfl, rfl⟩] at p'
            refine ⟨.ref a, hσ, a, od, rfl, .inr ⟨ys, hla, p' G' Hl _ .refl S' fun G2 H2 e2 => ?_⟩⟩
            have h2a : H2 a = some (.frz od (.dT ys)) := e2.frz a od (.dT ys) hla
            refine ⟨fun k hk => ⟨h2a, by rw [List.length_map] at hk; omega⟩, ⟨h2a, by rw [List.length_map]; omega⟩, fun k v hv M2 S2 x H3 y => ?_⟩
            obtain ⟨rfl, k1, v1, q1, hk1, rfl, hT⟩ := y
            rw [List.getElem?_map] at hv
            cases hd : ds[k]? with
            | none => rw [hd] at hv; cases hv
            | some d =>
              rw [hd] at hv
              cases hv
              have ed := hget k _ d hk1 hd
              subst ed
              exact ⟨G2, .refl, S2, RV.tup hT (rvs_keys _)⟩
          · dsimp only at p'
            rw [if_neg hsm] at p'
            exact p'.elim
        · exact p.elim
    · exact p.elim
  · exact p.elim
end
end Zm
/-! {k: v}, the key a tuple: a dict at a place of its own -/
namespace Zm
open PySem PySem.Spec PyProof.Rows L2
open PySem.Sem (wp)
section
variable {prog : Program} {w : World} {K : Type} [DecidableEq K] {knd : HeapKind prog w K} {A : Around} {E : Value → Shared → Prop} {s : Shared}
end
def tDispT (tk tv : TE) : TE := fun σ H Q => ∀ p, H p = none → tk σ (upd H p (.dT [])) fun x H1 => tv σ H1 fun y H2 => H2 p = some (.dT []) ∧ ∃ (b : Addr) (k : List Key), x = .ref b ∧ H2 b = some (.tup (k.map kV)) ∧ Q (.ref p) (upd H2 p (.dT [(k, y)]))
section
variable {X : Cx} {W : WX}
def vDispT (y v : Val) (M : Mm) : Out Val := match keyT y, v with
  | some k, .d x => .ok (.obj M.length) (M ++ [.dcT [(k, .d x)]])
  | _, _ => .bad
abbrev mDispT (mk mv : EM) : EM := mOp vDispT mk mv
end
end Zm
/-! sorted of a tuple of ints -/
namespace Zm
open PySem PySem.Spec PyProof.Rows L2
section
variable {X : Cx} {W : WX}
/-- sorted of a tuple of ints -/
def vSortTI (vs : List Val) (M : Mm) : Out Val := match vs with
  | [.d (.tuple ds)] => match intsD ds with
    | some ns => if ns.length < 64 then .ok (.d (.list ((sortI ns).map .int))) M else .bad
    | none => .bad
  | _ => .bad
end
end Zm
/-! len(set(xs)) of a list of unlike ints -/
namespace Zm
open PySem PySem.Spec PyProof.Rows L2
section
variable {X : Cx} {W : WX}
def lenSetK (v : Val) (M : Mm) : Out Val := match listD v M with
  | some ds => match intsD ds with
    | some ns => if ns.Nodup ∧ ns.length ≤ 4000 then .ok (.d (.int ns.length)) M else .bad
    | none => .bad
  | none => .bad
def vLenSet (vs : List Val) (M : Mm) : Out Val := match vs with
  | [v] => lenSetK v M
  | _ => .bad
end
def lenSet (a : List Int) : Option Int := if a.Nodup ∧ a.length ≤ 4000 then some (a.length : Int) else none
end Zm
/-! own classes: a field read -/
namespace Zm
open PySem PySem.Spec PyProof.Rows L2
/-- what is to be known of an own class, by its name -/
structure ClsZ (K : PySem.W.Frag) (mg : Str → Option Value) (C : Str) (fs : List Str) : Prop where
  cls : ∀ c, mg C = some (.ref c) → Cls K c
  no : ∀ c, mg C = some (.ref c) → ∀ f ∈ fs, NoAttr K c f
def mFld (C f : Str) (m : EM) : EM := fun s M => (m s M).bind fun v M1 => match v with
  | .obj i => match M1[i]? with
    | some (.ins C' fs) => if C' = C then (match fs.lookup f with
      | some v => .ok v M1
      | none => .bad) else .bad
    | _ => .bad
  | .ri C' fs => if C' = C then (match fs.lookup f with
    | some x => .ok (.d x) M1
    | none => .bad) else .bad
  | _ => .bad
section
variable {X : Cx} {W : WX} {C f : Str} {fl : List Str}
end
def putV (f : Str) (v : Val) : List (Str × Val) → List (Str × Val)
  | [] => [(f, v)]
  | (g, x) :: r => if g = f then (g, v) :: r else (g, x) :: putV f v r
def sFldZ (C f : Str) (mo mv : EM) : SM := fun s M => (mv s M).bindS s fun v M1 => (mo s M1).bindS s fun o M2 => match o with
  | .obj i => match M2[i]? with
    | some (.ins C' fs) => if C' = C ∧ fs.length < 1000 then .nx s (M2.set i (.ins C' (putV f v fs))) else .bad
    | _ => .bad
  | _ => .bad
section
variable {X : Cx} {W : WX} {C f : Str} {fl : List Str}
end
end Zm
/-! own classes: called -/
namespace Zm
open PySem PySem.Spec PyProof.Rows L2
section
variable {X : Cx} {W : WX} {k : Nat} {f C : Addr} {fd : FuncData} {ps : List Str} {den : Den} {x : Str} {p pos : Pos} {e : Expr} {es : List Expr} {ms mk : AM}
/-- the class called: a thing at a new place, then __init__ -/
def mMake (C : Str) (n : Nat) (den : Den) (ms : AM) : EM := fun s M => (ms s M).bind fun vs M1 => if vs.length + 1 = n then (den (.obj M1.length :: vs) (M1 ++ [.ins C []])).bind fun v M2 => (match v with
  | .d .none => .ok (.obj M1.length) M2
  | _ => .bad) else .bad
end
/-! ### an own class of the text -/
/-- a class with an __init__: st its def, q the def's full name, fl the fields -/
structure ClsAt (K : PySem.W.Frag) (mg : Str → Option Value) (C q : Str) (st : Stmt) (fl : List Str) : Prop where
  ex : ∃ c f fd, mg C = some (.ref c) ∧ Fun K "__init__" q st f fd ∧ Mk K c f ∧ Cls K c ∧ ∀ a ∈ fl, NoAttr K c a
theorem ClsAt.z {K : PySem.W.Frag} {mg : Str → Option Value} {C q : Str} {st : Stmt} {fl : List Str} (D : ClsAt K mg C q st fl) : ClsZ K mg C fl := by
  obtain ⟨c, f, fd, g, F, Mc, cl, no⟩ := D.ex
  exact ⟨fun c' h => by
    have e := g.symm.trans h
    cases e
    exact cl, fun c' h => by
    have e := g.symm.trans h
    cases e
    exact no⟩
def BindQ (x q : Str) (st : Stmt) (ps : List Str) : Prop := ∀ (kV doc pm : Value) (an : Option Addr) (cdv ct : Value) (us : List Value), us.length = ps.length →
  bindArgs (PySem.W.fnOf x q (defArgs st) (defBody st) (defScope st) .none kV doc pm an cdv ct) ⟨us, []⟩ = pure (ps.zip us)
structure MakeZ (P : Program) (w : World) (K : PySem.W.Frag) (mg : Str → Option Value) (base : Heap) (k : Nat) (C q : Str) (st : Stmt) (ps : List Str) (den : Den) : Prop where
  ex : ∃ c f fd, mg C = some (.ref c) ∧ Fun K "__init__" q st f fd ∧ Mk K c f ∧ FnZ P w K mg base k f fd ps den
/-- from what the top has written (each a fact that k_is finds) -/
theorem clsAt {K : PySem.W.Frag} {h : Heap} {mg : Str → Option Value} {C q : Str} {st : Stmt} {f c : Addr} {oc : Value} {od an : Option Addr} {osl : Array (Option Value)} {kV doc pm cdv ct : Value} {fl : List Str} (X : K.In h) (G : h.Ns mainGlobals mg) (a : PySem.W.nsIn K mainGlobals C = some (some (.ref c)))
    (i : PySem.W.findIn K (.ref c) "__init__" = some (some (.ref f))) (fn : PySem.W.isFn K (.ref f) = true) (l : K.lookup f = some ⟨oc, od, .func (PySem.W.fnOf "__init__" q (defArgs st) (defBody st) (defScope st) .none kV doc pm an cdv ct), osl⟩) (cd : PySem.W.codeIn K cdv q = true) (k : PySem.W.keepIn K (.ref f) = true)
    (pg : PySem.W.plainGet K c Str.empty = true) (hd : PySem.W.hasDictIn K c = true) (po : PySem.W.plainOver K c = true) (sa : PySem.W.findIn K (.ref c) "__setattr__" = some (some (.builtin "object.__setattr__"))) (mk : PySem.W.makesIn K c = true) (kc : PySem.W.keepIn K (.ref c) = true)
    (no : ∀ a ∈ fl, NoAttr K c a) : ClsAt K mg C q st fl := ⟨c, f, _, PySem.W.mg_of X G a, fun_mk l cd k, ⟨mk, i, fn, kc⟩, ⟨pg, hd, po, sa⟩, no⟩
end Zm
/-! defs as values; pairs with a place or a def in them -/
namespace Zm
open PySem PySem.Spec PyProof.Rows L2
section
variable {X : Cx} {W : WX}
/-- the name of a def of the text, as a value -/
def mFnc (x : Str) : EM := fun _ M => .ok (.fnc x) M
/-- (a datum, a place or a def) -/
def mTupP (a : AM) : EM := fun s M => (a s M).bind fun vs M1 => match vs with
  | [.d k, .fnc x] => .ok (.prF k x) M1
  | [.d k, .obj i] => .ok (.prO k i) M1
  | _ => .bad
/-- a display that is walked -/
def mItV (a : AM) : AM := fun s M => (a s M).bind fun vs M1 => if fitsL vs.length then .ok vs M1 else .bad
/-- a, b = a pair -/
def gTP (g : GMs) : GM := fun v s M => match v with
  | .prF k x => g [.d k, .fnc x] s M
  | .prO k i => g [.d k, .obj i] s M
  | _ => none
/-- what a name that holds a def may hold -/
def TabOk (P : Program) (w : World) (K : PySem.W.Frag) (mg : Str → Option Value) (base : Heap) (k n : Nat) : List (Str × Den) → Prop
  | [] => True
  | q :: r => (∃ st ps, DefZ P w K mg base k q.1 st ps q.2 ∧ BindZ q.1 st ps ∧ ps.length = n) ∧ TabOk P w K mg base k n r
theorem DefZ.mono {P : Program} {w : World} {K : PySem.W.Frag} {mg : Str → Option Value} {base : Heap} {j k : Nat} {x : Str} {st : Stmt} {ps : List Str} {den : Den} (D : DefZ P w K mg base j x st ps den) (h : j ≤ k) : DefZ P w K mg base k x st ps den := by
  obtain ⟨f, fd, F, g, Z⟩ := D.ex
  exact ⟨f, fd, F, g, Z.mono h⟩
/-- a call of what a name holds -/
def mCallV (i : Nat) (tab : List (Str × Den)) (n : Nat) (ms : AM) : EM := fun s M => match s[i]? with
  | some (some (.fnc x)) => match tab.lookup x with
    | some den => mCall n den ms s M
    | none => .bad
  | _ => .bad
end
end Zm
/-! the pure layer: values that are no places (defs, fixed instances) -/
namespace Zm
open PySem PySem.Spec PyProof.Rows L2
open WM (pu bd)
open LO (lf)
def spV : Val → Sp
  | .d x => .v x
  | v => .w v
def StV (v : Val) : Prop := ∀ M, rd v M = v
section
variable {𝔅 : Bas} {μ : Type → Type} [LO μ] {α γ δ σ τ ρ : Type} {Γ Γx : Cs}
/-- defs whose arguments are values -/
def FnW (den : Den) (f : α → Option ρ) (xs : α → List Val) (y : ρ → PyData) : Prop := ∀ a r M, f a = some r → M.all (MO.below M.length) = true → den (xs a) M = .ok (.d (y r)) M
/-! fields of a fixed instance -/
/-! a loop over pairs of a word and a def -/
structure JGv (Γ : Cs) (g : GM) (v : Val) (Γ' : Cs) : Prop where
  run : ∀ (L : Ps) (B M : Mm), L.cs = Γ → Sat L B M → ∃ L' : Ps, g v L.sl M = some (L'.sl, M) ∧ L'.cs = Γ' ∧ Sat L' B M
/-! a table of defs -/
inductive TabP (xs : α → List PyData) (y : ρ → PyData) : List (Str × Den) → List (Str × (α → Option ρ)) → Prop where
  | nil : TabP xs y [] []
  | cons {x : Str} {den : Den} {f : α → Option ρ} {ds : List (Str × Den)} {fs : List (Str × (α → Option ρ))} : FnP den f xs y → TabP xs y ds fs → TabP xs y ((x, den) :: ds) ((x, f) :: fs)
/-! two more operations -/
def inOD (neg : Bool) (x y : PyData) : Option Bool := match y with
  | .tuple ys => inO neg x ys
  | .list ys => inO neg x ys
  | _ => none
theorem o2_inOD {neg : Bool} (x y : PyData) (r : Bool) (h : inOD neg x y = some r) : Op2 (vInX neg) x y (.bool r) := by
  cases y with
  | tuple ys => exact o2_inDT x ys r h
  | list ys => exact o2_inD x ys r h
  | _ => cases h
def repT (xs : List α) (k : Int) : Option (List α) := if k.natAbs ≤ 1000 ∧ xs.length ≤ 1000 then some (List.replicate k.toNat xs).flatten else none
end
end Zm
/-! an instance is made, and fixed whole; a dict of new lists -/
namespace Zm
open PySem PySem.Spec PyProof.Rows L2
def frz1 (j : Nat) (M : Mm) : Mm := match M[j]? with
  | some (.lst vs) => match fzL vs M with
    | some ds => M.set j (.frz (.list ds))
    | none => M
  | some (.dct kvs) => match fzD kvs M with
    | some ds => M.set j (.frz (.dict ds))
    | none => M
  | _ => M
section
variable {K : PySem.W.Frag} {mg : Str → Option Value} {G : Gh} {H : Hp} {M : Mm}
def frzJ : List Nat → Mm → Mm
  | [], M => M
  | j :: js, M => frzJ js (frz1 j M)
def rdFs (M : Mm) : List (Str × Val) → Option (List (Str × PyData))
  | [] => some []
  | (f, v) :: r => match rd v M, rdFs M r with
    | .d x, some ds => some ((f, x) :: ds)
    | _, _ => none
end
/-- a new instance is fixed with all that it holds -/
def mRi (C : Str) (m : EM) : EM := fun s M => (m s M).bind fun v M2 => match v with
  | .obj j => if M.length ≤ j then (match (frzJ ((List.range (M2.length - M.length)).map (M.length + ·)) M2)[j]? with
    | some (.ins C' fs) => if C' = C ∧ ((frzJ ((List.range (M2.length - M.length)).map (M.length + ·)) M2).take M.length).all (MO.below M.length) = true then (match rdFs (frzJ ((List.range (M2.length - M.length)).map (M.length + ·)) M2) fs with
      | some ds => .ok (.ri C ds) ((frzJ ((List.range (M2.length - M.length)).map (M.length + ·)) M2).take M.length)
      | none => .bad) else .bad
    | _ => .bad) else .bad
  | _ => .bad
section
variable {X : Cx} {W : WX}
end
/-! ### dict(xs) of pairs of a key and a place -/
def prKO : List Val → Option (List (PyData × Val))
  | [] => some []
  | .prO k j :: vs => match keyV (.d k), prKO vs with
    | some k, some r => some ((k, .obj j) :: r)
    | _, _ => none
  | _ :: _ => none
def putVl (kvs : List (PyData × Val)) (k : PyData) (v : Val) : List (PyData × Val) := if kvs.any (fun p => eqK p.1 k) then kvs.map fun p => if eqK p.1 k then (p.1, v) else p else kvs ++ [(k, v)]
open Classical in
noncomputable def vDictO (vs : List Val) (M : Mm) : Out Val := match vs with
  | [.obj i] => match M[i]? with
    | some (.lst us) => match prKO us with
      | some kvs => if (kvs.map (·.1)).Nodup then .ok (.obj M.length) (M ++ [.dct kvs]) else .bad
      | none => .bad
    | _ => .bad
  | _ => .bad
section
variable {K : PySem.W.Frag} {mg : Str → Option Value} {G : Gh} {H : Hp} {M : Mm}
end
section
variable {X : Cx}
end
end Zm
namespace Zm
open PySem PySem.Spec PyProof.Rows L2
/-! ### xs.count(k), of ints -/
def intsP : List PyData → Option (List Int)
  | [] => some []
  | .int i :: r => (intsP r).map (i :: ·)
  | _ => none
def vCnt : MF := fun v vs M => match vs with
  | [.d (.int k)] => match listD v M with
    | some ds => match intsP ds with
      | some ns => .ok (.d (.int (ns.count k : Nat))) M
      | none => .bad
    | none => .bad
  | _ => .bad
open WM (pu bd) in
/-- a def in the body of a class -/
def clsDef (s : Stmt) (k : Nat) : Stmt := match s with
  | .ClassDef _ _ _ body _ _ _ _ _ _ _ => body.getD k (.Pass ⟨0, 0, 0, 0⟩)
  | s => s
end Zm
/-! the class Round: what stands at its places -/
namespace Zm
open PySem PySem.Spec PyProof.Rows L2
/-- what a round knows -/
abbrev DealT := List PyData × List Int × List Int × List (Int × Int) × List (Int × List Int) × List (List Int)
def dealFs (r : DealT) : List (Str × PyData) := [("orders", eT eD r.1), ("fields", eL PyData.int r.2.1), ("players", eL PyData.int r.2.2.1), ("standers", eK PyData.int PyData.int r.2.2.2.1), ("comers", eK PyData.int (eL PyData.int) r.2.2.2.2.1), ("helpers", eL (eL PyData.int) r.2.2.2.2.2)]
def eDeal (r : DealT) : Val := .ri "Round" (dealFs r)
/-- the store while a round is made -/
structure RSt (M0 M : Mm) (fs : List (Str × Val)) (C Hh : List (List Int)) : Prop where
  len : M.length = M0.length + C.length + Hh.length + 4
  pre : M.take M0.length = M0
  ins : M[M0.length]? = some (.ins "Round" fs)
  c : ∀ (f : Nat) (r : List Int), C[f]? = some r → M[M0.length + 1 + f]? = some (rowM r)
  pr : M[M0.length + C.length + 1]? = some (.lst ((List.range C.length).map fun f : Nat => .prO (.int f) (M0.length + 1 + f)))
  dc : M[M0.length + C.length + 2]? = some (.dct ((List.range C.length).map fun f : Nat => (.int f, .obj (M0.length + 1 + f))))
  h : ∀ (i : Nat) (r : List Int), Hh[i]? = some r → M[M0.length + C.length + 3 + i]? = some (rowM r)
  ls : M[M0.length + C.length + 3 + Hh.length]? = some (.lst ((List.range Hh.length).map fun i : Nat => .obj (M0.length + C.length + 3 + i)))
section
variable {M0 M : Mm} {fs : List (Str × Val)} {C Hh : List (List Int)}
theorem take_set {α : Type} {l : List α} {n i : Nat} {a : α} (h : n ≤ i) : (l.set i a).take n = l.take n := by
  refine List.ext_getElem? fun j => ?_
  rw [List.getElem?_take, List.getElem?_take]
  split
  · rw [List.getElem?_set_ne (by omega)]
  · rfl
/-! what is fixed so far -/
def frR (r : List Int) : MO := .frz (.list (r.map .int))
structure RFz (M0 M : Mm) (fs : List (Str × Val)) (C Hh : List (List Int)) (t : Nat) : Prop where
  len : M.length = M0.length + C.length + Hh.length + 4
  pre : M.take M0.length = M0
  ins : M[M0.length]? = some (.ins "Round" fs)
  c : ∀ (f : Nat) (r : List Int), C[f]? = some r → M[M0.length + 1 + f]? = some (if 1 + f < t then frR r else rowM r)
  pr : M[M0.length + C.length + 1]? = some (.lst ((List.range C.length).map fun f : Nat => .prO (.int f) (M0.length + 1 + f)))
  dc : M[M0.length + C.length + 2]? = some (if C.length + 2 < t then .frz (.dict ((enu C).map fun y => (.int y.1, .list (y.2.map .int)))) else .dct ((List.range C.length).map fun f : Nat => (.int f, .obj (M0.length + 1 + f))))
  h : ∀ (i : Nat) (r : List Int), Hh[i]? = some r → M[M0.length + C.length + 3 + i]? = some (if C.length + 3 + i < t then frR r else rowM r)
  ls : M[M0.length + C.length + 3 + Hh.length]? = some (if C.length + 3 + Hh.length < t then .frz (.list (Hh.map fun r => .list (r.map .int))) else .lst ((List.range Hh.length).map fun i : Nat => .obj (M0.length + C.length + 3 + i)))
theorem fzL_row (r : List Int) (M : Mm) : fzL (r.map fun i => Val.d (.int i)) M = some (r.map .int) := by
  unfold fzL
  rw [List.map_map]
  have : (r.map ((fun v => rd v M) ∘ fun i => Val.d (.int i))) = (r.map PyData.int).map Val.d := by rw [List.map_map]; rfl
  rw [this, allD_map]
theorem fzL_objs {M : Mm} : ∀ (rs : List (List Int)) (n : Nat), (∀ (i : Nat) (r : List Int), rs[i]? = some r → M[n + i]? = some (frR r)) → fzL ((List.range rs.length).map fun i : Nat => Val.obj (n + i)) M = some (rs.map fun r => .list (r.map .int)) := by
  intro rs n h
  have e : ((List.range rs.length).map fun i : Nat => Val.obj (n + i)).map (rd · M) = (rs.map fun r => PyData.list (r.map .int)).map Val.d := by
    refine List.ext_getElem? fun i => ?_
    rw [List.getElem?_map, List.getElem?_map, List.getElem?_map, List.getElem?_map]
    by_cases hi : i < rs.length
    · rw [List.getElem?_range hi, List.getElem?_eq_getElem hi]
      show some (match M[n + i]? with | some (.frz x) => Val.d x | _ => Val.obj (n + i)) = _
      rw [h i _ (List.getElem?_eq_getElem hi)]
      rfl
    · have a : rs[i]? = none := List.getElem?_eq_none_iff.mpr (by omega)
      have c : (List.range rs.length)[i]? = none := List.getElem?_eq_none_iff.mpr (by rw [List.length_range]; omega)
      rw [a, c]; rfl
  unfold fzL
  rw [e, allD_map]
theorem fzD_objs {M : Mm} : ∀ (rs : List (List Int)) (n k : Nat), (∀ (i : Nat) (r : List Int), rs[i]? = some r → M[n + (k + i)]? = some (frR r)) → fzD ((List.range' k rs.length).map fun f : Nat => (PyData.int f, Val.obj (n + f))) M = some ((enuF k rs).map fun y => (.int y.1, .list (y.2.map .int)))
  | [], n, k, h => rfl
  | r :: rs, n, k, h => by
    rw [List.length_cons, List.range'_succ, List.map_cons]
    unfold fzD
    have h0 := h 0 r rfl
    rw [Nat.add_zero] at h0
    have e1 : rd (.obj (n + k)) M = .d (.list (r.map .int)) := by
      show (match M[n + k]? with | some (.frz x) => Val.d x | _ => Val.obj (n + k)) = _
      rw [h0]
      rfl
    have e2 := fzD_objs rs n (k + 1) fun i r' hi => by
      have := h (i + 1) r' (by simpa using hi)
      rw [show k + (i + 1) = k + 1 + i by omega] at this
      exact this
    rw [e1, e2]
    rfl
theorem pr_no (n k : Nat) (M : Mm) (h : 0 < k) : fzL ((List.range k).map fun f : Nat => Val.prO (.int f) (n + f)) M = none := by
  obtain ⟨k, rfl⟩ : ∃ k', k = k' + 1 := ⟨k - 1, by omega⟩
  unfold fzL
  rw [List.range_succ_eq_map, List.map_cons]
  rfl
theorem RFz.step (hC : 0 < C.length) {t : Nat} (S : RFz M0 M fs C Hh t) (ht : t < C.length + Hh.length + 4) : RFz M0 (frz1 (M0.length + t) M) fs C Hh (t + 1) := by
  have L := S.len
  have low : ∀ (f : Nat) (r : List Int), C[f]? = some r → f < C.length := fun f r h => (List.getElem?_eq_some_iff.mp h).1
  have lowH : ∀ (f : Nat) (r : List Int), Hh[f]? = some r → f < Hh.length := fun f r h => (List.getElem?_eq_some_iff.mp h).1
  -- what changes at most is the place at hand
  have keep : ∀ (u : MO) (j : Nat) (o : MO), j ≠ M0.length + t → M[j]? = some o → (M.set (M0.length + t) u)[j]? = some o := fun u j o hj h => by rw [List.getElem?_set_ne (fun z => hj z.symm)]; exact h
  by_cases h0 : t = 0
  · subst h0
    have e : frz1 (M0.length + 0) M = M := by unfold frz1; rw [Nat.add_zero, S.ins]
    rw [e]
    exact ⟨L, S.pre, S.ins, fun f r h => by rw [S.c f r h, if_neg (by omega), if_neg (by omega)], S.pr, by rw [S.dc, if_neg (by omega), if_neg (by omega)], fun i r h => by rw [S.h i r h, if_neg (by omega), if_neg (by omega)], by rw [S.ls, if_neg (by omega), if_neg (by omega)]⟩
  by_cases h1 : t < C.length + 1
  · obtain ⟨f, rfl⟩ : ∃ f, t = 1 + f := ⟨t - 1, by omega⟩
    have hf : C[f]? = some (C[f]'(by omega)) := List.getElem?_eq_getElem _
    generalize C[f]'(by omega) = r at hf
    have hr := S.c f r hf
    rw [if_neg (by omega)] at hr
    have e : frz1 (M0.length + (1 + f)) M = M.set (M0.length + (1 + f)) (frR r) := by
      unfold frz1
      rw [← Nat.add_assoc, hr]
      show (match fzL (r.map fun i => Val.d (.int i)) M with | some ds => M.set (M0.length + 1 + f) (.frz (.list ds)) | none => M) = _
      rw [fzL_row]
      rfl
    rw [e]
    refine ⟨by rw [List.length_set]; exact L, by rw [take_set (by omega)]; exact S.pre, keep _ _ _ (by omega) S.ins, fun g r' hg => ?_, keep _ _ _ (by omega) S.pr, keep _ _ _ (by omega) (by rw [S.dc, if_neg (by omega), if_neg (by omega)]), fun i r' hi => keep _ _ _ (by omega) (by rw [S.h i r' hi, if_neg (by omega), if_neg (by omega)]), keep _ _ _ (by omega) (by rw [S.ls, if_neg (by omega), if_neg (by omega)])⟩
    by_cases z : f = g
    · subst z
      rw [hf] at hg
      cases hg
      rw [if_pos (by omega), ← Nat.add_assoc, List.getElem?_set_self (by omega)]
    · refine keep _ _ _ (by omega) ?_
      rw [S.c g r' hg]
      by_cases q : 1 + g < 1 + f
      · rw [if_pos q, if_pos (by omega)]
      · rw [if_neg q, if_neg (by omega)]
  by_cases h2 : t = C.length + 1
  · subst h2
    have e : frz1 (M0.length + (C.length + 1)) M = M := by
      unfold frz1
      rw [← Nat.add_assoc, S.pr]
      dsimp only
      have hp := pr_no (M0.length + 1) C.length M hC
      rw [hp]
    rw [e]
    exact ⟨L, S.pre, S.ins, fun f r h => by have := low f r h; rw [S.c f r h, if_pos (by omega), if_pos (by omega)], S.pr, by rw [S.dc, if_neg (by omega), if_neg (by omega)], fun i r h => by rw [S.h i r h, if_neg (by omega), if_neg (by omega)], by rw [S.ls, if_neg (by omega), if_neg (by omega)]⟩
  by_cases h3 : t = C.length + 2
  · subst h3
    have hd := S.dc
    rw [if_neg (by omega)] at hd
    have e : frz1 (M0.length + (C.length + 2)) M = M.set (M0.length + (C.length + 2)) (.frz (.dict ((enu C).map fun y => (.int y.1, .list (y.2.map .int))))) := by
      unfold frz1
      rw [← Nat.add_assoc, hd]
      dsimp only
      have hz := fzD_objs (M := M) C (M0.length + 1) 0 fun i r hi => by
        rw [Nat.zero_add]
        have := low i r hi
        rw [S.c i r hi, if_pos (by omega)]
      rw [← List.range_eq_range'] at hz
      rw [hz]
      rfl
    rw [e]
    refine ⟨by rw [List.length_set]; exact L, by rw [take_set (by omega)]; exact S.pre, keep _ _ _ (by omega) S.ins, fun g r' hg => keep _ _ _ (by have := low g r' hg; omega) (by have := low g r' hg; rw [S.c g r' hg, if_pos (by omega), if_pos (by omega)]), keep _ _ _ (by omega) S.pr, by rw [if_pos (by omega), ← Nat.add_assoc, List.getElem?_set_self (by omega)], fun i r' hi => keep _ _ _ (by omega) (by rw [S.h i r' hi, if_neg (by omega), if_neg (by omega)]), keep _ _ _ (by omega) (by rw [S.ls, if_neg (by omega), if_neg (by omega)])⟩
  by_cases h4 : t < C.length + 3 + Hh.length
  · obtain ⟨i, rfl⟩ : ∃ i, t = C.length + 3 + i := ⟨t - (C.length + 3), by omega⟩
    have hf : Hh[i]? = some (Hh[i]'(by omega)) := List.getElem?_eq_getElem _
    generalize Hh[i]'(by omega) = r at hf
    have hr := S.h i r hf
    rw [if_neg (by omega)] at hr
    have ea : M0.length + (C.length + 3 + i) = M0.length + C.length + 3 + i := by omega
    have e : frz1 (M0.length + (C.length + 3 + i)) M = M.set (M0.length + (C.length + 3 + i)) (frR r) := by
      unfold frz1
      rw [ea, hr]
      show (match fzL (r.map fun i => Val.d (.int i)) M with | some ds => M.set (M0.length + C.length + 3 + i) (.frz (.list ds)) | none => M) = _
      rw [fzL_row]
      rfl
    rw [e]
    refine ⟨by rw [List.length_set]; exact L, by rw [take_set (by omega)]; exact S.pre, keep _ _ _ (by omega) S.ins, fun g r' hg => keep _ _ _ (by have := low g r' hg; omega) (by have := low g r' hg; rw [S.c g r' hg, if_pos (by omega), if_pos (by omega)]), keep _ _ _ (by omega) S.pr, keep _ _ _ (by omega) (by rw [S.dc, if_pos (by omega), if_pos (by omega)]), fun j r' hj => ?_, keep _ _ _ (by omega) (by rw [S.ls, if_neg (by omega), if_neg (by omega)])⟩
    by_cases z : i = j
    · subst z
      rw [hf] at hj
      cases hj
      rw [if_pos (by omega), ea, List.getElem?_set_self (by omega)]
    · refine keep _ _ _ (by omega) ?_
      rw [S.h j r' hj]
      by_cases q : C.length + 3 + j < C.length + 3 + i
      · rw [if_pos q, if_pos (by omega)]
      · rw [if_neg q, if_neg (by omega)]
  · have et : t = C.length + 3 + Hh.length := by omega
    subst et
    have hd := S.ls
    rw [if_neg (by omega)] at hd
    have ea : M0.length + (C.length + 3 + Hh.length) = M0.length + C.length + 3 + Hh.length := by omega
    have e : frz1 (M0.length + (C.length + 3 + Hh.length)) M = M.set (M0.length + (C.length + 3 + Hh.length)) (.frz (.list (Hh.map fun r => .list (r.map .int)))) := by
      unfold frz1
      rw [ea, hd]
      dsimp only
      have hz := fzL_objs (M := M) Hh (M0.length + C.length + 3) fun i r hi => by
        have := lowH i r hi
        rw [S.h i r hi, if_pos (by omega)]
      rw [hz]
    rw [e]
    refine ⟨by rw [List.length_set]; exact L, by rw [take_set (by omega)]; exact S.pre, keep _ _ _ (by omega) S.ins, fun g r' hg => keep _ _ _ (by have := low g r' hg; omega) (by have := low g r' hg; rw [S.c g r' hg, if_pos (by omega), if_pos (by omega)]), keep _ _ _ (by omega) S.pr, keep _ _ _ (by omega) (by rw [S.dc, if_pos (by omega), if_pos (by omega)]), fun i r' hi => keep _ _ _ (by have := lowH i r' hi; omega) (by have := lowH i r' hi; rw [S.h i r' hi, if_pos (by omega), if_pos (by omega)]), by rw [if_pos (by omega), ea, List.getElem?_set_self (by omega)]⟩
theorem frzJ_app : ∀ (a b : List Nat) (M : Mm), frzJ (a ++ b) M = frzJ b (frzJ a M)
  | [], _, _ => rfl
  | j :: a, b, M => frzJ_app a b (frz1 j M)
theorem RFz.all (hC : 0 < C.length) (S : RFz M0 M fs C Hh 0) : ∀ t, t ≤ C.length + Hh.length + 4 → RFz M0 (frzJ ((List.range t).map (M0.length + ·)) M) fs C Hh t
  | 0, _ => S
  | t + 1, h => by
    rw [List.range_succ, List.map_append, frzJ_app]
    exact RFz.step hC (RFz.all hC S t (by omega)) (by omega)
end
end Zm
namespace Zm
open PySem PySem.Spec PyProof.Rows L2
open WM (pu bd)
open LO (lf)
/-! ### a round: steps in the store -/
section
variable {M M0 : Mm} {j p n k : Nat}
end
/-! ### what a round knows, plainly -/
def isGo : Od → Bool
  | .go _ => true
  | _ => false
/-- whether a back for the piece in f, aimed at a, fits an order -/
def fitO (f a : Int) (o : Od) : Bool := if a = f then !isGo o else decide (o = .go a)
def isH (b : BoardT) (ws : List Od) (n : Nat) : Od → Bool
  | .back f a => decide (at? b.2 f = some n) && (match ws[n]? with | some o => fitO f a o | none => false)
  | _ => false
def goP (us : List Od) (f : Int) : List Int := ((enu us).filter fun y => decide (y.2 = .go f)).map (·.1)
def hlP (b : BoardT) (ws us : List Od) (n : Nat) : List Int := ((enu us).filter fun y => isH b ws n y.2).map (·.1)
def comL (k : Nat) (us : List Od) : List (List Int) := (List.range k).map fun f : Nat => goP us (f : Int)
def helL (b : BoardT) (ws us : List Od) : List (List Int) := (List.range ws.length).map fun n => hlP b ws us n
def dealOf (b : BoardT) (ws : List Od) : DealT := (ws.map oD, b.2.map (·.1), b.2.map (·.2), (enu b.2).map fun y => (y.2.1, y.1), enu (comL b.1.1.toNat ws), helL b ws ws)
open Classical in
/-- Round(board, orders) -/
noncomputable def roundB (b : BoardT) (os : List PyData) : Option DealT := if h : ∃ ws : List Od, os = ws.map oD ∧ GB b ∧ GO b ws then some (dealOf b (Classical.choose h)) else none
end Zm
namespace Zm
open PySem PySem.Spec PyProof.Rows L2
open WM (pu bd)
open LO (lf)
/-! ### the making of a round, step by step -/
theorem dOfP_nd {κ α : Type} [DecidableEq κ] {xs : List (κ × α)} (h : (xs.map (·.1)).Nodup) : dOfP xs = xs := by
  unfold dOfP
  suffices H : ∀ (ys : List (κ × α)), ((ys ++ xs).map (·.1)).Nodup → xs.foldl (fun a p => dput a p.1 p.2) ys = ys ++ xs from H [] h
  clear h
  induction xs with
  | nil => intro ys _; rw [List.append_nil]; rfl
  | cons x xs ih =>
    intro ys h
    rw [List.foldl_cons]
    have e : dput ys x.1 x.2 = ys ++ [x] := dput_new fun p hp z => by
      rw [List.map_append, List.nodup_append] at h
      exact h.2.2 p.1 (List.mem_map.mpr ⟨p, hp, rfl⟩) x.1 (List.mem_map.mpr ⟨x, List.mem_cons_self .., rfl⟩) z
    rw [e, ih (ys ++ [x]) (by rw [List.append_assoc]; exact h), List.append_assoc]
    rfl
end Zm
namespace Zm
open PySem PySem.Spec PyProof.Rows L2
/-! ### the rule of a round, plainly -/
def oA (ws : List Od) (n : Nat) : Od := (ws[n]?).getD .stay
def fA (b : BoardT) (n : Nat) : Int := ((b.2[n]?).map (·.1)).getD 0
def plA (b : BoardT) (n : Nat) : Int := ((b.2[n]?).map (·.2)).getD 0
def vA (v : List Bool) (n : Nat) : Bool := (v[n]?).getD false
/-- the helpers of a place that fit -/
def hlN (b : BoardT) (ws : List Od) (n : Nat) : List Nat := (List.range ws.length).filter fun X => isH b ws n (oA ws X)
/-- who goes to a field -/
def coN (ws : List Od) (g : Int) : List Nat := (List.range ws.length).filter fun X => decide (oA ws X = .go g)
section
variable (b : BoardT) (ws : List Od) (V : Nat → Bool) (n : Nat)
def strN : Nat := 1 + ((hlN b ws n).filter V).length
def leavN (j : Nat) : Bool := match oA ws j with
  | .go h => decide (h ≠ fA b n) && V j
  | _ => false
def metN (g : Int) : Option Nat := match at? b.2 g with
  | none => none
  | some j => if leavN b ws V n j then none else some j
def repN (g : Int) : Option Nat := match at? b.2 g with
  | none => none
  | some j => if leavN b ws V n j then (match oA ws j with
    | .go h => at? b.2 h
    | _ => none) else none
def thrN (g : Int) : Nat := match metN b ws V n g with
  | none => strN b ws V n
  | some j => 1 + (((hlN b ws n).filter V).filter fun X => decide (plA b X ≠ plA b j)).length
def holdN (j : Nat) : Nat := match oA ws j with
  | .go h => if h ≠ fA b n then 1 else strN b ws V j
  | _ => strN b ws V j
def beatsN (g : Int) : Bool := match metN b ws V n g with
  | none => true
  | some j => if plA b j = plA b n then false else decide (holdN b ws V n j < thrN b ws V n g)
def rivN (g : Int) : List Nat := (coN ws g).filter fun X => decide (X ≠ n) && decide (repN b ws V n g ≠ some X)
def winN (g : Int) : Bool := beatsN b ws V n g && (rivN b ws V n g).all fun X => decide (strN b ws V X < thrN b ws V n g)
def distN (a : Int) : Bool := (coN ws (fA b n)).any fun X => decide (fA b X ≠ a) && decide (plA b X ≠ plA b n)
def helpN (f : Int) : Bool := match at? b.2 f with
  | some j => isH b ws j (oA ws n)
  | none => false
def standN (f a : Int) : Bool := helpN b ws n f && !distN b ws n a && (coN ws (fA b n)).all fun X => !V X
/-- what becomes of an order, by what becomes of all -/
def ruleN : Bool := match oA ws n with
  | .stay => true
  | .go g => winN b ws V n g
  | .back f a => standN b ws V n f a
end
theorem oA_get {ws : List Od} {n : Nat} (h : n < ws.length) : ws[n]? = some (oA ws n) := by unfold oA; rw [List.getElem?_eq_getElem h]; rfl
theorem b2_get {b : BoardT} {n : Nat} (h : n < b.2.length) : b.2[n]? = some (fA b n, plA b n) := by unfold fA plA; rw [List.getElem?_eq_getElem h]; rfl
theorem at_inj {b : BoardT} (hb : GB b) {i j : Nat} (hi : i < b.2.length) (hj : j < b.2.length) (e : fA b i = fA b j) : i = j := by
  have hp := hb.p.pa
  rw [List.pairwise_iff_getElem] at hp
  have ei : fA b i = (b.2[i]).1 := by unfold fA; rw [List.getElem?_eq_getElem hi]; rfl
  have ej : fA b j = (b.2[j]).1 := by unfold fA; rw [List.getElem?_eq_getElem hj]; rfl
  rcases Nat.lt_trichotomy i j with h | h | h
  · have := hp i j hi hj h; omega
  · exact h
  · have := hp j i hj hi h; omega
theorem at_fA {b : BoardT} (hb : GB b) {i : Nat} (hi : i < b.2.length) : at? b.2 (fA b i) = some i := by
  obtain ⟨j, p, h1, h2, h3⟩ := at_some (ps := b.2) (f := fA b i) ⟨_, List.mem_of_getElem? (b2_get hi), rfl⟩
  have hj := (List.getElem?_eq_some_iff.mp h2).1
  rw [b2_get hj] at h2
  cases h2
  rw [h1, at_inj hb hj hi h3]
theorem at_lt {b : BoardT} {f : Int} {j : Nat} (h : at? b.2 f = some j) : j < b.2.length ∧ fA b j = f := by
  obtain ⟨q, hq, e⟩ := at_ok h
  have hj := (List.getElem?_eq_some_iff.mp hq).1
  rw [b2_get hj] at hq
  cases hq
  exact ⟨hj, e⟩
theorem ok_of {b : BoardT} {ws : List Od} (ho : GO b ws) {n : Nat} (h : n < ws.length) : OkO b (fA b n) (oA ws n) := ho.ok n _ _ (b2_get (by rw [← ho.len]; exact h)) (oA_get h)
theorem go_ne {b : BoardT} {ws : List Od} (hb : GB b) (ho : GO b ws) {n : Nat} (h : n < ws.length) {g : Int} (e : oA ws n = .go g) : g ≠ fA b n ∧ 0 ≤ g ∧ g < b.1.1 := by
  have := ok_of ho h
  rw [e] at this
  have k := hb.c.nb this
  exact ⟨fun z => k.2.2 z.symm, k.2.1.1, k.2.1.2⟩
theorem mem_hl {b : BoardT} {ws : List Od} {n X : Nat} : X ∈ hlN b ws n ↔ X < ws.length ∧ isH b ws n (oA ws X) = true := by unfold hlN; rw [List.mem_filter, List.mem_range]
theorem mem_co {ws : List Od} {g : Int} {X : Nat} : X ∈ coN ws g ↔ X < ws.length ∧ oA ws X = .go g := by unfold coN; rw [List.mem_filter, List.mem_range, decide_eq_true_iff]
/-- a fitting back of a place -/
theorem isH_inv {b : BoardT} {ws : List Od} {n : Nat} (hn : n < ws.length) {o : Od} (h : isH b ws n o = true) : ∃ f a, o = .back f a ∧ at? b.2 f = some n ∧ fitO f a (oA ws n) = true := by
  cases o with
  | stay => cases h
  | go g => cases h
  | back f a =>
    have h : (decide (at? b.2 f = some n) && (match ws[n]? with | some o => fitO f a o | none => false)) = true := h
    rw [oA_get hn, Bool.and_eq_true, decide_eq_true_iff] at h
    exact ⟨f, a, rfl, h.1, h.2⟩
/-! ### some tuple keeps the rules -/
section
variable {b : BoardT} {ws : List Od}
/-- a back whose aim is held by a piece that does not go -/
def Still (b : BoardT) (ws : List Od) (Y : Nat) : Prop := ∃ f a j, oA ws Y = .back f a ∧ at? b.2 a = some j ∧ isGo (oA ws j) = false
theorem leav_still {V : Nat → Bool} {n j : Nat} (h : isGo (oA ws j) = false) : leavN b ws V n j = false := by
  unfold leavN
  cases e : oA ws j with
  | stay => rfl
  | go g => rw [e] at h; cases h
  | back f a => rfl
theorem met_still {V : Nat → Bool} {n j : Nat} {g : Int} (ha : at? b.2 g = some j) (h : isGo (oA ws j) = false) : metN b ws V n g = some j := by
  unfold metN; rw [ha]; dsimp only; rw [leav_still h]; rfl
theorem rep_still {V : Nat → Bool} {n j : Nat} {g : Int} (ha : at? b.2 g = some j) (h : isGo (oA ws j) = false) : repN b ws V n g = none := by
  unfold repN; rw [ha]; dsimp only; rw [leav_still h]; rfl
theorem str_agree {V V' : Nat → Bool} {n : Nat} (h : ∀ X, X ∈ hlN b ws n → V X = V' X) : (hlN b ws n).filter V = (hlN b ws n).filter V' := List.filter_congr h
/-- backs of a go, or of a holder, that is not about a going piece's field -/
theorem hl_still (hb : GB b) (ho : GO b ws) {j m : Nat} {g : Int} (ha : at? b.2 g = some j) (h : isGo (oA ws j) = false) (hm : m < ws.length) (hk : m = j ∨ oA ws m = .go g) {Y : Nat} (hY : Y ∈ hlN b ws m) : Still b ws Y := by
  obtain ⟨f, a, e, e1, e2⟩ := isH_inv hm (mem_hl.mp hY).2
  refine ⟨f, a, j, e, ?_, h⟩
  have hf := (at_lt e1).2
  have hjl := at_lt ha
  unfold fitO at e2
  rcases hk with rfl | hk
  · by_cases z : a = f
    · rw [z, e1]
    · rw [if_neg z, decide_eq_true_iff] at e2
      rw [e2] at h
      cases h
  · rw [hk] at e2
    by_cases z : a = f
    · rw [if_pos z] at e2
      cases e2
    · rw [if_neg z, decide_eq_true_iff] at e2
      rw [← Od.go.inj e2]
      exact ha
theorem win_still (hb : GB b) (ho : GO b ws) {V V' : Nat → Bool} (hV : ∀ Y, Still b ws Y → V Y = V' Y) {n j : Nat} {g : Int} (hn : n < ws.length) (e : oA ws n = .go g) (ha : at? b.2 g = some j) (h : isGo (oA ws j) = false) : winN b ws V n g = winN b ws V' n g := by
  have hj : j < ws.length := by rw [ho.len]; exact (at_lt ha).1
  have s1 : ∀ m, m < ws.length → (m = j ∨ oA ws m = .go g) → (hlN b ws m).filter V = (hlN b ws m).filter V' := fun m hm hk => str_agree fun X hX => hV X (hl_still hb ho ha h hm hk hX)
  have s2 : ∀ m, m < ws.length → (m = j ∨ oA ws m = .go g) → strN b ws V m = strN b ws V' m := fun m hm hk => by unfold strN; rw [s1 m hm hk]
  have t : thrN b ws V n g = thrN b ws V' n g := by unfold thrN; rw [met_still ha h, met_still ha h]; dsimp only; rw [s1 n hn (.inr e)]
  have hd : holdN b ws V n j = holdN b ws V' n j := by
    unfold holdN
    rw [s2 j hj (.inl rfl)]
  have bt : beatsN b ws V n g = beatsN b ws V' n g := by unfold beatsN; rw [met_still ha h, met_still ha h]; dsimp only; rw [hd, t]
  have rv : rivN b ws V n g = rivN b ws V' n g := by unfold rivN; rw [rep_still ha h, rep_still ha h]
  unfold winN
  rw [bt, rv, t]
  congr 1
  rw [Bool.eq_iff_iff, List.all_eq_true, List.all_eq_true]
  have hr : ∀ X ∈ rivN b ws V' n g, strN b ws V X = strN b ws V' X := fun X hX => by
    obtain ⟨h1, h2⟩ := mem_co.mp (List.mem_filter.mp hX).1
    exact s2 X h1 (.inr h2)
  exact ⟨fun q X hX => by rw [← hr X hX]; exact q X hX, fun q X hX => by rw [hr X hX]; exact q X hX⟩
/-- nobody wins against a still back that is not disturbed -/
theorem still_safe (hb : GB b) (ho : GO b ws) {V : Nat → Bool} {Y X : Nat} (hY : Y < ws.length) {f a : Int} (e : oA ws Y = .back f a) {j : Nat} (ha : at? b.2 a = some j) (h : isGo (oA ws j) = false) (hd : distN b ws Y a = false) (hX : X ∈ coN ws (fA b Y)) : winN b ws V X (fA b Y) = false := by
  obtain ⟨hXl, eX⟩ := mem_co.mp hX
  have d := List.any_eq_false.mp hd X hX
  have hYl : Y < b.2.length := by rw [← ho.len]; exact hY
  have haY : at? b.2 (fA b Y) = some Y := at_fA hb hYl
  have nf : fA b X ≠ a := fun z => by
    have := at_fA hb (by rw [← ho.len]; exact hXl : X < b.2.length)
    rw [z, ha] at this
    cases this
    rw [eX] at h
    cases h
  have pe : plA b Y = plA b X := Classical.byContradiction fun q => d (Bool.and_eq_true_iff.mpr ⟨decide_eq_true nf, decide_eq_true fun z => q z.symm⟩)
  have gY : isGo (oA ws Y) = false := by rw [e]; rfl
  unfold winN beatsN
  rw [met_still haY gY]
  dsimp only
  rw [if_pos pe]
  rfl
/-- more wins, more wins -/
theorem win_mono (hb : GB b) (ho : GO b ws) {V V' : Nat → Bool} (hg : ∀ Y, isGo (oA ws Y) = false → V Y = V' Y) (hV : ∀ Y, V Y = true → V' Y = true) {n : Nat} {g : Int} (hn : n < ws.length) (hw : winN b ws V n g = true) : winN b ws V' n g = true := by
  have s1 : ∀ m, m < ws.length → (hlN b ws m).filter V = (hlN b ws m).filter V' := fun m hm => str_agree fun X hX => hg X (by
    obtain ⟨f, a, e, _⟩ := isH_inv hm (mem_hl.mp hX).2
    rw [e]; rfl)
  have s2 : ∀ m, m < ws.length → strN b ws V m = strN b ws V' m := fun m hm => by unfold strN; rw [s1 m hm]
  have riv : ∀ (W : Nat → Bool) (X : Nat), X ∈ rivN b ws W n g → X < ws.length := fun W X hX => (mem_co.mp (List.mem_filter.mp hX).1).1
  have same : metN b ws V n g = metN b ws V' n g → repN b ws V n g = repN b ws V' n g → winN b ws V' n g = true := fun e1 e2 => by
    have t : thrN b ws V n g = thrN b ws V' n g := by
      unfold thrN; rw [e1, s1 n hn, s2 n hn]
    have hd : ∀ j, j < ws.length → holdN b ws V n j = holdN b ws V' n j := fun j hj => by unfold holdN; rw [s2 j hj]
    have bt : beatsN b ws V n g = beatsN b ws V' n g := by
      unfold beatsN
      rw [← e1, ← t]
      cases q : metN b ws V n g with
      | none => rfl
      | some j =>
        have hj : j < ws.length := by
          unfold metN at q
          cases r : at? b.2 g with
          | none => rw [r] at q; cases q
          | some j' =>
            rw [r] at q
            dsimp only at q
            split at q
            · cases q
            · cases q
              rw [ho.len]
              exact (at_lt r).1
        dsimp only
        rw [hd j hj]
    have rv : rivN b ws V n g = rivN b ws V' n g := by unfold rivN; rw [e2]
    unfold winN at hw ⊢
    rw [← bt, ← rv, ← t]
    rw [Bool.and_eq_true] at hw ⊢
    refine ⟨hw.1, List.all_eq_true.mpr fun X hX => ?_⟩
    rw [← s2 X (riv _ X hX)]
    exact List.all_eq_true.mp hw.2 X hX
  cases ha : at? b.2 g with
  | none => exact same (by unfold metN; rw [ha]) (by unfold repN; rw [ha])
  | some j =>
    by_cases l : leavN b ws V n j = leavN b ws V' n j
    · exact same (by unfold metN; rw [ha]; dsimp only; rw [l]) (by unfold repN; rw [ha]; dsimp only; rw [l])
    · have l1 : leavN b ws V n j = false := by
        cases q : leavN b ws V n j with
        | false => rfl
        | true =>
          exfalso
          apply l
          rw [q]
          unfold leavN at q ⊢
          split at q
          · rw [Bool.and_eq_true] at q
            rw [q.1, hV j q.2]; rfl
          · cases q
      have l2 : leavN b ws V' n j = true := by
        cases q : leavN b ws V' n j with
        | true => rfl
        | false => exact absurd (l1.trans q.symm) l
      have m1 : metN b ws V n g = some j := by unfold metN; rw [ha]; dsimp only; rw [l1]; rfl
      have m2 : metN b ws V' n g = none := by unfold metN; rw [ha]; dsimp only; rw [l2]; rfl
      have r1 : repN b ws V n g = none := by unfold repN; rw [ha]; dsimp only; rw [l1]; rfl
      have t1 : thrN b ws V n g ≤ strN b ws V n := by
        unfold thrN
        rw [m1]
        dsimp only
        unfold strN
        exact Nat.add_le_add_left (List.length_filter_le _ _) 1
      have t2 : thrN b ws V' n g = strN b ws V n := by unfold thrN; rw [m2]; exact (s2 n hn).symm
      unfold winN at hw ⊢
      rw [Bool.and_eq_true] at hw ⊢
      refine ⟨by unfold beatsN; rw [m2], List.all_eq_true.mpr fun X hX => ?_⟩
      have hX' : X ∈ rivN b ws V n g := by
        unfold rivN at hX ⊢
        rw [List.mem_filter] at hX ⊢
        refine ⟨hX.1, ?_⟩
        rw [r1]
        have := (Bool.and_eq_true_iff.mp hX.2).1
        rw [this]
        rfl
      have k := of_decide_eq_true (List.all_eq_true.mp hw.2 X hX')
      rw [← s2 X (riv _ X hX'), t2]
      exact decide_eq_true (by omega)
/-- what stands whatever is won -/
def Sn0 (b : BoardT) (ws : List Od) (Y : Nat) : Bool := match oA ws Y with
  | .back f a => helpN b ws Y f && !distN b ws Y a
  | _ => false
def Wn0 (b : BoardT) (ws : List Od) (X : Nat) : Bool := match oA ws X with
  | .go g => winN b ws (Sn0 b ws) X g
  | _ => false
def Un0 (b : BoardT) (ws : List Od) (Y : Nat) : Bool := match oA ws Y with
  | .stay => true
  | .go _ => false
  | .back f a => standN b ws (Wn0 b ws) Y f a
def mix0 (b : BoardT) (ws : List Od) (x : Nat → Bool) (m : Nat) : Bool := if isGo (oA ws m) then x m else Un0 b ws m
def Phi (b : BoardT) (ws : List Od) (x : Nat → Bool) (n : Nat) : Bool := decide (n < ws.length) && (match oA ws n with
  | .go g => winN b ws (mix0 b ws x) n g
  | _ => false)
theorem Phi_mono (hb : GB b) (ho : GO b ws) {x y : Nat → Bool} (h : ∀ m, x m = true → y m = true) (n : Nat) (hx : Phi b ws x n = true) : Phi b ws y n = true := by
  unfold Phi at hx ⊢
  rw [Bool.and_eq_true, decide_eq_true_iff] at hx ⊢
  refine ⟨hx.1, ?_⟩
  cases e : oA ws n with
  | stay => rw [e] at hx; cases hx.2
  | back f a => rw [e] at hx; cases hx.2
  | go g =>
    rw [e] at hx
    refine win_mono hb ho (fun Y hY => ?_) (fun Y hY => ?_) hx.1 hx.2
    · unfold mix0; rw [hY]; rfl
    · unfold mix0 at hY ⊢
      split
      · rename_i q
        rw [if_pos q] at hY
        exact h Y hY
      · rename_i q
        rw [if_neg q] at hY
        exact hY
open Classical in
noncomputable def lfp0 (b : BoardT) (ws : List Od) (n : Nat) : Bool := decide (∀ y : Nat → Bool, (∀ m, Phi b ws y m = true → y m = true) → y n = true)
open Classical in
theorem lfp_iff {n : Nat} : lfp0 b ws n = true ↔ ∀ y : Nat → Bool, (∀ m, Phi b ws y m = true → y m = true) → y n = true := by
  unfold lfp0
  exact decide_eq_true_iff
theorem lfp_ok (hb : GB b) (ho : GO b ws) (n : Nat) : Phi b ws (lfp0 b ws) n = lfp0 b ws n := by
  have le : ∀ m, Phi b ws (lfp0 b ws) m = true → lfp0 b ws m = true := fun m hm => by
    refine lfp_iff.mpr fun y hy => ?_
    refine hy m (Phi_mono hb ho (fun k hk => ?_) m hm)
    exact lfp_iff.mp hk y hy
  rw [Bool.eq_iff_iff]
  refine ⟨le n, fun h => ?_⟩
  exact lfp_iff.mp h _ fun m hm => Phi_mono hb ho le m hm
theorem settled (hb : GB b) (ho : GO b ws) : ∃ V : Nat → Bool, ∀ n, n < ws.length → ruleN b ws V n = V n := by
  refine ⟨mix0 b ws (lfp0 b ws), fun n hn => ?_⟩
  have still0 : ∀ Y, Still b ws Y → Y < ws.length → mix0 b ws (lfp0 b ws) Y = Sn0 b ws Y := fun Y ⟨f, a, j, e, ha, h⟩ hY => by
    unfold mix0 Sn0 Un0
    rw [e]
    show standN b ws (Wn0 b ws) Y f a = _
    dsimp only
    unfold standN
    cases q : (helpN b ws Y f && !distN b ws Y a) with
    | false => rfl
    | true =>
      rw [Bool.true_and, List.all_eq_true]
      intro X hX
      rw [Bool.and_eq_true] at q
      have hd : distN b ws Y a = false := by simpa using q.2
      have e2 := (mem_co.mp hX).2
      unfold Wn0
      rw [e2]
      dsimp only
      rw [still_safe hb ho hY e ha h hd hX]
      rfl
  have stillO : ∀ Y, Still b ws Y → mix0 b ws (lfp0 b ws) Y = Sn0 b ws Y := fun Y hs => by
    by_cases hY : Y < ws.length
    · exact still0 Y hs hY
    · obtain ⟨f, a, j, e, _⟩ := hs
      unfold oA at e
      rw [List.getElem?_eq_none_iff.mpr (by omega)] at e
      cases e
  have fx := lfp_ok hb ho n
  unfold Phi at fx
  rw [decide_eq_true hn, Bool.true_and] at fx
  unfold ruleN
  cases e : oA ws n with
  | stay => unfold mix0 Un0; rw [e]; rfl
  | go g =>
    rw [e] at fx
    show winN b ws (mix0 b ws (lfp0 b ws)) n g = _
    unfold mix0 at fx ⊢
    rw [e]
    exact fx
  | back f a =>
    have e3 : mix0 b ws (lfp0 b ws) n = standN b ws (Wn0 b ws) n f a := by unfold mix0 Un0; rw [e]; rfl
    rw [e3]
    show standN b ws (mix0 b ws (lfp0 b ws)) n f a = _
    unfold standN
    congr 1
    rw [Bool.eq_iff_iff, List.all_eq_true, List.all_eq_true]
    have hX : ∀ X ∈ coN ws (fA b n), mix0 b ws (lfp0 b ws) X = Wn0 b ws X := fun X hX => by
      obtain ⟨hXl, eX⟩ := mem_co.mp hX
      have fx := lfp_ok hb ho X
      unfold Phi at fx
      rw [decide_eq_true hXl, Bool.true_and, eX] at fx
      have e4 : mix0 b ws (lfp0 b ws) X = lfp0 b ws X := by unfold mix0; rw [eX]; rfl
      unfold Wn0
      rw [eX, e4, ← fx]
      exact win_still hb ho stillO hXl eX (at_fA hb (by rw [← ho.len]; exact hn)) (by rw [e]; rfl)
    exact ⟨fun q X h => by rw [← hX X h]; exact q X h, fun q X h => by rw [hX X h]; exact q X h⟩
end
end Zm
namespace Zm
open PySem PySem.Spec PyProof.Rows L2
open WM (pu bd)
open LO (lf)
/-! ### a round's parts, by number -/
def cI (L : List Nat) : List Int := L.map fun n : Nat => (n : Int)
section
variable {b : BoardT} {ws : List Od} {n : Nat}
end
/-- where a place's order brings it -/
def tgN (b : BoardT) (ws : List Od) (n : Nat) : Int := match oA ws n with
  | .go g => g
  | _ => fA b n
theorem isH_eq {b : BoardT} {ws : List Od} (hb : GB b) (ho : GO b ws) {n : Nat} (hn : n < ws.length) (o : Od) : isH b ws n o = decide (o = .back (fA b n) (tgN b ws n)) := by
  have wl := ho.len
  cases o with
  | stay => rfl
  | go g => rfl
  | back f a =>
    show (decide (at? b.2 f = some n) && (match ws[n]? with | some o => fitO f a o | none => false)) = _
    rw [oA_get hn]
    show (decide (at? b.2 f = some n) && fitO f a (oA ws n)) = _
    rw [Bool.eq_iff_iff, Bool.and_eq_true, decide_eq_true_iff, decide_eq_true_iff]
    have hf : at? b.2 f = some n ↔ f = fA b n := ⟨fun h => (at_lt h).2.symm, fun h => by rw [h]; exact at_fA hb (by omega)⟩
    rw [hf]
    unfold tgN fitO
    cases e : oA ws n with
    | stay =>
      by_cases z : a = f
      · rw [if_pos z]
        exact ⟨fun h => by rw [z, h.1], fun h => ⟨(Od.back.inj h).1, rfl⟩⟩
      · rw [if_neg z]
        exact ⟨fun h => (by cases h.2), fun h => absurd ((Od.back.inj h).2.trans (Od.back.inj h).1.symm) z⟩
    | back f' a' =>
      by_cases z : a = f
      · rw [if_pos z]
        exact ⟨fun h => by rw [z, h.1], fun h => ⟨(Od.back.inj h).1, rfl⟩⟩
      · rw [if_neg z]
        exact ⟨fun h => (by cases h.2), fun h => absurd ((Od.back.inj h).2.trans (Od.back.inj h).1.symm) z⟩
    | go g =>
      have ne := (go_ne hb ho hn e).1
      by_cases z : a = f
      · rw [if_pos z]
        exact ⟨fun h => (by cases h.2), fun h => by have h1 := (Od.back.inj h).1; have h2 : a = g := (Od.back.inj h).2; exact absurd (by rw [← h2, z, h1]) ne⟩
      · rw [if_neg z, decide_eq_true_iff]
        exact ⟨fun h => by rw [h.1, Od.go.inj h.2], fun h => ⟨(Od.back.inj h).1, by rw [(Od.back.inj h).2]⟩⟩
def isBk : Od → Bool
  | .back _ _ => true
  | _ => false
/-- what a tuple of outcomes is told to break -/
def brk (b : BoardT) (ws : List Od) (v : List Bool) (n : Nat) : Option PyData := if ruleN b ws (vA v) n = vA v n then none else some (.tuple [.str "order", .int (n : Nat)])
def rsTup (b : BoardT) (ws : List Od) (v : List Bool) : PyData := match (List.range ws.length).findSome? (brk b ws v) with
  | some r => r
  | none => .none
end Zm
namespace Zm
open PySem PySem.Spec PyProof.Rows L2
open WM (pu bd)
open LO (lf)
/-! ### xs + ys, to be one's own -/
def vAddN (v w : Val) (M : Mm) : Out Val := match trackD v M, trackD w M with
  | some a, some b => if fitsL (a.length + b.length) then .ok (.obj M.length) (M ++ [.lst ((a ++ b).map .d)]) else .bad
  | _, _ => .bad
section
variable {X : Cx} {W : WX}
theorem oz_addN : OpZ X (fun x y H Q => rCat x y H Q) vAddN := by
  intro W G M σ H Q x y v w S r1 r2 p
  unfold vAddN at p
  split at p
  · rename_i a b ea eb
    split at p
    · rename_i hf
      obtain ⟨pa, xs, rfl, h1, h2⟩ := trackD_ok S r1 ea
      obtain ⟨pb, ys, rfl, g1, g2⟩ := trackD_ok S r2 eb
      refine ⟨pa, pb, xs, ys, rfl, rfl, h1, g1, by rw [h2.len, g2.len]; exact fitsL_ok hf, fun z hz => ?_⟩
      obtain ⟨S2, e2, r3⟩ := S.pushL hz (RVs.rws (RVs.append h2 g2))
      exact p _ _ _ e2 S2 r3
    · exact p.elim
  · exact p.elim
theorem se_addN {a b : Expr} {ma mb : EM} {pos : Pos} (ha : SE X W a ma) (hb : SE X W b mb) : SE X W (.BinOp a .Add b pos) (mOp vAddN ma mb) :=
  se_op op_cat oz_addN ha hb
end
section
variable {𝔅 : Bas} {μ : Type → Type} [LO μ] {α : Type} {Γ : Cs}
end
end Zm
namespace Zm
open PySem PySem.Spec PyProof.Rows L2
open WM (pu bd)
open LO (lf)
theorem wh_end {σ ρ : Type} {c : σ → Option Bool} {b : σ → Option (Tn σ ρ)} {n : Nat} {s : σ} (hc : c s = some false) : whM c b (n + 1) s = some (.dn s) := by
  show bd (c s) _ = _
  rw [hc]
  rfl
/-- a loop whose measure falls -/
theorem wh_J {σ ρ : Type} {c : σ → Option Bool} {b : σ → Option (Tn σ ρ)} (J : σ → Prop) (m : σ → Nat) (P : Fi σ ρ → Prop)
    (hs : ∀ s, J s → (c s = some false ∧ P (.dn s)) ∨ (c s = some true ∧ ∃ s', b s = some (.go s') ∧ J s' ∧ m s' < m s)) (s : σ) (h : J s) : ∃ a, WH.wh (fun n => whM c b n s) = some a ∧ P a := by
  refine wh_ok P ?_ ?_
  · suffices H : ∀ (k : Nat) (s : σ), m s ≤ k → J s → ∃ n a, whM c b n s = some a from H _ s (Nat.le_refl _) h
    intro k
    induction k with
    | zero =>
      intro s hm hj
      rcases hs s hj with ⟨h1, _⟩ | ⟨_, s', _, _, h3⟩
      · exact ⟨1, _, wh_end h1⟩
      · omega
    | succ k ih =>
      intro s hm hj
      rcases hs s hj with ⟨h1, _⟩ | ⟨h1, s', h2, h3, h4⟩
      · exact ⟨1, _, wh_end h1⟩
      · obtain ⟨n, a, e⟩ := ih s' (by omega) h3
        exact ⟨n + 1, a, by rw [wh_go h1 h2, e]⟩
  · intro n
    suffices H : ∀ (n : Nat) (s : σ) (a : Fi σ ρ), J s → whM c b n s = some a → P a from fun a e => H n s a h e
    intro n
    induction n with
    | zero => intro s a _ e; cases e
    | succ n ih =>
      intro s a hj e
      rcases hs s hj with ⟨h1, h2⟩ | ⟨h1, s', h2, h3, _⟩
      · rw [wh_end h1] at e
        cases e
        exact h2
      · rw [wh_go h1 h2] at e
        exact ih s' a h3 e
end Zm
/-! sorted of triples of numbers whose first two tell them apart -/
namespace Zt
open PySem PySem.Spec PyProof.Rows L2 SrtO Srt
variable {prog : Program} {w : World} {A : Around} {s : Shared} {E : Value → Shared → Prop}
def IsTrI (h : Heap) (v : Value) (x y : Int) : Prop := ∃ a o r t u n z, v = .ref a ∧ h.get? a = some o ∧ o.cls = .type "tuple" ∧ o.data = .seq #[.int x r, .int y t, .int z u] n
end Zt
namespace Zm
open PySem PySem.Spec PyProof.Rows L2
open WM (pu bd)
open LO (lf)
abbrev Tr3 := Int × Int × Int
def trI (t : Tr3) : PyData := .tuple [.int t.1, .int t.2.1, .int t.2.2]
def fst2 (t : Tr3) : Int × Int := (t.1, t.2.1)
def toI3 : PyData → Option Tr3
  | .tuple [.int a, .int b, .int c] => some (a, b, c)
  | _ => none
def allI3 : List PyData → Option (List Tr3)
  | [] => some []
  | d :: r => match toI3 d, allI3 r with
    | some p, some ps => some (p :: ps)
    | _, _ => none
/-- sorted by the first two, which tell them apart -/
def sort3 (ts : List Tr3) : List Tr3 := (sortP (ts.map fst2)).filterMap fun p => ts.find? fun t => decide (fst2 t = p)
def k3 (H : Hp) (v : V) : Tr3 := match v with
  | .ref t => match H t with
    | some (.tup [.int a, .int b, .int c]) => (a, b, c)
    | _ => (0, 0, 0)
  | _ => (0, 0, 0)
/-- triples, told apart by k: two at different places in the list have different keys -/
def rSort3 (K : PySem.W.Frag) : List V → Hp → VK → Prop := fun vs H Q => ∃ (a : Addr) (xs : List V) (k : V → Int × Int), vs = [V.ref a] ∧ SqL K H a xs ∧ (∀ x ∈ xs, ∃ t z, x = V.ref t ∧ H t = some (.tup [.int (k x).1, .int (k x).2, .int z])) ∧
  (∀ x ∈ xs, ∀ y ∈ xs, k x = k y → x = y) ∧ ∀ ys p, SrtO.Srtd (L2.ltP k) ys → SrtO.Stb (L2.ltP k) ys xs → H p = none → Q (.ref p) (upd H p (.lst ys))
section
variable {X : Cx}
def vSort3 (vs : List Val) (M : Mm) : Out Val := match vs with
  | [v] => match listD v M with
    | some ds => match allI3 ds with
      | some ts => if (ts.map fst2).Nodup then .ok (.d (.list ((sort3 ts).map trI))) M else .bad
      | none => .bad
    | none => .bad
  | _ => .bad
end
def sort3O (ts : List Tr3) : Option (List Tr3) := if (ts.map fst2).Nodup then some (sort3 ts) else none
end Zm
namespace Zm
open PySem PySem.Spec PyProof.Rows L2
/-! ### players and fields called otherwise -/
def ren (σ : Int → Int) : Od → Od
  | .stay => .stay
  | .go g => .go (σ g)
  | .back f a => .back (σ f) (σ a)
/-- place i of the second board is place τ i of the first -/
structure Ren (b : BoardT) (ws : List Od) (b' : BoardT) (ws' : List Od) (σ : Int → Int) (τ : Nat → Nat) : Prop where
  hb : GB b
  ho : GO b ws
  hb' : GB b'
  ho' : GO b' ws'
  len : ws'.length = ws.length
  lt : ∀ i, i < ws.length → τ i < ws.length
  inj : ∀ i j, i < ws.length → j < ws.length → τ i = τ j → i = j
  fld : ∀ i, i < ws.length → fA b' i = σ (fA b (τ i))
  pl : ∀ i j, i < ws.length → j < ws.length → (plA b' i = plA b' j ↔ plA b (τ i) = plA b (τ j))
  od : ∀ i, i < ws.length → oA ws' i = ren σ (oA ws (τ i))
  sinj : ∀ f g, 0 ≤ f → f < b.1.1 → 0 ≤ g → g < b.1.1 → σ f = σ g → f = g
section
variable {b b' : BoardT} {ws ws' : List Od} {σ : Int → Int} {τ : Nat → Nat}
theorem perm_sub : ∀ (l m : List Nat), l.Nodup → (∀ x ∈ l, x ∈ m) → m.length ≤ l.length → l.Perm m
  | [], m, _, _, h => by rw [List.length_eq_zero_iff.mp (Nat.le_zero.mp h)]
  | x :: l, m, hn, hs, h => by
    rw [List.nodup_cons] at hn
    have hx := hs x (List.mem_cons_self ..)
    have hp := List.perm_cons_erase hx
    refine (List.Perm.cons x (perm_sub l (m.erase x) hn.2 (fun y hy => ?_) ?_)).trans hp.symm
    · exact (List.mem_erase_of_ne (fun e => hn.1 (by rw [← e]; exact hy))).mpr (hs y (List.mem_cons_of_mem _ hy))
    · rw [List.length_erase_of_mem hx]
      rw [List.length_cons] at h
      omega
theorem perm_tau {N : Nat} {τ : Nat → Nat} (lt : ∀ i, i < N → τ i < N) (inj : ∀ i j, i < N → j < N → τ i = τ j → i = j) : ((List.range N).map τ).Perm (List.range N) := by
  have nd : ((List.range N).map τ).Nodup := by
    refine List.pairwise_map.mpr ?_
    have : (List.range N).Pairwise fun i j => i ≠ j := List.nodup_range
    refine List.Pairwise.imp_of_mem (fun {i j} hi hj h e => h (inj i j (List.mem_range.mp hi) (List.mem_range.mp hj) e)) this
  have sub : ∀ x ∈ (List.range N).map τ, x ∈ List.range N := fun x hx => by
    obtain ⟨i, hi, rfl⟩ := List.mem_map.mp hx
    exact List.mem_range.mpr (lt i (List.mem_range.mp hi))
  exact perm_sub _ _ nd sub (by rw [List.length_map]; exact Nat.le_refl _)
theorem Ren.sur (R : Ren b ws b' ws' σ τ) {m : Nat} (h : m < ws.length) : ∃ j, j < ws.length ∧ τ j = m := by
  have := (perm_tau R.lt R.inj).mem_iff.mpr (List.mem_range.mpr h)
  obtain ⟨j, hj, e⟩ := List.mem_map.mp this
  exact ⟨j, List.mem_range.mp hj, e⟩
theorem Ren.cnt (R : Ren b ws b' ws' σ τ) {p p' : Nat → Bool} (h : ∀ j, j < ws.length → p' j = p (τ j)) : ((List.range ws'.length).filter p').length = ((List.range ws.length).filter p).length := by
  have e1 := ((perm_tau R.lt R.inj).filter p).length_eq
  rw [← e1, List.filter_map, List.length_map, R.len]
  congr 1
  exact List.filter_congr fun j hj => h j (List.mem_range.mp hj)
theorem Ren.fin (R : Ren b ws b' ws' σ τ) {m : Nat} (h : m < ws.length) : 0 ≤ fA b m ∧ fA b m < b.1.1 := (R.hb.p.pd _ (List.mem_of_getElem? (b2_get (by rw [← R.ho.len]; exact h)))).1
/-- the fields an order names lie on the chart -/
theorem Ren.infl (R : Ren b ws b' ws' σ τ) {m : Nat} (h : m < ws.length) : (match oA ws m with | .stay => True | .go g => 0 ≤ g ∧ g < b.1.1 | .back f a => (0 ≤ f ∧ f < b.1.1) ∧ 0 ≤ a ∧ a < b.1.1) := by
  have ok := ok_of R.ho h
  cases e : oA ws m with
  | stay => trivial
  | go g => rw [e] at ok; exact (R.hb.c.nb ok).2.1
  | back f a =>
    rw [e] at ok
    obtain ⟨_, ⟨p, hp, hpf⟩, ha, _⟩ := ok
    refine ⟨?_, (R.hb.c.nb ha).2.1⟩
    rw [← hpf]
    exact (R.hb.p.pd p hp).1
theorem Ren.go_iff (R : Ren b ws b' ws' σ τ) {g : Int} (h0 : 0 ≤ g) (h1 : g < b.1.1) {j : Nat} (hj : j < ws.length) : oA ws' j = .go (σ g) ↔ oA ws (τ j) = .go g := by
  rw [R.od j hj]
  have k := R.infl (R.lt j hj)
  cases e : oA ws (τ j) with
  | stay => exact ⟨fun h => (by cases h), fun h => (by cases h)⟩
  | back f a => exact ⟨fun h => (by cases h), fun h => (by cases h)⟩
  | go h =>
    rw [e] at k
    exact ⟨fun q => by rw [R.sinj h g k.1 k.2 h0 h1 (Od.go.inj q)], fun q => by rw [Od.go.inj q]; rfl⟩
theorem Ren.tg (R : Ren b ws b' ws' σ τ) {i : Nat} (h : i < ws.length) : tgN b' ws' i = σ (tgN b ws (τ i)) := by
  unfold tgN
  rw [R.od i h]
  cases oA ws (τ i) with
  | stay => exact R.fld i h
  | go g => rfl
  | back f a => exact R.fld i h
theorem Ren.tgin (R : Ren b ws b' ws' σ τ) {m : Nat} (h : m < ws.length) : 0 ≤ tgN b ws m ∧ tgN b ws m < b.1.1 := by
  unfold tgN
  have k := R.infl h
  have f := R.fin h
  cases e : oA ws m with
  | stay => exact f
  | go g => rw [e] at k; exact k
  | back _ _ => exact f
theorem Ren.hel (R : Ren b ws b' ws' σ τ) {i j : Nat} (hi : i < ws.length) (hj : j < ws.length) : isH b' ws' i (oA ws' j) = isH b ws (τ i) (oA ws (τ j)) := by
  rw [isH_eq R.hb' R.ho' (by rw [R.len]; exact hi), isH_eq R.hb R.ho (R.lt i hi), R.fld i hi, R.tg hi, R.od j hj, decide_eq_decide]
  have f := R.fin (R.lt i hi)
  have t := R.tgin (R.lt i hi)
  have k := R.infl (R.lt j hj)
  cases e : oA ws (τ j) with
  | stay => exact ⟨fun h => (by cases h), fun h => (by cases h)⟩
  | go h => exact ⟨fun h => (by cases h), fun h => (by cases h)⟩
  | back g a =>
    rw [e] at k
    constructor
    · intro q
      have q1 := (Od.back.inj q).1
      have q2 := (Od.back.inj q).2
      rw [R.sinj _ _ k.1.1 k.1.2 f.1 f.2 q1, R.sinj _ _ k.2.1 k.2.2 t.1 t.2 q2]
    · intro q
      rw [(Od.back.inj q).1, (Od.back.inj q).2]
      rfl
variable {V V' : Nat → Bool}
theorem Ren.str (R : Ren b ws b' ws' σ τ) (hV : ∀ j, j < ws.length → V' j = V (τ j)) {i : Nat} (hi : i < ws.length) : strN b' ws' V' i = strN b ws V (τ i) := by
  unfold strN hlN
  rw [List.filter_filter, List.filter_filter]
  congr 1
  exact R.cnt fun j hj => by rw [R.hel hi hj, hV j hj]
theorem Ren.all (R : Ren b ws b' ws' σ τ) {f : Int} (h0 : 0 ≤ f) (h1 : f < b.1.1) {p p' : Nat → Bool} (h : ∀ j, j < ws.length → p' j = p (τ j)) : (coN ws' (σ f)).all p' = (coN ws f).all p := by
  rw [Bool.eq_iff_iff, List.all_eq_true, List.all_eq_true]
  constructor
  · intro q X hX
    obtain ⟨hXl, hXo⟩ := mem_co.mp hX
    obtain ⟨j, hj, rfl⟩ := R.sur hXl
    rw [← h j hj]
    exact q j (mem_co.mpr ⟨by rw [R.len]; exact hj, (R.go_iff h0 h1 hj).mpr hXo⟩)
  · intro q X hX
    obtain ⟨hXl, hXo⟩ := mem_co.mp hX
    rw [R.len] at hXl
    rw [h X hXl]
    exact q _ (mem_co.mpr ⟨R.lt X hXl, (R.go_iff h0 h1 hXl).mp hXo⟩)
end
end Zm
namespace Zm
open PySem PySem.Spec PyProof.Rows L2
/-! ### a board with its fields called otherwise -/
def sgm (ys : List Int) (f : Int) : Int := (ys[f.toNat]?).getD 0
def mm (x y : Int) : Int × Int := (if y < x then y else x, if y > x then y else x)
def calT (b : BoardT) (ys : List Int) : List Tr3 := (enu b.2).map fun y => (sgm ys y.2.1, y.2.2, y.1)
def calS (b : BoardT) (ys : List Int) : List Tr3 := sort3 (calT b ys)
def calB (b : BoardT) (ys : List Int) : BoardT := ((b.1.1, sortP (b.1.2.1.map fun p => mm (sgm ys p.1) (sgm ys p.2)), sortI (b.1.2.2.map (sgm ys))), (calS b ys).map fst2)
def calτ (b : BoardT) (ys : List Int) (i : Nat) : Nat := (((calS b ys)[i]?).map fun t => t.2.2.toNat).getD 0
def calW (b : BoardT) (ws : List Od) (ys : List Int) : List Od := (calS b ys).map fun t => ren (sgm ys) (oA ws t.2.2.toNat)
section
variable {b : BoardT} {ws : List Od} {ys : List Int}
/-- players called otherwise -/
def othB (b : BoardT) (ys : List Int) : BoardT := (b.1, b.2.map fun p => (p.1, sgm ys p.2))
end
end Zm
namespace Zm
open PySem PySem.Spec PyProof.Rows L2
/-! ### list.index of ints -/
def rIdxI (K : PySem.W.Frag) : V → List V → Hp → VK → Prop := fun x xs H Q => ∃ (p : Addr) (ns : List Int) (k : Int), x = .ref p ∧ xs = [.int k] ∧ k ∈ ns ∧ SqL K H p (ns.map V.int) ∧ Q (.int (ns.idxOf k : Nat)) H
section
variable {X : Cx}
def vIdx : MF := fun v vs M => match vs with
  | [.d (.int k)] => match listD v M with
    | some ds => match intsP ds with
      | some ns => if k ∈ ns then .ok (.d (.int (ns.idxOf k : Nat))) M else .bad
      | none => .bad
    | none => .bad
  | _ => .bad
end
open WM (pu bd)
open LO (lf)
def idxO (xs : List Int) (k : Int) : Option Int := if k ∈ xs then some ((xs.idxOf k : Nat) : Int) else none
end Zm
namespace Zm
open PySem PySem.Spec PyProof.Rows L2
open WM (pu bd)
open LO (lf)
/-! ### a display of a dict of one's own, with constant keys -/
/-! ### d[a], e[b] = x, y -/
end Zm
/-! shifts and bits; sorted(set(xs)) of pairs; a def whose result is fixed whole -/
namespace Zm
open PySem PySem.Spec PyProof.Rows L2
open WM (pu bd)
open LO (lf)
section
variable {X : Cx} {W : WX} {a b : Expr} {ma mb : EM} {pos : Pos}
abbrev vShl := vI (fun i j => decide (0 ≤ j) && decide (j ≤ 1000000) && decide (i.natAbs < 18446744073709551616)) fun i j => i * 2 ^ j.toNat
abbrev vShr := vI (fun _ j => decide (0 ≤ j)) fun i j => i / 2 ^ j.toNat
abbrev vBand := vI (fun _ _ => true) fun i j => Builtin.bitAnd i j
end
def shlO (a b : Int) : Option Int := if 0 ≤ b ∧ b ≤ 1000000 ∧ a.natAbs < 18446744073709551616 then some (a * 2 ^ b.toNat) else none
def shrO (a b : Int) : Option Int := if 0 ≤ b then some (a / 2 ^ b.toNat) else none
def bandI (a b : Int) : Int := Builtin.bitAnd a b
/-! ### sorted(set(xs)) of pairs -/
def nubP : List (Int × Int) → List (Int × Int)
  | [] => []
  | x :: xs => if x ∈ xs then nubP xs else x :: nubP xs
def ssetP (xs : List (Int × Int)) : List (Int × Int) := sortP (nubP xs)
def b64 (ps : List (Int × Int)) : Bool := decide (ps.length < 64) && ps.all fun p => decide (0 ≤ p.1) && decide (p.1 < 64) && decide (0 ≤ p.2) && decide (p.2 < 64)
def vSSetX (vs : List Val) (M : Mm) : Out Val := match vs with
  | [v] => match listD v M with
    | some ds => match allI ds with
      | some ns => if ns.length ≤ 60 then .ok (.d (.list ((ssetI ns).map .int))) M else .bad
      | none => match allP ds with
        | some ps => if b64 ps = true then .ok (.d (.list ((ssetP ps).map pairD))) M else .bad
        | none => .bad
    | none => .bad
  | _ => .bad
section
variable {K : PySem.W.Frag} {G : Gh} {H : Hp}
def l2 (p : Int × Int) : List Int := [p.1, p.2]
end
section
variable {X : Cx} {W : WX}
end

def ssetPO (a : List (Int × Int)) : Option (List (Int × Int)) := if b64 a = true then some (ssetP a) else none
def ssetIO (a : List Int) : Option (List Int) := if a.length ≤ 60 then some (ssetI a) else none
/-! ### a def whose result is fixed whole -/
def fzd (den : Den) : Den := fun vs M => match den vs M with
  | .ok (.obj j) M' => match (frzJ (((List.range (M'.length - M.length)).map (M.length + ·)).filter (fun i => decide (i ≠ j)) ++ [j]) M')[j]? with
    | some (.frz x) => .ok (.d x) (frzJ (((List.range (M'.length - M.length)).map (M.length + ·)).filter (fun i => decide (i ≠ j)) ++ [j]) M')
    | _ => .bad
  | o => o
/-! ### enumerate of any sequence -/
theorem ji_enuD {𝔅 : Bas} {μ : Type → Type} [LO μ] {Γ : Cs} {m : EM} {f : μ PyData} (h : JX 𝔅 Γ m f fun a => .v (eD a)) : JI 𝔅 Γ (mEnum (mCons m mNil)) (bd f fun x => bd (lf (seqO x)) fun a => pu (enu a)) (eE eD) :=
  ⟨fun Q L P β M r hL S => WpE.bind (WpE.bind ((jx_at h _ L P β M (WM.run_bd r) hL S).mono (fun w M' ⟨a, β', q, e, S'⟩ => by
    obtain ⟨c, hc, q2⟩ := LO.run_lf (WM.run_bd q)
    rw [e]
    have hh : a = .list c ∨ a = .tuple c := by
      unfold seqO at hc
      split at hc
      · cases hc; exact .inl rfl
      · cases hc; exact .inr rfl
      · cases hc
    have em : c.map eD = c := List.map_id c
    rcases hh with h1 | h1
    · subst h1
      refine ⟨enu c, β', WM.run_pu q2, ?_, S'⟩
      have := enuF_dl (enc := eD) c 0
      rw [em] at this
      exact this
    · subst h1
      refine ⟨enu c, β', WM.run_pu q2, ?_, S'⟩
      have := enuF_dl (enc := eD) c 0
      rw [em] at this
      exact this) fun _ _ h => h))⟩
end Zm
/-! a list of another's, lent to a def that reads it alone -/
namespace Zm
open PySem PySem.Spec PyProof.Rows L2
open WM (pu bd)
open LO (lf)
variable {𝔅 : Bas} {μ : Type → Type} [LO μ] {α γ ρ : Type} {Γ Γx : Cs}
def Bor (𝔅 : Bas) (j : Nat) (xs : List PyData) : Prop := ∀ β, (𝔅.mem β)[j]? = some (.lst (xs.map .d))
def FnB (den : Den) (f : γ → Option ρ) (vs : γ → Nat → List Val) (l : γ → List PyData) (y : ρ → PyData) : Prop := ∀ a r M j, f a = some r → M[j]? = some (.lst ((l a).map .d)) → M.all (MO.below M.length) = true → den (vs a j) M = .ok (.d (y r)) M
def spB : Val → Sp
  | .d x => .v x
  | .obj j => .o j
  | _ => .n
/-- arguments that are names, one of them the list that is lent -/
structure AB (Γ : Cs) (ms : AM) (i : Nat) (ys : List PyData) (vs : Nat → List Val) : Prop where
  run : ∀ (L P : Ps) (B M : Mm) (j : Nat), L.cs = Γ → Sat (L ++ P) B M → L[i]? = some (.l ys, some (.obj j)) → M[j]? = some (.lst (ys.map .d)) → ms L.sl M = .ok (vs j) M
/-! ### xs[k], a = x, y -/
/-! ### xs[k], xs[k'] = x, y -/
/-! ### a, b, c = a list -/
def gTL (n : Nat) (g : GMs) : GM := fun v s M => match v with
  | .d (.list ds) => if ds.length = n then g (ds.map .d) s M else none
  | _ => none
def un2 : List α → Option (α × α)
  | [a, b] => some (a, b)
  | _ => none
def un3 : List α → Option (α × α × α)
  | [a, b, c] => some (a, b, c)
  | _ => none
abbrev eU2 (e : α → PyData) : α × α → PyData := fun p => .list [e p.1, e p.2]
abbrev eU3 (e : α → PyData) : α × α × α → PyData := fun p => .list [e p.1, e p.2.1, e p.2.2]
/-! ### list(range(a, b)) -/
def rgX (a b : Int) : Option (List Int) := if (decide (-1000 ≤ a) && decide (a ≤ 1000000) && decide (-1000 ≤ b) && decide (b ≤ 1000000)) = true then some (ran a b) else none
/-! ### xs.append(ys.pop(k)) -/
end Zm
/-! rows of one's own in a list of one's own, with anything behind it; what a law's job knows -/
namespace Zm
open PySem PySem.Spec PyProof.Rows L2
open WM (pu bd)
open LO (lf)
def LN (M0 : Mm) (rows : List (List Int)) (ls : Mm) : Mm := M0 ++ (rows.map rowM ++ lstM M0.length rows.length :: ls)
section
variable {M0 : Mm} {rows : List (List Int)} {ls : Mm}
end
open Classical in
/-- the rows of a chart's neighbours -/
noncomputable def besB (c : ChartT) : Option (List (List Int)) := if GC c then some ((List.range c.1.toNat).map fun f : Nat => nbL c.2.1 (f : Int)) else none
end Zm
/-! what a law's job knows: plainly, and in the store -/
namespace Zm
open PySem PySem.Spec PyProof.Rows L2
open WM (pu bd)
open LO (lf)
abbrev JobT := List (Int × Int) × List PyData × List (Int × Int) × List (Int × List Int) × List (List Int) × List Bool
abbrev jobKvs (p : JobT) : List (Str × PyData) := [(("pieces" : Str), eT (eP2 PyData.int PyData.int) p.1), (("orders" : Str), eT eD p.2.1), (("at" : Str), eK PyData.int PyData.int p.2.2.1), (("into" : Str), eK PyData.int (eL PyData.int) p.2.2.2.1), (("backers" : Str), eL (eL PyData.int) p.2.2.2.2.1), (("good" : Str), eL PyData.bool p.2.2.2.2.2)]
abbrev eJob (p : JobT) : PyData := eK PyData.str eD (jobKvs p)
/-! ### plainly -/
def inT (kvs : List (Int × List Int)) (n : Int) (o : Od) : List (Int × List Int) := match o with
  | .go g => dput kvs g ((dget kvs g).getD [] ++ [n])
  | _ => kvs
def inP (us : List Od) : List (Int × List Int) := (enu us).foldl (fun kvs y => inT kvs y.1 y.2) []
def gdN (b : BoardT) (ws : List Od) (n : Nat) : Bool := match oA ws n with
  | .back f a => helpN b ws n f
  | _ => false
def gdL (b : BoardT) (ws : List Od) (m : Nat) : List Bool := (List.range ws.length).map fun n => decide (n < m) && gdN b ws n
def jobOf (b : BoardT) (ws : List Od) : JobT := (b.2, ws.map oD, (enu b.2).map fun y => (y.2.1, y.1), inP ws, helL b ws ws, gdL b ws ws.length)
open Classical in
noncomputable def jobB (b : BoardT) (os : List PyData) : Option JobT := if h : ∃ ws : List Od, os = ws.map oD ∧ GB b ∧ GO b ws then some (jobOf b (Classical.choose h)) else none
/-! ### in the store -/
def kvL (kvs : List (Int × List Int)) : MO := .dct ((eKs PyData.int (eL PyData.int) kvs).map fun p => (p.1, .d p.2))
def boM (bs : List Bool) : MO := .lst ((bs.map PyData.bool).map .d)
abbrev JM (M0 : Mm) (a : List (Int × Int)) (i : List (Int × List Int)) (rows : List (List Int)) (jd : List (PyData × Val)) (tl : Mm) : Mm := LN (M0 ++ [kvM a, kvL i]) rows (.dct jd :: tl)
section
variable {M0 : Mm} {a : List (Int × Int)} {i : List (Int × List Int)} {rows : List (List Int)} {jd : List (PyData × Val)} {tl : Mm} {k : Nat}
end
section
variable {M : Mm} {j p : Nat}
end

/-! ### fixed whole -/
abbrev jobD (M0 : Mm) (ps : List (Int × Int)) (os : List PyData) (k : Nat) : List (PyData × Val) := [(.str "pieces", .d (eT (eP2 PyData.int PyData.int) ps)), (.str "orders", .d (eT eD os)), (.str "at", .obj M0.length), (.str "into", .obj (M0.length + 1)), (.str "backers", .obj (M0.length + 2 + k))]
abbrev jobD' (M0 : Mm) (ps : List (Int × Int)) (os : List PyData) (k : Nat) : List (PyData × Val) := jobD M0 ps os k ++ [(.str "good", .obj (M0.length + 4 + k))]
end Zm
/-! backs by orders alone -/
namespace Zm
open PySem PySem.Spec PyProof.Rows L2
section
variable (b : BoardT) (ws : List Od)
/-- a foreign piece goes to a piece's field -/
def dist0 (n : Nat) : Bool := (coN ws (fA b n)).any fun X => decide (plA b X ≠ plA b n)
def frmN (m : Nat) : List Nat := (hlN b ws m).filter fun Y => !dist0 b ws Y
def pushN (n j : Nat) : Bool := (n :: (coN ws (fA b n)).filter fun X => decide (X ≠ j)).all fun X => decide (1 + (frmN b ws X).length < 1 + ((frmN b ws j).filter fun Y => decide (plA b Y ≠ plA b n)).length)
/-- what becomes of a back, by orders alone -/
def stdN (n : Nat) (f a : Int) : Bool := helpN b ws n f && !distN b ws n a && (match at? b.2 a with
  | none => true
  | some j => decide (plA b j = plA b n) || (!decide (oA ws j = .go (fA b n)) || !pushN b ws n j))
end
section
variable {b : BoardT} {ws : List Od} {V : Nat → Bool} {n : Nat}
/-- it keeps the rules -/
def Keeps (b : BoardT) (ws : List Od) (V : Nat → Bool) : Prop := ∀ n, n < ws.length → ruleN b ws V n = V n
end
end Zm
namespace Zm
open PySem PySem.Spec PyProof.Rows L2
/-! ### what the piece ahead says; the greatest settlement -/
section
variable (b : BoardT) (ws : List Od)
/-- who stands in the field a go is for -/
def ahN (n : Nat) : Option Nat := match oA ws n with
  | .go g => at? b.2 g
  | _ => none
/-- what stands without any go -/
def stV (n : Nat) : Bool := match oA ws n with
  | .stay => true
  | .go _ => false
  | .back f a => stdN b ws n f a
def mxN (n : Nat) (x : Bool) (X : Nat) : Bool := if ahN b ws n = some X ∧ isGo (oA ws X) = true then x else stV b ws X
/-- a go's win, by what becomes of the piece ahead -/
def wbN (n : Nat) (x : Bool) : Bool := match oA ws n with
  | .go g => winN b ws (mxN b ws n x) n g
  | _ => stV b ws n
/-- what is told at once -/
def tdN (n : Nat) : Option Bool := match oA ws n with
  | .go _ => if wbN b ws n false = wbN b ws n true then some (wbN b ws n false) else none
  | _ => some (stV b ws n)
end
section
variable {b : BoardT} {ws : List Od} {V V' : Nat → Bool} {n : Nat}
/-- one step along the row of the untold -/
def stp (b : BoardT) (ws : List Od) (n : Nat) : Nat := (ahN b ws n).getD 0
def itr (b : BoardT) (ws : List Od) : Nat → Nat → Nat
  | 0, n => n
  | k + 1, n => itr b ws k (stp b ws n)
/-- a row that never meets what is told -/
def Inf (b : BoardT) (ws : List Od) (n : Nat) : Prop := ∀ k, tdN b ws (itr b ws k n) = none
/-- the greatest settlement -/
def gr (b : BoardT) (ws : List Od) (n : Nat) : Prop := ∃ V, Keeps b ws V ∧ V n = true
open Classical in
noncomputable def grN (b : BoardT) (ws : List Od) (n : Nat) : Bool := decide (gr b ws n)
end
end Zm
namespace Zm
open PySem PySem.Spec PyProof.Rows L2
open WM (pu bd)
open LO (lf)
/-! ### the row that a walk of the untold makes -/
section
variable {b : BoardT} {ws : List Od} {V : Nat → Bool} {n : Nat}
def rwN (b : BoardT) (ws : List Od) (n k : Nat) : List Nat := (List.range (k + 1)).map fun i => itr b ws i n
/-- the walk from `n` ends after `k` steps -/
structure WkN (b : BoardT) (ws : List Od) (n k : Nat) : Prop where
  no : ∀ i, i ≤ k → tdN b ws (itr b ws i n) = none
  nd : (rwN b ws n k).Nodup
  en : tdN b ws (itr b ws (k + 1) n) ≠ none ∨ itr b ws (k + 1) n ∈ rwN b ws n k
end
end Zm
namespace Zm
open PySem PySem.Spec PyProof.Rows L2
open WM (pu bd)
open LO (lf)
section
variable {𝔅 : Bas} {μ : Type → Type} [LO μ] {Γ Γx : Cs} {α : Type}
end
/-! ### told readings, shorter -/
section
variable {𝔅 : Bas} {μ : Type → Type} [LO μ] {Γ Γx : Cs} {α τ φ : Type}
theorem JX.ca {m : EM} {f f' : μ α} {sp : α → Sp} (h : JX 𝔅 Γ m f sp) (e : f = f' := by first | with_reducible rfl | (simp only [WM.pu_bd, WM.bd_as, lf_pu, lf_puo]; done) | rfl | (simp only [WM.pu_bd, WM.bd_as, lf_pu, lf_puo]; rfl)) : JX 𝔅 Γ m f' sp := e ▸ h
theorem JT.ca {m : TM} {f f' : μ Bool} (h : JT 𝔅 Γ m f) (e : f = f' := by first | with_reducible rfl | (simp only [WM.pu_bd, WM.bd_as, lf_pu, lf_puo]; done) | rfl | (simp only [WM.pu_bd, WM.bd_as, lf_pu, lf_puo]; rfl)) : JT 𝔅 Γ m f' := e ▸ h
theorem JA.ca {m : AM} {f f' : μ α} {sp : α → List Sp} (h : JA 𝔅 Γ m f sp) (e : f = f' := by first | with_reducible rfl | (simp only [WM.pu_bd, WM.bd_as, lf_pu, lf_puo]; done) | rfl | (simp only [WM.pu_bd, WM.bd_as, lf_pu, lf_puo]; rfl)) : JA 𝔅 Γ m f' sp := e ▸ h
theorem JI.ca {m : AM} {f f' : μ (List τ)} {enc : τ → PyData} (h : JI 𝔅 Γ m f enc) (e : f = f' := by first | with_reducible rfl | (simp only [WM.pu_bd, WM.bd_as, lf_pu, lf_puo]; done) | rfl | (simp only [WM.pu_bd, WM.bd_as, lf_pu, lf_puo]; rfl)) : JI 𝔅 Γ m f' enc := e ▸ h
theorem JS.ca {b : SM} {f f' : μ φ} {K : φ → SO → 𝔅.T → Prop} (h : JS 𝔅 Γ Γx b f K) (e : f = f' := by first | with_reducible rfl | (simp only [WM.pu_bd, WM.bd_as, lf_pu, lf_puo]; done) | rfl | (simp only [WM.pu_bd, WM.bd_as, lf_pu, lf_puo]; rfl)) : JS 𝔅 Γ Γx b f' K := e ▸ h
end
end Zm
namespace Zm
open PySem PySem.Spec PyProof.Rows L2
/-! ### two boards, one beside the other -/
def twR (k : Int) (p : Int × Int) : Int × Int := (p.1 + k, p.2 + k)
def twP (k : Int) (p : Int × Int) : Int × Int := (p.1 + k, p.2)
def twB (b c : BoardT) : BoardT := ((b.1.1 + c.1.1, b.1.2.1 ++ c.1.2.1.map (twR b.1.1), b.1.2.2 ++ c.1.2.2.map (· + b.1.1)), b.2 ++ c.2.map (twP b.1.1))
def twW (b : BoardT) (ws us : List Od) : List Od := ws ++ us.map (ren (· + b.1.1))
section
variable {b c : BoardT} {ws us : List Od}
end
end Zm
/-! sorted of a set of tuples of numbers, of any lengths -/
namespace Zt
open PySem PySem.Spec PyProof.Rows L2 SrtO Srt
def lexF : List Int → List Int → Bool → Bool
  | x :: xs, y :: ys, f => if x = y then lexF xs ys f else decide (x < y)
  | _, _, f => f
section
variable {prog : Program} {w : World} {A : Around} {s : Shared} {E : Value → Shared → Prop}
end
end Zt
namespace L2
open PySem PySem.Spec PyProof.Rows SrtO Srt
/-- which numbers the tuple at a value holds, by the rows of a set -/
def keyAt (L : List (Addr × List Int)) : Value → List Int
  | .ref b => ((L.find? fun p => decide (p.1 = b)).map (·.2)).getD []
  | _ => []
section
variable {P : Program} {w : World} {A : Around} {s : Shared} {E : Value → Shared → Prop} {a : Addr} {L : List (Addr × List Int)} {es : Array (Int × Value)} {ep : Nat} {t : SetTable}
end
end L2
/-! sorted(set(rows)): rows of numbers of any lengths -/
namespace L2
open PySem PySem.Spec PyProof.Rows
section
variable {X : Cx}
/-- sorted of a set of tuples of numbers, none of them empty -/
def rSortedF (K : PySem.W.Frag) (P : Program) (w : World) : List V → Hp → VK → Prop := fun vs H Q => ∃ (a : Addr) (L : List (Addr × List Int)), vs = [V.ref a] ∧ H a = some (SetTO P w a L) ∧ (∀ p ∈ L, SqT K H p.1 (p.2.map V.int)) ∧ (∀ p ∈ L, p.2 ≠ []) ∧
  ∀ (L' : List (Addr × List Int)) (p : Addr), L'.Perm L → (L'.map (·.2)).Nodup → L'.length < 64 → L'.Pairwise (fun q r => HT.lexLt r.2 q.2 = false) → H p = none → Q (.ref p) (upd H p (.lst (L'.map fun q => V.ref q.1)))
end
end L2
namespace Zm
open PySem PySem.Spec PyProof.Rows L2
/-! ### rows of numbers in order -/
def leT (x y : List Int) : Bool := !HT.lexLt y x
def nubT : List (List Int) → List (List Int)
  | [] => []
  | x :: xs => if x ∈ nubT xs then nubT xs else x :: nubT xs
def ssetT (xs : List (List Int)) : List (List Int) := (nubT xs).mergeSort leT
end Zm
namespace Zm
open PySem PySem.Spec PyProof.Rows L2
def tupI (ns : List Int) : PyData := .tuple (ns.map .int)
def allTI : List PyData → Option (List (List Int))
  | [] => some []
  | .tuple ds :: r => match allI ds, allTI r with
    | some ns, some rs => some (ns :: rs)
    | _, _ => none
  | _ :: _ => none
def bNE (rs : List (List Int)) : Bool := decide (rs.length < 64) && rs.all fun r => !r.isEmpty
def vSSetF (vs : List Val) (M : Mm) : Out Val := match vs with
  | [v] => match listD v M with
    | some ds => match allTI ds with
      | some rs => if bNE rs = true then .ok (.d (.list ((ssetT rs).map tupI))) M else .bad
      | none => .bad
    | none => .bad
  | _ => .bad
section
variable {K : PySem.W.Frag} {G : Gh} {H : Hp}
end
section
variable {X : Cx} {W : WX}
end
def ssetTO (a : List (List Int)) : Option (List (List Int)) := if bNE a = true then some (ssetT a) else none
end Zm
/-! min of a list of ints. -/
namespace Zm
open PySem PySem.Spec PyProof.Rows L2
section
variable {X : Cx} {W : WX}
end
/-- the least of some ints -/
def minI : List Int → Option Int
  | [] => none
  | x :: xs => some (xs.foldl (fun a b => if b < a then b else a) x)
section
variable {X : Cx} {W : WX}
def vMinL (vs : List Val) (M : Mm) : Out Val := match vs with
  | [v] => match listD v M with
    | some ds => match intsD ds with
      | some ns => match minI ns with
        | some m => .ok (.d (.int m)) M
        | none => .bad
      | none => .bad
    | none => .bad
  | _ => .bad
end
/-! .. read by the pure layer -/
end Zm
namespace Zm
open PySem PySem.Spec PyProof.Rows L2
/-! ### rings of the untold -/
section
variable {b : BoardT} {ws : List Od} {V V' : Nat → Bool} {n : Nat}
/-- a ring of the untold that starts at its least place -/
structure Rg (b : BoardT) (ws : List Od) (R : List Nat) : Prop where
  ex : ∃ h p, 0 < p ∧ R = (List.range p).map (fun i => itr b ws i h) ∧ h < ws.length ∧ (∀ i, i < p → tdN b ws (itr b ws i h) = none) ∧ itr b ws p h = h ∧ R.Nodup ∧ ∀ i, i < p → h ≤ itr b ws i h
end
end Zm
/-! sorted of a list of tuples of bools -/
namespace Zt
open PySem PySem.Spec PyProof.Rows L2 SrtO Srt
inductive BoolsAre : List Value → List Bool → Prop
  | nil : BoolsAre [] []
  | cons (c : Bool) {vs : List Value} {cs : List Bool} : BoolsAre vs cs → BoolsAre (.bool c :: vs) (c :: cs)
theorem BoolsAre.len : ∀ {vs : List Value} {cs : List Bool}, BoolsAre vs cs → vs.length = cs.length
  | _, _, .nil => rfl
  | _, _, .cons c h => by rw [List.length_cons, List.length_cons, h.len]
def bI (c : Bool) : Int := if c = true then 1 else 0
def bIs (cs : List Bool) : List Int := cs.map bI
section
variable {prog : Program} {w : World} {A : Around} {s : Shared} {E : Value → Shared → Prop}
def IsTB (h : Heap) (cs : List Bool) (a : Addr) : Prop := ∃ o items n, h.get? a = some o ∧ o.cls = .type "tuple" ∧ o.data = .seq items n ∧ BoolsAre items.toList cs
end
end Zt
namespace Zt
open PySem PySem.Spec PyProof.Rows L2 SrtO Srt
end Zt
namespace Zm
open PySem PySem.Spec PyProof.Rows L2
abbrev ltBV (k : V → List Bool) : V → V → Bool := fun x y => HT.lexLt (Zt.bIs (k x)) (Zt.bIs (k y))
def rSortB (K : PySem.W.Frag) : List V → Hp → VK → Prop := fun vs H Q => ∃ (a : Addr) (xs : List V) (k : V → List Bool), vs = [V.ref a] ∧ SqL K H a xs ∧ (∀ x ∈ xs, ∃ t, x = V.ref t ∧ H t = some (.tup ((k x).map V.bl))) ∧ (2 ≤ xs.length → ∀ x ∈ xs, k x ≠ []) ∧
  ∀ ys p, SrtO.Srtd (ltBV k) ys → SrtO.Stb (ltBV k) ys xs → H p = none → Q (.ref p) (upd H p (.lst ys))
section
variable {X : Cx}
end
/-! ### rows of bools in order -/
def leB (x y : List Bool) : Bool := !HT.lexLt (Zt.bIs y) (Zt.bIs x)
def sortB (rs : List (List Bool)) : List (List Bool) := rs.mergeSort leB
end Zm
namespace Zm
open PySem PySem.Spec PyProof.Rows L2
def tupB (cs : List Bool) : PyData := .tuple (cs.map .bool)
def allBo : List PyData → Option (List Bool)
  | [] => some []
  | .bool c :: r => (allBo r).map (c :: ·)
  | _ :: _ => none
def allTB : List PyData → Option (List (List Bool))
  | [] => some []
  | .tuple ds :: r => match allBo ds, allTB r with
    | some ns, some rs => some (ns :: rs)
    | _, _ => none
  | _ :: _ => none
def bNB (rs : List (List Bool)) : Bool := decide (rs.length < 2) || rs.all fun r => !r.isEmpty
def vSortB (vs : List Val) (M : Mm) : Out Val := match vs with
  | [v] => match listD v M with
    | some ds => match allTB ds with
      | some rs => if bNB rs = true then .ok (.d (.list ((sortB rs).map tupB))) M else .bad
      | none => .bad
    | none => .bad
  | _ => .bad
def blOf : V → Bool
  | .bl c => c
  | _ => false
def kB (H : Hp) (v : V) : List Bool := match v with
  | .ref t => match H t with
    | some (.tup vs) => vs.map blOf
    | _ => []
  | _ => []
section
variable {K : PySem.W.Frag} {F : Addr → Prop} {H : Hp}
end
section
variable {X : Cx}
end
/-- what the pure layer reads: rows of told bools -/
def rowsB (xs : List (List (Option Bool))) : Option (List (List Bool)) := xs.mapM fun r => r.mapM id
def sortOB (xs : List (List (Option Bool))) : Option (List (List (Option Bool))) := match rowsB xs with
  | some rs => if bNB rs = true then some ((sortB rs).map (List.map some)) else none
  | none => none
end Zm
namespace Zm
open PySem PySem.Spec PyProof.Rows L2
/-! ### a board that is a part of another one, its places the first -/
structure Loc (b B : BoardT) (ws W : List Od) : Prop where
  gb : GB b
  go : GO b ws
  le : ws.length ≤ W.length
  od : ∀ i, i < ws.length → oA W i = oA ws i
  fd : ∀ i, i < ws.length → fA B i = fA b i
  pl : ∀ i, i < ws.length → plA B i = plA b i
  at_ : ∀ g, 0 ≤ g → g < b.1.1 → at? B.2 g = at? b.2 g
  hl : ∀ n, n < ws.length → hlN B W n = hlN b ws n
  co : ∀ g, 0 ≤ g → g < b.1.1 → coN W g = coN ws g
section
variable {b B : BoardT} {ws W : List Od} {V V' : Nat → Bool} {n : Nat}
variable (L : Loc b B ws W)
include L
end
/-! the first of two boards beside one another -/
section
variable {b c : BoardT} {ws W : List Od} {n : Nat}
end
end Zm
namespace Zm
open PySem PySem.Spec PyProof.Rows L2
/-! ### sorted of rows of bools, read as bools -/
def sortBB (rs : List (List Bool)) : Option (List (List Bool)) := if bNB rs = true then some (sortB rs) else none
end Zm
namespace Zm
open PySem PySem.Spec PyProof.Rows L2
/-! ### shorter words for the printed walk -/
theorem pgN (i : Nat) {X : Cx} {pos : Pos} {x : Str} (hN : X.N.Nodup) (hi : X.N[i]? = some x := by rfl) (hx : L2.Loc X.env.scope x := by first | exact .inl rfl | exact .inr rfl) (hf : X.fn x = true ∨ X.env.scope.names.lookup x = some .local := by first | exact .inl rfl | exact .inr rfl | assumption) : PG X (.Name x pos) (gName i) := pg_name hN hi hx hf
theorem sv (i : Nat) {X : Cx} {W : WX} {x : Str} {pos : Pos} (hN : X.N[i]? = some x := by rfl) (hv : Vis X.env.scope x := by first | exact Or.inl rfl | exact Or.inr (Or.inl rfl) | exact Or.inr (Or.inr rfl)) (hd : (x == ("__debug__" : Str)) = false := by decide) (hc : (x == ("__classdict__" : Str)) = false := by decide) : SE X W (.Name x pos) (mVar i) := se_var (pv i hN hv hd hc)
theorem sav (i : Nat) {X : Cx} {W : WX} {x : Str} {pos : Pos} {es : List Expr} {ms : AM} (hr : SA X W es ms) (hN : X.N[i]? = some x := by rfl) (hv : Vis X.env.scope x := by first | exact Or.inl rfl | exact Or.inr (Or.inl rfl) | exact Or.inr (Or.inr rfl)) (hd : (x == ("__debug__" : Str)) = false := by decide) (hc : (x == ("__classdict__" : Str)) = false := by decide) (hs : starEach (.Name x pos :: es) X.env = (false, eval (.Name x pos) X.env) :: starEach es X.env := by rfl) : SA X W (.Name x pos :: es) (mCons (mVar i) ms) := sa_cons (se_var (pv i hN hv hd hc)) hr hs
theorem sgN (i : Nat) {X : Cx} {own : List Nat} {pos : Pos} {x : Str} (hN : X.N.Nodup) (ho : i ∈ own := by decide) (hi : X.N[i]? = some x := by rfl) (hx : L2.Loc X.env.scope x := by first | exact .inl rfl | exact .inr rfl) (hf : X.fn x = true ∨ X.env.scope.names.lookup x = some .local := by first | exact .inl rfl | exact .inr rfl | assumption) : SGo X own (.Name x pos) (gN i) := sgo_name ho (pg_name hN hi hx hf)
theorem defY {P : Program} {w : World} {K : PySem.W.Frag} {mg : Str → Option Value} {base : Heap} {x : Str} {st : Stmt} {N ps : List Str} {k : Nat} {b : SM} (D : DefAt K mg x st) (S : FnScope N ps (defScope st)) (hps : ps.length ≤ N.length)
    (hbody : ∀ (f : Addr) (cdv : Value) (A : Around) (outer : List Env) (s : Shared) (H : Hp) (E : XK), Room k (A.deeper (envOfC x (defScope st) s.heap.objs.size f cdv)) → (CxZ P w K mg base N x (defScope st) f cdv A outer s H E).A.guards = some [] → Takes (CxZ P w K mg base N x (defScope st) f cdv A outer s H E) (fun c d _ H' => E c d H') → PassesOwn (model (CxZ P w K mg base N x (defScope st) f cdv A outer s H E).prog (CxZ P w K mg base N x (defScope st) f cdv A outer s H E).w) (CxZ P w K mg base N x (defScope st) f cdv A outer s H E).A (CxZ P w K mg base N x (defScope st) f cdv A outer s H E).env (CxZ P w K mg base N x (defScope st) f cdv A outer s H E).xe →
      SSs (CxZ P w K mg base N x (defScope st) f cdv A outer s H E) (fun c d _ H' => E c d H') (defBody st) b) : DefZ P w K mg base (k + 1) x st ps (trim (body N.length b)) :=
  defZ D S hps fun f cdv A outer s H E hr hG => hbody f cdv A outer s H E hr hG (takes_of rfl rfl rfl rfl) (passes_of rfl)
end Zm
namespace L2
open PySem PySem.Spec PyProof.Rows
section
variable {X : Cx}
/-- the ints a, a - 1 .. b + 1 -/
def rgDV (a b : Int) : List V := (List.range (a - b).toNat).map fun i => V.int (a + (i : Nat) * (-1))
def tTupD (ta : TA) : TE := fun σ H Q => ta σ H fun vs H1 => ∃ (i j : Int), vs = [.int i, .int j, .int (-1)] ∧ (-1000000 ≤ i ∧ i ≤ 1000000 ∧ -1000000 ≤ j ∧ j ≤ 1000000) ∧ ∀ q, H1 q = none → Q (.ref q) (upd H1 q (.tup (rgDV i j)))
end
end L2
namespace Zm
open PySem PySem.Spec PyProof.Rows L2
section
variable {X : Cx} {W : WX}
def mTR1 (m : EM) : EM := fun s M => (m s M).bind fun v M1 => match v with
  | .d (.int j) => if okR j then .ok (.d (.tuple (ranD 0 j))) M1 else .bad
  | _ => .bad
/-- a, a - 1 .. b + 1 -/
def rgDD (a b : Int) : List PyData := (List.range (a - b).toNat).map fun i => .int (a + (i : Nat) * (-1))
def dn3 (vs : List Val) : Option (Int × Int) := match vs with
  | [.d (.int i), .d (.int j), .d (.int k)] => if decide (k = -1) && (decide (-1000000 ≤ i) && decide (i ≤ 1000000) && decide (-1000000 ≤ j) && decide (j ≤ 1000000)) then some (i, j) else none
  | _ => none
def vTRD (vs : List Val) (M : Mm) : Out Val := match dn3 vs with
  | some (i, j) => .ok (.d (.tuple (rgDD i j))) M
  | none => .bad
end
/-! read purely -/
section
variable {𝔅 : Bas} {μ : Type → Type} [LO μ] {Γ : Cs} {α β γ : Type}
open WM (pu bd)
open LO (lf)
/-- a, a - 1 .. b + 1 -/
def ranDn (a b : Int) : List Int := (List.range (a - b).toNat).map fun i => a + (i : Nat) * (-1)
def rgDO (a b c : Int) : Option (List Int) := if decide (c = -1) && (decide (-1000000 ≤ a) && decide (a ≤ 1000000) && decide (-1000000 ≤ b) && decide (b ≤ 1000000)) then some (ranDn a b) else none
end
end Zm
namespace Zm
open PySem PySem.Spec PyProof.Rows L2
/-! ### wheels: all go, each into the field of the next -/
def itN (nx : Nat → Nat) : Nat → Nat → Nat
  | 0, n => n
  | k + 1, n => itN nx k (nx n)
structure Whl (b : BoardT) (ws : List Od) (nx : Nat → Nat) : Prop where
  hb : GB b
  ho : GO b ws
  lt : ∀ n, n < ws.length → nx n < ws.length
  go : ∀ n, n < ws.length → oA ws n = .go (fA b (nx n))
  inj : ∀ n m, n < ws.length → m < ws.length → nx n = nx m → n = m
  two : ∀ n, n < ws.length → nx (nx n) ≠ n
section
variable {b : BoardT} {ws : List Od} {nx : Nat → Nat} {n : Nat}
/-- a ring of a wheel, from its least place on -/
structure RgX (nx : Nat → Nat) (l : Nat) (R : List Nat) : Prop where
  ex : ∃ h p, 0 < p ∧ R = (List.range p).map (fun i => itN nx i h) ∧ h < l ∧ itN nx p h = h ∧ R.Nodup ∧ ∀ i, i < p → h ≤ itN nx i h
/-- so many rings -/
structure WhK (b : BoardT) (ws : List Od) (G : List (List Nat)) : Prop where
  ex : ∃ nx, Whl b ws nx ∧ (∀ R ∈ G, RgX nx ws.length R) ∧ (∀ n, n < ws.length → ∃ R ∈ G, n ∈ R) ∧ G.Nodup
end
section
variable {b c : BoardT} {ws us : List Od}
def nx2 (l : Nat) (nx ny : Nat → Nat) (n : Nat) : Nat := if n < l then nx n else ny (n - l) + l
def shR (l : Nat) (R : List Nat) : List Nat := R.map (· + l)
end
/-! one ring alone -/
section
variable {b : BoardT} {ws : List Od}
def nxU (s n : Nat) : Nat := if n + 1 = s then 0 else n + 1
def nxD (s n : Nat) : Nat := if n = 0 then s - 1 else n - 1
def upR (s : Nat) : List Nat := List.range s
def dnR (s : Nat) : List Nat := (List.range s).map fun i => if i = 0 then 0 else s - i
end
end Zm
namespace Zm
open PySem PySem.Spec PyProof.Rows L2
/-! ### one winner into a field; who is pushed out -/
section
variable {b : BoardT} {ws : List Od} {V : Nat → Bool} {n : Nat}
end
end Zm
/-! A statement that is never reached: a raise that the law shows not to come. -/
namespace Zm
open PySem PySem.Spec PyProof.Rows L2
open WM (pu bd)
open LO (lf)
def mBad : EM := fun _ _ => .bad
section
variable {𝔅 : Bas} {μ : Type → Type} [LO μ] {α : Type} {Γ : Cs}
end
end Zm
/-! zip of a list with a tuple, either way round, walked. -/
namespace Zm
open PySem PySem.Spec PyProof.Rows L2
open WM (pu bd)
open LO (lf)
/-- true: a list, false: a tuple -/
def SqQ (κ : Bool) (K : PySem.W.Frag) (H : Hp) (a : Addr) (xs : List V) : Prop := match κ with
  | true => SqL K H a xs
  | false => SqT K H a xs
def ItQ (κ : Bool) (h : Heap) (it a : Addr) (i : Nat) : Prop := match κ with
  | true => h.IsListIter it a i
  | false => h.IsTupleIter it a i
def HdQ (κ : Bool) (h : Heap) (a : Addr) (its : Array Value) : Prop := match κ with
  | true => h.IsList a its
  | false => h.IsTuple a its
def obQ (κ : Bool) (a : Addr) : Obj := match κ with
  | true => { cls := .type "list_iterator", data := .fields #[.ref a, .int 0 0] }
  | false => { cls := .type "tuple_iterator", data := .fields #[.ref a, .int 0 0] }
theorem ItQ.at {κ : Bool} {h h' : Heap} {it a : Addr} {i : Nat} (x : ItQ κ h it a i) (k : ∀ o, h.get? it = some o → h'.get? it = some o) : ItQ κ h' it a i := by
  cases κ
  · exact Heap.IsTupleIter.at x k
  · exact Heap.IsListIter.at x k
/-- two sequences, the items in new pairs -/
def ItzQ (κ κ' : Bool) (K : PySem.W.Frag) (a b : Addr) : It :=
  ⟨fun i H => ∃ (xs ys : List V) (x y : V), SqQ κ K H a xs ∧ SqQ κ' K H b ys ∧ xs[i]? = some x ∧ ys[i]? = some y,
    fun i H v H' => ∃ T x y, v = .ref T ∧ H T = none ∧ H' = upd H T (.tup [x, y]) ∧ (∀ xs, SqQ κ K H a xs → xs[i]? = some x) ∧ ∀ ys, SqQ κ' K H b ys → ys[i]? = some y,
    fun i H => ∃ xs ys : List V, SqQ κ K H a xs ∧ SqQ κ' K H b ys ∧ i = min xs.length ys.length⟩
def iZipQ (K : PySem.W.Frag) (ta : TA) : TI := fun σ H R => ta σ H fun vs H1 => ∃ a b xs ys κ κ', vs = [.ref a, .ref b] ∧ SqQ κ K H1 a xs ∧ SqQ κ' K H1 b ys ∧ R (ItzQ κ κ' K a b) H1
end Zm
/-! zip of two sequences of any kinds, as a plain function. -/
namespace Zm
open PySem PySem.Spec PyProof.Rows L2
open WM (pu bd)
open LO (lf)
def sqK : PyData → Option (Bool × List PyData)
  | .list ds => some (true, ds)
  | .tuple ds => some (false, ds)
  | _ => none
def zipKQ (vs : List Val) (M : Mm) : Out (List Val) := match vs with
  | [.d x, .d y] => match sqK x, sqK y with
    | some p, some q => .ok ((p.2.zip q.2).map fun p => .d (.tuple [p.1, p.2])) M
    | _, _ => .bad
  | _ => .bad
def mZipQ (ms : AM) : AM := fun s M => (ms s M).bind zipKQ
section
variable {X : Cx} {W : WX}
end
section
variable {𝔅 : Bas} {μ : Type → Type} [LO μ] {α β γ δ τ ρ σ φ ψ κ : Type} {Γ Γx : Cs}
end
end Zm
/-! A def that hands out a list, a dict of its own; its caller writes on it. -/
namespace Zm
open PySem PySem.Spec PyProof.Rows L2
open WM (pu bd)
open LO (lf)
section
variable {𝔅 : Bas} {μ : Type → Type} [LO μ] {α γ δ τ ρ σ φ : Type} {Γ Γx : Cs}
/-- what is called hands out a thing of its own -/
def FnO (den : Den) (f : α → Option ρ) (xs : α → List PyData) (s : ρ → Sp) : Prop := ∀ a r M, f a = some r → M.all (MO.below M.length) = true →
  ∃ R i, den ((xs a).map .d) M = .ok (.obj i) (M ++ R) ∧ M.length ≤ i ∧ SpOk (M ++ R) (s r) (some (.obj i)) ∧ (M ++ R).all (MO.below (M ++ R).length) = true
def KtO (𝔅 : Bas) (s : ρ → Sp) (a : ρ) (o : SO) (β' : 𝔅.T) : Prop := ∃ i R, o = .rt (.obj i) (𝔅.mem β' ++ R) ∧ (𝔅.mem β').length ≤ i ∧ SpOk (𝔅.mem β' ++ R) (s a) (some (.obj i)) ∧ (𝔅.mem β' ++ R).all (MO.below (𝔅.mem β' ++ R).length) = true
end
end Zm
/-! A thing that a def hands out, fixed at once: for callers that only read it. -/
namespace Zm
open PySem PySem.Spec PyProof.Rows L2
open WM (pu bd)
open LO (lf)
def fz1' (den : Den) : Den := fun vs M => match den vs M with
  | .ok (.obj j) M' => match (frz1 j M')[j]? with
    | some (.frz x) => .ok (.d x) (frz1 j M')
    | _ => .bad
  | o => o
def fz1 (den : Den) : Den := trim (fz1' den)
end Zm
/-! How often a number stands in a tuple of numbers and None. -/
namespace Zm
open PySem PySem.Spec PyProof.Rows L2
open WM (pu bd)
open LO (lf)
def vOI : Option Int → V
  | some i => .int i
  | none => .non
def eqO_ (k : Int) : Value → Bool
  | .int n _ => n == k
  | _ => false
section
variable {X : Cx}
def rCntO (K : PySem.W.Frag) : V → List V → Hp → VK → Prop := fun x xs H Q => ∃ (p : Addr) (os : List (Option Int)) (k : Int), x = .ref p ∧ xs = [.int k] ∧ SqT K H p (os.map vOI) ∧ Q (.int (os.count (some k) : Nat)) H
def oisP : List PyData → Option (List (Option Int))
  | [] => some []
  | .int i :: xs => (oisP xs).map (some i :: ·)
  | .none :: xs => (oisP xs).map (none :: ·)
  | _ => none
def vCntT : MF := fun v vs M => match v, vs with
  | .d (.tuple ds), [.d (.int k)] => match oisP ds with
    | some os => .ok (.d (.int (os.count (some k) : Nat))) M
    | none => .bad
  | _, _ => .bad
end
end Zm
/-! zip of three sequences of any kinds, walked. -/
namespace Zm
open PySem PySem.Spec PyProof.Rows L2
open WM (pu bd)
open LO (lf)
def ItzQ3 (κ κ' κ'' : Bool) (K : PySem.W.Frag) (a b c : Addr) : It :=
  ⟨fun i H => ∃ (xs ys zs : List V) (x y z : V), SqQ κ K H a xs ∧ SqQ κ' K H b ys ∧ SqQ κ'' K H c zs ∧ xs[i]? = some x ∧ ys[i]? = some y ∧ zs[i]? = some z,
    fun i H v H' => ∃ T x y z, v = .ref T ∧ H T = none ∧ H' = upd H T (.tup [x, y, z]) ∧ (∀ xs, SqQ κ K H a xs → xs[i]? = some x) ∧ (∀ ys, SqQ κ' K H b ys → ys[i]? = some y) ∧ ∀ zs, SqQ κ'' K H c zs → zs[i]? = some z,
    fun i H => ∃ xs ys zs : List V, SqQ κ K H a xs ∧ SqQ κ' K H b ys ∧ SqQ κ'' K H c zs ∧ i = min (min xs.length ys.length) zs.length⟩
def iZipQ3 (K : PySem.W.Frag) (ta : TA) : TI := fun σ H R => ta σ H fun vs H1 => ∃ a b c xs ys zs κ κ' κ'', vs = [.ref a, .ref b, .ref c] ∧ SqQ κ K H1 a xs ∧ SqQ κ' K H1 b ys ∧ SqQ κ'' K H1 c zs ∧ R (ItzQ3 κ κ' κ'' K a b c) H1
end Zm
/-! zip of three sequences, as a plain function. -/
namespace Zm
open PySem PySem.Spec PyProof.Rows L2
open WM (pu bd)
open LO (lf)
def zip3 {α β γ : Type} (xs : List α) (ys : List β) (zs : List γ) : List (α × β × γ) := xs.zip (ys.zip zs)
def zipK3 (vs : List Val) (M : Mm) : Out (List Val) := match vs with
  | [.d x, .d y, .d z] => match sqK x, sqK y, sqK z with
    | some p, some q, some r => .ok ((zip3 p.2 q.2 r.2).map fun t => .d (.tuple [t.1, t.2.1, t.2.2])) M
    | _, _, _ => .bad
  | _ => .bad
def mZip3 (ms : AM) : AM := fun s M => (ms s M).bind zipK3
section
variable {X : Cx} {W : WX}
end
section
variable {𝔅 : Bas} {μ : Type → Type} [LO μ] {α β γ δ τ ρ σ φ ψ κ : Type} {Γ Γx : Cs}
end
end Zm
namespace Zm
open PySem PySem.Spec PyProof.Rows L2
open WM (pu bd)
open LO (lf)
section
variable {𝔅 : Bas} {μ : Type → Type} [LO μ] {α γ δ τ ρ σ φ ψ κ : Type} {Γ Γx : Cs}
/-- names of what an expression that writes on an own list comes to -/
theorem js_asgT2 {is : List Nat} {m : EM} {g : GM} {f : μ α} {x : α → PyData} {Γ' Γ1 : α → Cs} (h : JX2 𝔅 Γ m f (fun a => .v (x a)) Γ') (hg : ∀ a, JG (Γ' a) g is (x a) (Γ1 a)) (xo : XO μ Γ Γx) : JS 𝔅 Γ Γx (sAsg m g) f (Kn 𝔅 Γ1) :=
  ⟨fun Q L β M r hL S => by
    rcases jx2_top h xo r hL S with ⟨a, β', w, M', L0, q, e, e1, e2, S'⟩ | ⟨e, M', β', L', q, em, e1, e2, S2⟩
    · have s : some w = some (Val.d (x a)) := S'.ok (.v (x a), some w) (by simp)
      cases s
      obtain ⟨L', g1, c1, S1, _, _⟩ := (hg a).run L0 [] _ M' e2 (by rw [List.append_nil]; exact S'.left)
      rw [List.append_nil] at S1
      exact .inl ⟨a, β', q, L', M', by show (m L.sl M).asg L.sl g = _; rw [e, ← e1]; show (match g (.d (x a)) L0.sl M' with | some (s', M') => SO.nx s' M' | none => .bad) = _; rw [g1], c1, S1⟩
    · exact .inr ⟨e, L', M', β', q, by show (m L.sl M).asg L.sl g = _; rw [em, e1]; rfl, e2, S2⟩⟩
end
end Zm
/-! len(d) and list(d) of any dict with int keys, at a place or by value. -/
namespace Zm
open PySem PySem.Spec PyProof.Rows L2
section
variable {X : Cx}
theorem call_lenR : CallR X (.builtin "len") (fun xs H Q => ∃ a kvs, xs = [V.ref a] ∧ Rd H a (.dK kvs) ∧ Q (.int kvs.length) H) := by
  intro pins s σ H xs us Q I r h
  obtain ⟨a, kvs, rfl, ha, q⟩ := h
  obtain ⟨u, rfl, ru⟩ := vals1 r
  cases ru
  exact d_len I ha fun t s' I' => ⟨.int kvs.length, H, I', ⟨t, rfl⟩, q⟩
def vLenK (vs : List Val) (M : Mm) : Out Val := match vs with
  | [v] => match dctV v M with
    | some kvs => .ok (.d (.int kvs.length)) M
    | none => .bad
  | _ => .bad
theorem cz_lenKc : CallZ X (fun xs H Q => ∃ a kvs, xs = [V.ref a] ∧ Rd H a (.dK kvs) ∧ Q (.int kvs.length) H) vLenK := by
  intro W G M σ H Q xs vs S r p
  unfold vLenK at p
  split at p
  · rename_i v
    cases r with
    | @cons x _ _ _ r1 r2 =>
      cases r2
      split at p
      · rename_i kvs hd
        obtain ⟨a, ys, rfl, h1, h2⟩ := dctV_ok S r1 hd
        refine ⟨a, ys, rfl, h1, ?_⟩
        have := p G H (.int kvs.length) .refl S (RV.int _)
        rwa [← Paired.len h2] at this
      · exact p.elim
  · exact p.elim
def vKeysI (vs : List Val) (M : Mm) : Out Val := match vs with
  | [v] => match dctV v M with
    | some kvs => match intsD (kvs.map fun p => p.1) with
      | some ks => .ok (.d (.list (ks.map .int))) M
      | none => .bad
    | none => .bad
  | _ => .bad
theorem cz_keysIc : CallZ X (fun xs H Q => ∃ (a : Addr) (kvs : List (Key × V)), xs = [.ref a] ∧ Rd H a (.dK kvs) ∧ ∀ p, H p = none → Q (.ref p) (upd H p (.lst (kvs.map fun kv => kV kv.1)))) vKeysI := by
  intro W G M σ H Q xs vs S r p
  unfold vKeysI at p
  split at p
  · rename_i v
    cases r with
    | @cons x _ _ _ r1 r2 =>
      cases r2
      split at p
      · rename_i kvs hd
        obtain ⟨a, ys, rfl, h1, h2⟩ := dctV_ok S r1 hd
        split at p
        · rename_i ks hk
          refine ⟨a, ys, rfl, h1, fun q hq => ?_⟩
          have e : (ys.map fun kv => kV kv.1) = ks.map V.int := by
            have := congrArg (List.map kV) (keys_in h2 (intsD_ok hk))
            rw [List.map_map, List.map_map] at this
            exact this
          rw [e]
          obtain ⟨S2, e2⟩ := S.layF (o := .lst (ks.map V.int)) hq
          exact p _ _ _ e2 S2 (RV.lst (.inl rfl) upd_same (rvs_ints _))
        · exact p.elim
      · exact p.elim
  · exact p.elim
end
theorem cz_lenK {κ α : Type} {ek : κ → PyData} {ev : α → PyData} (a : List (κ × α)) (v : Val) (M : Mm) (r : RdAs v M (eK ek ev a)) : vLenK [v] M = .ok (.d (.int (a.length : Int))) M := by
  show (match dctV v M with
    | some kvs => Out.ok (Val.d (.int kvs.length)) M
    | none => .bad) = _
  rw [rd_dctV r]
  dsimp only
  rw [List.length_map]
  unfold eKs
  rw [List.length_map]
theorem cz_keysI {α : Type} {ev : α → PyData} (a : List (Int × α)) (v : Val) (M : Mm) (r : RdAs v M (eK PyData.int ev a)) : vKeysI [v] M = .ok (.d (eL PyData.int (a.map (·.1)))) M := by
  show (match dctV v M with
    | some kvs => match intsD (kvs.map fun (p : PyData × Val) => p.1) with
      | some ks => Out.ok (Val.d (.list (ks.map .int))) M
      | none => .bad
    | none => .bad) = _
  rw [rd_dctV r]
  dsimp only
  have hk : (((eKs PyData.int ev a).map fun p => (p.1, Val.d p.2)).map fun p => p.1) = (a.map (·.1)).map PyData.int := by
    unfold eKs
    rw [List.map_map, List.map_map, List.map_map]
    rfl
  rw [hk, intsD_map]
end Zm
/-! The jar with a count that is multiplied: drawing with a budget. -/
namespace Zm
open PySem PySem.Spec PyProof.Rows L2
open WM (pu bd)
open LO (lf)
variable {α β γ δ τ ρ σ φ ψ κ : Type}
/-- whatever is drawn, so many times at the most -/
def Dn (α : Type) : Type := Nat → (α → Nat → Prop) → Prop
instance : WM Dn where
  pu a := fun b Q => Q a b
  bd x f := fun b Q => x b fun a b' => f a b' Q
  run x b Q := x b fun a b' => Q (.ok a) b'
  run_pu := id
  run_bd := id
  pu_bd := rfl
  bd_as := rfl
instance : LO Dn where
  lf x := fun b Q => ∃ a, x = some a ∧ Q a b
  run_lf := id
  lf_some := fun {_ a} => by
    funext b Q
    exact propext ⟨fun ⟨b, h, q⟩ => by cases h; exact q, fun q => ⟨a, rfl, q⟩⟩
instance : NE Dn where
  ne := id
instance : WH Dn where
  wh F := fun b Q => ∃ n, F n b Q
  run_wh := id
structure DeckN extends Deck where
  bud : T → Nat
def FnN (D : DeckN) (j : Nat) (den : Den) (f : α → Dn ρ) (xs : α → List PyData) (y : ρ → PyData) : Prop :=
  ∀ a Q q R, f a (D.bud q) Q → (D.m0 q ++ R).all (MO.below (D.m0 q ++ R).length) = true → ∃ r q', Q r (D.bud q') ∧ den (.obj j :: (xs a).map .d) (D.m0 q ++ R) = .ok (.d (y r)) (D.m0 q' ++ R)
def DeckN.B (D : DeckN) (R0 : Mm) (h : ∀ q, (D.m0 q ++ R0).all (MO.below (D.n + R0.length)) = true) : Bas := { D.toDeck.B R0 h with bud := D.bud }
theorem jx_callN {Γ : Cs} {D : DeckN} {R0 : Mm} {h0} {j n : Nat} {ms : AM} {f : Dn α} {xs : γ → List PyData} {den : Den} {g : γ → Dn ρ} {y : ρ → PyData} (c : α → γ) (F : FnN D j den g xs y) (h : JA (D.B R0 h0) Γ ms f fun a => .o j :: (xs (c a)).map .v) (hn : ∀ a, (xs a).length + 1 = n := by intro _; rfl) :
    JX (D.B R0 h0) Γ (mCall n den ms) (bd f fun a => g (c a)) fun r => .v (y r) :=
  ⟨fun Q L P β M r hL S => WpE.bind ((h.run _ L P β M (WM.run_bd r) hL S).mono (fun vs M1 ⟨a, β1, q1, hl, S1⟩ => by
    cases vs with
    | nil => cases hl
    | cons v vs =>
      rw [List.length_cons, List.length_cons, List.length_map] at hl
      rw [zs_cons] at S1
      have hl : vs.length = (xs (c a)).length := by omega
      have s : some v = some (Val.obj j) := S1.ok (.o j, some v) (by simp)
      cases s
      have e := sat_ds (P := P ++ [(.o j, some (.obj j))]) hl (by rw [List.append_assoc]; exact S1 : Sat (L ++ (P ++ [(Sp.o j, some (Val.obj j))] ++ zs ((xs (c a)).map .v) vs)) _ _)
      obtain ⟨R, rfl⟩ := S1.pre
      obtain ⟨r', q', h1, h2⟩ := F (c a) _ β1 (R0 ++ R) q1 (by rw [← List.append_assoc]; exact S1.cl)
      rw [if_pos (by rw [List.length_cons, hl, hn]), e]
      have h2 : den (.obj j :: (xs (c a)).map .d) ((D.B R0 h0).mem β1 ++ R) = .ok (.d (y r')) ((D.B R0 h0).mem q' ++ R) := by
        show den _ (D.m0 β1 ++ R0 ++ R) = .ok _ (D.m0 q' ++ R0 ++ R)
        rw [List.append_assoc, List.append_assoc]
        exact h2
      rw [h2]
      exact ⟨r', q', h1, app1 (Sat.baseB (𝔅 := D.B R0 h0) (sat_left S1) |>.push rfl rfl)⟩) fun _ _ h => h)⟩
theorem fnN_of {Γx : Cs} {D : DeckN} {j n : Nat} {b : SM} {f : α → Dn ρ} {xs : α → List PyData} {y : ρ → PyData} (Γ0 : α → Cs) (h : ∀ a R0 h0, JS (μ := Dn) (D.B R0 h0) (Γ0 a) Γx b (f a) (Kr _ y))
    (hΓ : ∀ a, Γ0 a = .o j :: ((xs a).map .v ++ List.replicate (n - ((xs a).length + 1)) .n) := by intro _; rfl) : FnN D j (trim (body n b)) f xs y := by
  intro a Q q R hf hM
  have hR := hM
  rw [List.all_append, Bool.and_eq_true] at hR
  have h0 : ∀ q', (D.m0 q' ++ R).all (MO.below (D.n + R.length)) = true := fun q' => by
    rw [List.all_append, Bool.and_eq_true]
    refine ⟨List.all_eq_true.mpr fun x hx => below_mono (by omega) (List.all_eq_true.mp (D.cl q') x hx), ?_⟩
    rw [List.length_append, D.len] at hR
    exact hR.2
  obtain ⟨L, e1, e2, S⟩ := sat_start (B := D.m0 q ++ R) (M := D.m0 q ++ R) (Γ0 := Γ0 a) (sl := slots0 n (.obj j :: (xs a).map Val.d)) (by rw [hΓ]; unfold slots0; simp) (fun i s w h1 h2 => by
    rw [hΓ] at h1
    unfold slots0 at h2
    rw [List.length_cons, List.length_map, List.map_cons, List.cons_append] at h2
    cases i with
    | zero => cases h1; cases h2; exact ⟨rfl, rfl⟩
    | succ i => exact start_vs i s w h1 h2) ⟨[], by simp⟩ hM
  rcases (h a R h0).run (fun x b => match x with | .ok r' => Q r' b | .er _ => False) L q (D.m0 q ++ R) hf e2 S with ⟨r', β', q', k⟩ | ⟨e, _, _, _, ⟨_, q'⟩, _⟩
  · obtain ⟨R', ho⟩ := out_kr k
    refine ⟨r', β', q', z_trimc (M1 := D.m0 β' ++ R) (R := R') ?_ (by rw [List.length_append, List.length_append]; exact congrArg (· + R.length) ((D.len β').trans (D.len q).symm)) ?_⟩
    · rw [z_body, ← e1, ho]
      rfl
    · rw [List.length_append, show (D.m0 q).length = D.n from D.len q]
      exact h0 β'
  · exact q'.elim
theorem FnN.weaken {D : DeckN} {j : Nat} {den : Den} {f f' : α → Dn ρ} {xs : α → List PyData} {y : ρ → PyData} (h : FnN D j den f xs y) (w : ∀ a b Q, f' a b Q → f a b Q) : FnN D j den f' xs y :=
  fun a Q q R hf hM => h a Q q R (w a _ Q hf) hM
/-! ### the jar -/
structure Jq where
  far : List Int
  cells : List Int
  st : Int
  n : Nat
  pos : ∀ c ∈ far, 0 ≤ c
  len : far.length ≤ 63
  cl : 0 < cells.length
  cl2 : cells.length ≤ 64
def Jq.mem (q : Jq) (rest : Mm) : Mm := .lst (q.far.map fun i => .d (.int i)) :: .lst (q.cells.map fun i => .d (.int i)) :: .dct [(.str "far", .obj 0), (.str "cells", .obj 1), (.str "seal", .d (.int q.st)), (.str "count", .d (.int q.n))] :: rest
section
variable {q : Jq} {rest : Mm}
theorem jq_far : vIxX (.obj 2) (.d (.str "far")) (q.mem rest) = .ok (.obj 0) (q.mem rest) := rfl
theorem jq_cells : vIxX (.obj 2) (.d (.str "cells")) (q.mem rest) = .ok (.obj 1) (q.mem rest) := rfl
theorem jq_st : vIxX (.obj 2) (.d (.str "seal")) (q.mem rest) = .ok (.d (.int q.st)) (q.mem rest) := rfl
theorem jq_n : vIxX (.obj 2) (.d (.str "count")) (q.mem rest) = .ok (.d (.int q.n)) (q.mem rest) := rfl
theorem jq_rd0 : rd (.obj 0) (q.mem rest) = .obj 0 := rfl
theorem jq_rd1 : rd (.obj 1) (q.mem rest) = .obj 1 := rfl
theorem jq_rd2 : rd (.obj 2) (q.mem rest) = .obj 2 := rfl
theorem jq_0 : (q.mem rest)[0]? = some (.lst ((q.far.map .int).map .d)) := by rw [← dmap]; rfl
theorem jq_1 : (q.mem rest)[1]? = some (.lst ((q.cells.map .int).map .d)) := by rw [← dmap]; rfl
theorem jq_ty0 : tyOk "list" (.obj 0) (q.mem rest) = true := rfl
theorem jq_ne : vNe (.obj 0) (.d (.list [])) (q.mem rest) = .ok (.d (.bool (!q.far.isEmpty))) (q.mem rest) := by
  have h : datum (.obj 0) (q.mem rest) = some (.list (q.far.map .int)) := by
    show Option.map PyData.list (seqD (.obj 0) (q.mem rest)) = _
    rw [seqD_obj (i := 0) (ds := q.far.map .int) jq_0]
    rfl
  have e : eqOut true (.obj 0) (.d (.list [])) (q.mem rest) = some (!q.far.isEmpty) := by
    show (match datum (.obj 0) (q.mem rest), datum (.d (.list [])) (q.mem rest) with
      | some a, some b => if SeqAt.shaped a && SeqAt.shaped b then some (xor true (PyData.eqv a b)) else none
      | _, _ => none) = _
    rw [h]
    show (if SeqAt.shaped (.list (q.far.map .int)) && SeqAt.shaped (.list []) then some (xor true (PyData.eqv (.list (q.far.map .int)) (.list []))) else none) = _
    rw [shaped_ints]
    rw [if_pos (by decide +kernel), Bool.true_xor]
    cases q.far <;> rfl
  unfold vNe
  rw [e]
theorem jq_len : vLen [.obj 1] (q.mem rest) = .ok (.d (.int q.cells.length)) (q.mem rest) := by
  show (match lenOf (.obj 1) (q.mem rest) with
    | some n => Out.ok (Val.d (.int n)) (q.mem rest)
    | none => .bad) = _
  have : lenOf (.obj 1) (q.mem rest) = some q.cells.length := by
    show some (List.length (q.cells.map fun i => Val.d (.int i))) = _
    rw [List.length_map]
  rw [this]
theorem jq_ix {i : Int} (h0 : 0 ≤ i) (h1 : i < q.cells.length) : ∃ c, vIxX (.obj 1) (.d (.int i)) (q.mem rest) = .ok (.d (.int c)) (q.mem rest) := by
  obtain ⟨n, rfl⟩ := Int.eq_ofNat_of_zero_le h0
  have hn : n < q.cells.length := by omega
  refine ⟨q.cells[n], ?_⟩
  have := o2_ixL (e := PyData.int) q.cells (n : Int) q.cells[n] (by rw [ixO_nat]; exact List.getElem?_eq_getElem hn) (.obj 1) (.d (.int n)) (q.mem rest) (.inr (.inl ⟨1, q.cells.map .int, rfl, jq_1, rfl⟩)) (.inl rfl)
  exact this
theorem jq_pop {c : Int} {cs cells : List Int} {st : Int} {n : Nat} {hp : ∀ x ∈ c :: cs, 0 ≤ x} {hl : (c :: cs).length ≤ 63} {h1 : 0 < cells.length} {h2 : cells.length ≤ 64} : vPop (.obj 0) [.d (.int 0)] ((Jq.mk (c :: cs) cells st n hp hl h1 h2).mem rest) = .ok (.d (.int c)) ((Jq.mk cs cells st n (fun x h => hp x (List.mem_cons_of_mem _ h)) (by rw [List.length_cons] at hl; omega) h1 h2).mem rest) := by
  have z : seqIndex? 0 (Val.d (.int c) :: cs.map fun i => .d (.int i)).length = some 0 := by
    unfold seqIndex?
    simp
  have e : ((Jq.mk (c :: cs) cells st n hp hl h1 h2).mem rest)[0]? = some (.lst (.d (.int c) :: cs.map fun i => .d (.int i))) := rfl
  unfold vPop
  simp only [e, z]
  rfl
theorem jq_ins {v : Int} {cs cells : List Int} {st : Int} {n : Nat} {hp : ∀ x ∈ cs, 0 ≤ x} {hl : cs.length ≤ 63} {h1 : 0 < cells.length} {h2 : cells.length ≤ 64} (h : cs.length < 63) (hv : 0 ≤ v) : vInsert (.obj 0) [.d (.int 0), .d (.int v)] ((Jq.mk cs cells st n hp hl h1 h2).mem rest) = .ok (.d .none) ((Jq.mk (v :: cs) cells st n (fun x hx => by
    rcases List.mem_cons.mp hx with rfl | hx
    · exact hv
    · exact hp x hx) (by rw [List.length_cons]; omega) h1 h2).mem rest) := by
  unfold vInsert
  show (if (cs.map fun i => Val.d (.int i)).length < 16777216 ∧ (0 : Int) ≤ 0 ∧ (0 : Int) < 9223372036854775808 then Out.ok (Val.d .none) (MO.lst (((cs.map fun i => Val.d (.int i)).take (0 : Int).toNat ++ [.d (.int v)]) ++ (cs.map fun i => Val.d (.int i)).drop (0 : Int).toNat) :: _) else .bad) = _
  rw [if_pos ⟨by rw [List.length_map]; omega, by decide, by decide⟩]
  rfl
end
theorem jq_below {q : Jq} {n : Nat} (hn : 1 < n) : (q.mem []).all (MO.below n) = true := by
  have hb : ∀ xs : List Int, (xs.map fun i => Val.d (.int i)).all (Val.below n) = true := fun xs => List.all_eq_true.mpr fun x hx => by
    obtain ⟨i, _, rfl⟩ := List.mem_map.mp hx
    rfl
  show ((q.far.map fun i => Val.d (.int i)).all (Val.below n) && ((q.cells.map fun i => Val.d (.int i)).all (Val.below n) && ((decide (0 < n) && (decide (1 < n) && (true && (true && true)))) && true))) = true
  rw [hb, hb, decide_eq_true hn, decide_eq_true (show 0 < n by omega)]
  rfl
def DkQ : DeckN := { T := Jq, m0 := fun q => q.mem [], n := 3, len := fun _ => rfl, cl := fun q => jq_below (by decide), nf := (fun q j x e => by
  match j with
  | 0 => cases e
  | 1 => cases e
  | 2 => cases e
  | n + 3 => cases e), bud := fun q => 4611686018427387904 - q.n }
theorem jq_nf {R0 : Mm} {h0} : ∀ (b : (DkQ.B R0 h0).T), ∃ u, ((DkQ.B R0 h0).mem b)[2]? = some u ∧ ∀ x, u ≠ .frz x := fun b => ⟨_, rfl, fun x e => by cases e⟩
def drawN (m : Int) : Dn Int := fun b Q => (0 < m ∧ m < 1073741824 ∧ 0 < b) ∧ ∀ r, 0 ≤ r → r < m → ∀ b', b ≤ b' + 1 → Q r b'
def pickN (xs : List α) : Dn α := fun b Q => (0 < xs.length ∧ xs.length < 1073741824 ∧ 0 < b) ∧ ∀ x ∈ xs, ∀ b', b ≤ b' + 1 → Q x b'
def mixN (e : α → PyData) (xs : List α) : Dn (List α) := fun b Q => (Lay (xs.map e) ∧ xs.length ≤ 1000 ∧ xs.length ≤ b) ∧ ∀ ys, ys.Perm xs → ∀ b', b ≤ b' + xs.length → Q ys b'
theorem fnQ_draw {den : Den} (H : ∀ (q : Jq) (rest : Mm) {m : Int}, 0 < m → m < 1073741824 → q.n < 4611686018427387904 → ∃ (r : Int) (q' : Jq), den [.obj 2, .d (.int m)] (q.mem rest) = .ok (.d (.int r)) (q'.mem rest) ∧ 0 ≤ r ∧ r < m ∧ q'.n ≤ q.n + 1) :
    FnN DkQ 2 den (fun a : Int × Unit => drawN a.1) (fun a => [.int a.1]) PyData.int := fun a Q q R hf hM => by
  have hb : 0 < 4611686018427387904 - q.n := hf.1.2.2
  obtain ⟨r, q', e, h1, h2, h3⟩ := H q R hf.1.1 hf.1.2.1 (by omega)
  refine ⟨r, q', hf.2 r h1 h2 _ ?_, e⟩
  show 4611686018427387904 - q.n ≤ 4611686018427387904 - q'.n + 1
  omega
theorem fnQ_pick {den : Den} (H : ∀ (q : Jq) (rest : Mm) {ds : List PyData}, 0 < ds.length → ds.length < 1073741824 → q.n < 4611686018427387904 → ∃ x ∈ ds, ∃ q' : Jq, den [.obj 2, .d (.list ds)] (q.mem rest) = .ok (.d x) (q'.mem rest) ∧ q'.n ≤ q.n + 1) (e : α → PyData) :
    FnN DkQ 2 den (fun a : List α × Unit => pickN a.1) (fun a => [eL e a.1]) e := fun a Q q R hf hM => by
  have hb : 0 < 4611686018427387904 - q.n := hf.1.2.2
  obtain ⟨x, hx, q', e1, h3⟩ := H q R (ds := a.1.map e) (by rw [List.length_map]; exact hf.1.1) (by rw [List.length_map]; exact hf.1.2.1) (by omega)
  obtain ⟨y, hy, rfl⟩ := List.mem_map.mp hx
  refine ⟨y, q', hf.2 y hy _ ?_, e1⟩
  show 4611686018427387904 - q.n ≤ 4611686018427387904 - q'.n + 1
  omega
/-- the law's own def: it makes its jar first -/
theorem law_ofQ {Γx : Cs} {n : Nat} {b rest : SM} {dk : Den} {ns : List Int} {f : Dn Bool} (hb : b = sSeq (sAsg (mCall 1 dk (mCons (mVar 0) mNil)) (gN 1)) rest) (hd : ∃ q : Jq, dk [.scr ns] [] = .ok (.obj 2) (q.mem []) ∧ q.n = 0) (Γ0 : Cs) (h : ∀ h0, JS (μ := Dn) (DkQ.B [] h0) Γ0 Γx rest f (Kr _ PyData.bool))
    (hn : 2 ≤ n) (hf : f 4611686018427387904 fun r _ => r = true) (hΓ : Γ0 = .s ns :: .o 2 :: List.replicate (n - 2) .n := by rfl) : ∃ M', trim (body n b) [.scr ns] [] = .ok (.d (.bool true)) M' := by
  obtain ⟨q, hq, hq0⟩ := hd
  have h0 : ∀ q', (DkQ.m0 q' ++ []).all (MO.below (DkQ.n + ([] : Mm).length)) = true := fun q' => by rw [List.append_nil]; exact DkQ.cl q'
  have hs : (sAsg (mCall 1 dk (mCons (mVar 0) mNil)) (gN 1)) (slots0 n [.scr ns]) [] = .nx ((slots0 n [.scr ns]).set 1 (some (.obj 2))) (q.mem []) := by
    show ((((mVar 0 (slots0 n [.scr ns]) []).bind fun x M1 => Out.ok [x] M1).bind fun vs M1 => if vs.length = 1 then dk vs M1 else .bad)).asg _ _ = _
    have : mVar 0 (slots0 n [.scr ns]) [] = .ok (.scr ns) [] := rfl
    rw [this]
    show (dk [.scr ns] []).asg _ _ = _
    rw [hq]
    rfl
  have hsl : (slots0 n [.scr ns]).set 1 (some (.obj 2)) = some (.scr ns) :: some (.obj 2) :: List.replicate (n - 2) none := by
    obtain ⟨m, rfl⟩ : ∃ m, n = m + 2 := ⟨n - 2, by omega⟩
    simp [slots0, List.replicate_succ]
  obtain ⟨L, e1, e2, S⟩ := sat_start (B := DkQ.m0 q ++ []) (M := q.mem []) (Γ0 := Γ0) (sl := some (.scr ns) :: some (.obj 2) :: List.replicate (n - 2) none) (by rw [hΓ]; simp) (fun i s w h1 h2 => by
    rw [hΓ] at h1
    match i with
    | 0 => cases h1; cases h2; exact ⟨rfl, rfl⟩
    | 1 => cases h1; cases h2; exact ⟨rfl, rfl⟩
    | i + 2 =>
      simp only [List.getElem?_cons_succ, List.getElem?_replicate] at h1
      split at h1
      · cases h1; exact ⟨trivial, rfl⟩
      · cases h1) ⟨[], by rw [List.append_nil, List.append_nil]; rfl⟩ (DkQ.cl q)
  have hbud : (DkQ.B [] h0).bud q = 4611686018427387904 := by show 4611686018427387904 - q.n = _; rw [hq0]
  rcases (h h0).run (fun x _ => match x with | .ok r' => r' = true | .er _ => False) L q (q.mem []) (by rw [hbud]; exact hf) e2 S with ⟨r', β', q', k⟩ | ⟨e, _, _, _, ⟨_, q'⟩, _⟩
  · dsimp only at q'
    subst q'
    obtain ⟨R', ho⟩ := out_kr k
    refine ⟨_, z_trimc (M1 := []) (R := (DkQ.B [] h0).mem β' ++ R') ?_ rfl rfl⟩
    rw [z_body, hb]
    show (SO.seq _ rest).out = _
    rw [hs, hsl, ← e1]
    exact ho
  · exact q'.elim
/-! ### a drawn row -/
noncomputable def mixQ (e : α → PyData) (xs : List α) : Dn (List α) :=
  bd (pu (xs, ([] : List α), ())) fun a => bd (WH.wh fun n => whM (fun st : List α × List α => lf (neO (eL e st.1) (eL e []))) (fun st : List α × List α => bd (bd (bd (drawN (st.1.length : Int)) fun k => lf (popO st.1 k)) fun p => bd (lf (psh st.2 p.1)) fun z => pu (z, p)) fun z => pu (Tn.go (z.2.2, z.1))) n (a.1, a.2.1))
    (fiE (fun st => pu st.2) fun r : List α => pu r)
theorem mixN_turns {e : α → PyData} {Q : List α → Nat → Prop} (b0 m0 : Nat) : ∀ (n : Nat) (rs gs : List α) (b : Nat), rs.length = n → Lay (rs.map e) → gs.length + rs.length ≤ 1000 → n ≤ b → b0 + n ≤ b + m0 → (∀ ys, ys.Perm (gs ++ rs) → ∀ b', b0 ≤ b' + m0 → Q ys b') →
    whM (μ := Dn) (ρ := List α) (fun st : List α × List α => lf (neO (eL e st.1) (eL e []))) (fun st : List α × List α => bd (bd (bd (drawN (st.1.length : Int)) fun k => lf (popO st.1 k)) fun p => bd (lf (psh st.2 p.1)) fun z => pu (z, p)) fun z => pu (Tn.go (z.2.2, z.1))) (n + 1) (rs, gs) b
      (fun t b' => fiE (μ := Dn) (fun st => pu st.2) (fun r : List α => pu r) t b' Q)
  | 0, rs, gs, b, hn, hl, hb, _, hc, hq => by
    have : rs = [] := List.length_eq_zero_iff.mp hn
    subst this
    refine ⟨false, neO_nil hl, ?_⟩
    exact hq gs (by rw [List.append_nil]) b (by omega)
  | n + 1, rs, gs, b, hn, hl, hb, hnb, hc, hq => by
    have hne : (!rs.isEmpty) = true := by cases rs with | nil => cases hn | cons _ _ => rfl
    refine ⟨true, by rw [neO_nil hl, hne], ?_⟩
    refine ⟨⟨by show (0 : Int) < (rs.length : Int); omega, by show (rs.length : Int) < _; omega, by omega⟩, fun r h0 h1 b' hb' => ?_⟩
    have hr : r.toNat < rs.length := by have : r < (rs.length : Int) := h1; omega
    have hx : rs[r.toNat]? = some rs[r.toNat] := List.getElem?_eq_getElem hr
    generalize rs[r.toNat] = x at hx
    have hp := perm_erase' hx
    have hpl := hp.length_eq
    rw [List.length_cons] at hpl
    refine ⟨(x, rs.eraseIdx r.toNat), ?_, ⟨gs ++ [x], ?_, ?_⟩⟩
    · show popO rs r = _
      unfold popO
      rw [if_pos (by omega), seqIndex_in h0 h1]
      dsimp only
      rw [hx]
    · show psh gs x = _
      unfold psh
      rw [if_pos (by omega)]
    · refine mixN_turns b0 m0 n (rs.eraseIdx r.toNat) (gs ++ [x]) b' (by omega) (hl.sub fun z hz => ?_) (by rw [List.length_append, List.length_singleton]; omega) (by omega) (by omega) fun ys hy => hq ys (hy.trans ?_)
      · obtain ⟨w, hw, rfl⟩ := List.mem_map.mp hz
        exact List.mem_map.mpr ⟨w, List.mem_of_mem_eraseIdx hw, rfl⟩
      · rw [List.append_assoc]
        exact List.Perm.append_left gs hp
theorem mixN_le (e : α → PyData) (xs : List α) (b : Nat) (Q : List α → Nat → Prop) (h : mixN e xs b Q) : mixQ e xs b Q :=
  ⟨xs.length + 1, mixN_turns b xs.length xs.length xs [] b rfl h.1.1 (by have := h.1.2.1; simpa using this) h.1.2.2 (by omega) fun ys hy => h.2 ys (by simpa using hy)⟩
/-! ### reckoning -/
theorem dn_bd {x : Dn α} {f : α → Dn β} {b : Nat} {Q : β → Nat → Prop} : bd (μ := Dn) x f b Q = x b fun a b' => f a b' Q := rfl
theorem dn_pu {a : α} {b : Nat} {Q : α → Nat → Prop} : pu (μ := Dn) a b Q = Q a b := rfl
theorem dn_lfs {a : α} {b : Nat} {Q : α → Nat → Prop} : lf (μ := Dn) (some a) b Q = Q a b := congrFun (congrFun (LO.lf_some (μ := Dn) (a := a)) b) Q
theorem dn_draw {m : Int} {b : Nat} {Q : Int → Nat → Prop} (h1 : 0 < m) (h2 : m < 1073741824) (h3 : 0 < b) (h : ∀ r, 0 ≤ r → r < m → ∀ b', b ≤ b' + 1 → Q r b') : drawN m b Q := ⟨⟨h1, h2, h3⟩, h⟩
theorem dn_pick {xs : List α} {b : Nat} {Q : α → Nat → Prop} (h1 : 0 < xs.length) (h2 : xs.length < 1073741824) (h3 : 0 < b) (h : ∀ x ∈ xs, ∀ b', b ≤ b' + 1 → Q x b') : pickN xs b Q := ⟨⟨h1, h2, h3⟩, h⟩
theorem dn_mix {e : α → PyData} {xs : List α} {b : Nat} {Q : List α → Nat → Prop} (h1 : Lay (xs.map e)) (h2 : xs.length ≤ 1000) (h3 : xs.length ≤ b) (h : ∀ ys, ys.Perm xs → ∀ b', b ≤ b' + xs.length → Q ys b') : mixN e xs b Q := ⟨⟨h1, h2, h3⟩, h⟩
/-- a loop: each turn costs c at the most -/
theorem dn_for {g : σ → τ → Dn σ} {Q : σ → Nat → Prop} (I : List τ → σ → Prop) (c : Nat) (xs : List τ) (s : σ) (b : Nat) (hb : c * xs.length ≤ b) (h0 : I [] s) (h : ∀ pre x post, xs = pre ++ x :: post → ∀ s, I pre s → ∀ b, c ≤ b → ∀ Q' : σ → Nat → Prop, (∀ s' b', I (pre ++ [x]) s' → b ≤ b' + c → Q' s' b') → g s x b Q') (hq : ∀ s b', I xs s → b ≤ b' + c * xs.length → Q s b') : forM' g xs s b Q := by
  suffices W : ∀ post pre s b1, xs = pre ++ post → I pre s → c * post.length ≤ b1 → b + c * post.length ≤ b1 + c * xs.length → forM' g post s b1 Q from W xs [] s b rfl h0 hb (Nat.le_refl _)
  intro post
  induction post with
  | nil => intro pre s b1 e hi _ hc; rw [List.append_nil] at e; subst e; exact hq s b1 hi (by simpa using hc)
  | cons x post ih =>
    intro pre s b1 e hi hb1 hc
    rw [List.length_cons, Nat.mul_succ] at hb1 hc
    exact h pre x post e s hi b1 (by omega) (fun s' b' => forM' g post s' b' Q) fun s' b' hi' hb' => ih (pre ++ [x]) s' b' (by rw [e, List.append_assoc]; rfl) hi' (by omega) (by omega)
theorem dn_forT {g : σ → τ → Dn (Tn σ ρ)} {Q : Fi σ ρ → Nat → Prop} (I : List τ → σ → Prop) (J : σ → Prop) (R : ρ → Prop) (c : Nat) (xs : List τ) (s : σ) (b : Nat) (hb : c * xs.length ≤ b) (h0 : I [] s) (h : ∀ pre x post, xs = pre ++ x :: post → ∀ s, I pre s → ∀ b, c ≤ b → ∀ Q' : Tn σ ρ → Nat → Prop, (∀ t b', tnP (I (pre ++ [x])) J R t → b ≤ b' + c → Q' t b') → g s x b Q')
    (hq : ∀ t b', fiP (fun s => I xs s ∨ J s) R t → b ≤ b' + c * xs.length → Q t b') : forT g xs s b Q := by
  suffices W : ∀ post pre s b1, xs = pre ++ post → I pre s → c * post.length ≤ b1 → b + c * post.length ≤ b1 + c * xs.length → forT g post s b1 Q from W xs [] s b rfl h0 hb (Nat.le_refl _)
  intro post
  induction post with
  | nil => intro pre s b1 e hi _ hc; rw [List.append_nil] at e; subst e; exact hq (.dn s) b1 (.inl hi) (by simpa using hc)
  | cons x post ih =>
    intro pre s b1 e hi hb1 hc
    rw [List.length_cons, Nat.mul_succ] at hb1 hc
    refine h pre x post e s hi b1 (by omega) _ fun t b' ht hb' => ?_
    cases t with
    | go s' => exact ih (pre ++ [x]) s' b' (by rw [e, List.append_assoc]; rfl) ht (by omega) (by omega)
    | br s' => exact hq (.dn s') b' (.inr ht) (by omega)
    | rt r => exact hq (.rt r) b' ht (by omega)
end Zm
/-! Covers and matchings: what is come to from the free cutters, a cover of as many as a greatest matching has. -/
namespace Zm
open PySem PySem.Spec PyProof.Rows L2
open WM (pu bd)
open LO (lf)
/-- some pairs have one of each pair -/
def CovP (pairs : List (Int × Int)) (A B : List Int) : Prop := ∀ p ∈ pairs, p.1 ∈ A ∨ p.2 ∈ B
theorem cov_ge {pairs N : List (Int × Int)} {D : Int → Prop} {A B : List Int} (hN : Mtc pairs D N) (hc : CovP pairs A B) : N.length ≤ A.length + B.length := by
  have a2 := filter_two (fun p : Int × Int => decide (p.1 ∈ A)) N
  have h1 := nd_len (ys := A) (nodup_filter_map hN.n1 fun p => decide (p.1 ∈ A)) fun x hx => by
    obtain ⟨p, hp, rfl⟩ := List.mem_map.mp hx
    exact of_decide_eq_true (List.mem_filter.mp hp).2
  have h2 := nd_len (ys := B) (nodup_filter_map hN.n2 fun p => !decide (p.1 ∈ A)) fun x hx => by
    obtain ⟨p, hp, rfl⟩ := List.mem_map.mp hx
    obtain ⟨k1, k2⟩ := List.mem_filter.mp hp
    rcases hc p (hN.sub p k1) with z | z
    · rw [decide_eq_true z] at k2; cases k2
    · exact z
  rw [List.length_map] at h1 h2
  omega
/-- a greatest matching, as rows of (cutter, back) -/
structure Mx (pairs : List (Int × Int)) (D : Int → Prop) (kept : List (Int × Int)) : Prop where
  m : Mtc pairs D kept
  max : ∀ N, Mtc pairs D N → N.length ≤ kept.length
theorem MtM.mx {pairs : List (Int × Int)} {D : Int → Prop} {m kept : List (Int × Int)} (h : MtM pairs D m) (hp : kept.Perm (m.map fun p => (p.2, p.1))) : Mx pairs D kept := ⟨⟨fun p q => h.mtc.sub p (hp.mem_iff.mp q), fun p q => h.mtc.dom p (hp.mem_iff.mp q), (hp.map _).nodup_iff.mpr h.mtc.n1, (hp.map _).nodup_iff.mpr h.mtc.n2⟩, fun N hN => by
  rw [hp.length_eq, List.length_map]
  exact h.max N hN⟩
theorem nd_fst {N : List (Int × Int)} (h : (N.map (·.1)).Nodup) : ∀ {p q : Int × Int}, p ∈ N → q ∈ N → p.1 = q.1 → p = q := by
  induction N with
  | nil => intro p q hp; cases hp
  | cons x N ih =>
    rw [List.map_cons, List.nodup_cons] at h
    intro p q hp hq e
    rcases List.mem_cons.mp hp with rfl | hp' <;> rcases List.mem_cons.mp hq with rfl | hq'
    · rfl
    · exact absurd (List.mem_map.mpr ⟨q, hq', e.symm⟩) h.1
    · exact absurd (List.mem_map.mpr ⟨p, hp', e⟩ : q.1 ∈ N.map (·.1)) h.1
    · exact ih h.2 hp' hq' e
theorem nd_snd {N : List (Int × Int)} (h : (N.map (·.2)).Nodup) : ∀ {p q : Int × Int}, p ∈ N → q ∈ N → p.2 = q.2 → p = q := by
  induction N with
  | nil => intro p q hp; cases hp
  | cons x N ih =>
    rw [List.map_cons, List.nodup_cons] at h
    intro p q hp hq e
    rcases List.mem_cons.mp hp with rfl | hp' <;> rcases List.mem_cons.mp hq with rfl | hq'
    · rfl
    · exact absurd (List.mem_map.mpr ⟨q, hq', e.symm⟩) h.1
    · exact absurd (List.mem_map.mpr ⟨p, hp', e⟩ : q.2 ∈ N.map (·.2)) h.1
    · exact ih h.2 hp' hq' e
/-- a cutter that is come to: some matching as great is without it, and like the kept one but for backs that were come to -/
def Rch (pairs kept : List (Int × Int)) (D : Int → Prop) (backs : List Int) (c : Int) : Prop :=
  D c ∧ ∃ N, Mtc pairs D N ∧ N.length = kept.length ∧ (∀ p ∈ N, p.1 ≠ c) ∧ ∀ p, p.2 ∉ backs → (p ∈ N ↔ p ∈ kept)
theorem Rch.more {pairs kept : List (Int × Int)} {D : Int → Prop} {bs bs' : List Int} {c : Int} (h : Rch pairs kept D bs c) (hs : ∀ b ∈ bs, b ∈ bs') : Rch pairs kept D bs' c := by
  obtain ⟨d, N, h1, h2, h3, h4⟩ := h
  exact ⟨d, N, h1, h2, h3, fun p hp => h4 p fun z => hp (hs _ z)⟩
theorem rch_step {pairs kept : List (Int × Int)} {D : Int → Prop} (hk : Mx pairs D kept) {backs : List Int} {c b : Int} (h : Rch pairs kept D backs c) (hp : (c, b) ∈ pairs) (hb : b ∉ backs) : ∃ c', (c', b) ∈ kept ∧ Rch pairs kept D (backs ++ [b]) c' := by
  obtain ⟨dc, N, h1, h2, h3, h4⟩ := h
  by_cases hm : ∃ c', (c', b) ∈ N
  · obtain ⟨c', hc'⟩ := hm
    refine ⟨c', (h4 (c', b) hb).mp hc', h1.dom _ hc', (c, b) :: N.filter (fun p => !decide (p.2 = b)), ⟨fun p q => ?_, fun p q => ?_, ?_, ?_⟩, ?_, fun p q => ?_, fun p q => ?_⟩
    · rcases List.mem_cons.mp q with rfl | q
      · exact hp
      · exact h1.sub p (List.mem_filter.mp q).1
    · rcases List.mem_cons.mp q with rfl | q
      · exact dc
      · exact h1.dom p (List.mem_filter.mp q).1
    · rw [List.map_cons, List.nodup_cons]
      refine ⟨fun z => ?_, nodup_filter_map h1.n1 _⟩
      obtain ⟨q, hq, e⟩ := List.mem_map.mp z
      exact h3 q (List.mem_filter.mp hq).1 e
    · rw [List.map_cons, List.nodup_cons]
      refine ⟨fun z => ?_, nodup_filter_map h1.n2 _⟩
      obtain ⟨q, hq, e⟩ := List.mem_map.mp z
      have := (List.mem_filter.mp hq).2
      rw [decide_eq_true e] at this; cases this
    · have a2 := filter_two (fun p : Int × Int => decide (p.2 = b)) N
      have a3 : N.filter (fun p => decide (p.2 = b)) = [(c', b)] ∨ True := .inr trivial
      have a4 : (N.filter fun p => decide (p.2 = b)).length = 1 := by
        have le := nd_len (ys := [b]) (nodup_filter_map h1.n2 fun p => decide (p.2 = b)) fun x hx => by
          obtain ⟨p, hp, rfl⟩ := List.mem_map.mp hx
          exact List.mem_singleton.mpr (of_decide_eq_true (List.mem_filter.mp hp).2)
        rw [List.length_map] at le
        have ge : 0 < (N.filter fun p => decide (p.2 = b)).length := List.length_pos_of_mem (List.mem_filter.mpr ⟨hc', decide_eq_true rfl⟩)
        simp only [List.length_singleton] at le
        omega
      rw [List.length_cons]
      omega
    · rcases List.mem_cons.mp q with rfl | q
      · exact fun z => h3 _ hc' z.symm
      · obtain ⟨q1, q2⟩ := List.mem_filter.mp q
        intro z
        have := nd_fst h1.n1 q1 hc' z
        rw [this] at q2
        simp at q2
    · have qb : p.2 ∉ backs := fun z => q (List.mem_append_left _ z)
      have qn : p.2 ≠ b := fun z => q (List.mem_append_right _ (List.mem_singleton.mpr z))
      rw [← h4 p qb]
      constructor
      · intro z
        rcases List.mem_cons.mp z with rfl | z
        · exact absurd rfl qn
        · exact (List.mem_filter.mp z).1
      · intro z
        exact List.mem_cons_of_mem _ (List.mem_filter.mpr ⟨z, by simp [qn]⟩)
  · have hN : Mtc pairs D ((c, b) :: N) := ⟨fun p q => by
      rcases List.mem_cons.mp q with rfl | q
      · exact hp
      · exact h1.sub p q, fun p q => by
      rcases List.mem_cons.mp q with rfl | q
      · exact dc
      · exact h1.dom p q, by
      rw [List.map_cons, List.nodup_cons]
      exact ⟨fun z => by
        obtain ⟨q, hq, e⟩ := List.mem_map.mp z
        exact h3 q hq e, h1.n1⟩, by
      rw [List.map_cons, List.nodup_cons]
      exact ⟨fun z => by
        obtain ⟨q, hq, e⟩ := List.mem_map.mp z
        exact hm ⟨q.1, by rw [show (q.1, b) = q from Prod.ext rfl e.symm]; exact hq⟩, h1.n2⟩⟩
    have := hk.max _ hN
    rw [List.length_cons] at this
    omega
/-- what holds while cutters wait -/
structure RI (pairs kept : List (Int × Int)) (D : Int → Prop) (cs waiting found backs : List Int) : Prop where
  rch : ∀ c, c ∈ waiting ∨ c ∈ found → Rch pairs kept D backs c
  par : ∀ b ∈ backs, ∃ c, (c, b) ∈ kept ∧ (c ∈ waiting ∨ c ∈ found)
  all : ∀ c ∈ cs, (∀ p ∈ kept, p.1 ≠ c) → c ∈ waiting ∨ c ∈ found
  nd : backs.Nodup
theorem RI.cover {pairs kept : List (Int × Int)} {D : Int → Prop} {cs bs found come : List Int} (hk : Mx pairs D kept) (h : RI pairs kept D cs [] found come) (hcl : ∀ c ∈ found, ∀ b, (c, b) ∈ pairs → b ∈ come) (hD : ∀ p ∈ pairs, p.1 ∈ cs ∧ p.2 ∈ bs) (nc : cs.Nodup) (nb : bs.Nodup) :
    CovP pairs (cs.filter fun c => !decide (c ∈ found)) (bs.filter fun b => decide (b ∈ come)) ∧ (cs.filter fun c => !decide (c ∈ found)).length + (bs.filter fun b => decide (b ∈ come)).length = kept.length := by
  have cov : CovP pairs (cs.filter fun c => !decide (c ∈ found)) (bs.filter fun b => decide (b ∈ come)) := fun p hp => by
    by_cases z : p.1 ∈ found
    · exact .inr (List.mem_filter.mpr ⟨(hD p hp).2, decide_eq_true (hcl _ z _ hp)⟩)
    · exact .inl (List.mem_filter.mpr ⟨(hD p hp).1, by rw [decide_eq_false z]; rfl⟩)
  refine ⟨cov, Nat.le_antisymm ?_ (cov_ge hk.m cov)⟩
  have a2 := filter_two (fun p : Int × Int => decide (p.2 ∈ come)) kept
  have l1 := nd_len (xs := cs.filter fun c => !decide (c ∈ found)) (ys := (kept.filter fun p => !decide (p.2 ∈ come)).map (·.1)) (nc.filter _) fun c hc => by
    obtain ⟨c1, c2⟩ := List.mem_filter.mp hc
    have cf : c ∉ found := fun z => by rw [decide_eq_true z] at c2; cases c2
    by_cases z : ∀ p ∈ kept, p.1 ≠ c
    · rcases h.all c c1 z with q | q
      · cases q
      · exact absurd q cf
    · have ⟨p, hp, e⟩ : ∃ p ∈ kept, p.1 = c := by
        by_cases w : ∃ p ∈ kept, p.1 = c
        · exact w
        · exact absurd (fun p hp e => w ⟨p, hp, e⟩) z
      refine List.mem_map.mpr ⟨p, List.mem_filter.mpr ⟨hp, ?_⟩, e⟩
      by_cases w : p.2 ∈ come
      · obtain ⟨c', k1, k2⟩ := h.par _ w
        have := nd_snd hk.m.n2 hp k1 rfl
        rcases k2 with k2 | k2
        · cases k2
        · exact absurd (by rw [← e, this]; exact k2) cf
      · rw [decide_eq_false w]; rfl
  have l2 := nd_len (xs := bs.filter fun b => decide (b ∈ come)) (ys := (kept.filter fun p => decide (p.2 ∈ come)).map (·.2)) (nb.filter _) fun b hb => by
    have hb := of_decide_eq_true (List.mem_filter.mp hb).2
    obtain ⟨c, k1, _⟩ := h.par _ hb
    exact List.mem_map.mpr ⟨(c, b), List.mem_filter.mpr ⟨k1, decide_eq_true hb⟩, rfl⟩
  rw [List.length_map] at l1 l2
  omega
/-- a row of steps that change places: what they make of the mates -/
def flp (m st : List (Int × Int)) : List (Int × Int) := st.foldl (fun a p => dput a p.2 p.1) m
structure Flp (pairs : List (Int × Int)) (U : List Int) (m : List (Int × Int)) (s : List Int) (c h : Int) (st : List (Int × Int)) : Prop where
  cn : ∀ y, cnt (flp m st) y + (if y = h then 1 else 0) = cnt m y + (if y = c then 1 else 0)
  len : (flp m st).length = m.length
  mi : MI pairs U (flp m st, [])
  kp : ∀ b, b ∉ s → dget (flp m st) b = dget m b
theorem Flp.nil {pairs : List (Int × Int)} {U : List Int} {m : List (Int × Int)} {s : List Int} {c : Int} (h : MI pairs U (m, [])) : Flp pairs U m s c c [] := ⟨fun _ => rfl, rfl, h, fun _ _ => rfl⟩
theorem flp_app (m st : List (Int × Int)) (h b : Int) : flp m (st ++ [(h, b)]) = dput (flp m st) b h := by
  unfold flp
  rw [List.foldl_append]
  rfl
theorem Flp.more {pairs : List (Int × Int)} {U : List Int} {m : List (Int × Int)} {s s' : List Int} {c h : Int} {st : List (Int × Int)} (f : Flp pairs U m s c h st) (hs : ∀ b ∈ s, b ∈ s') : Flp pairs U m s' c h st := ⟨f.cn, f.len, f.mi, fun b hb => f.kp b fun z => hb (hs _ z)⟩
theorem Flp.step {pairs : List (Int × Int)} {U : List Int} {m : List (Int × Int)} {s : List Int} {c h b x : Int} {st : List (Int × Int)} (f : Flp pairs U m s c h st) (hp : (h, b) ∈ pairs) (hb : b ∉ s) (hx : dget m b = some x) : Flp pairs U m (s ++ [b]) c x (st ++ [(h, b)]) := by
  have hg : dget (flp m st) b = some x := by rw [f.kp b hb]; exact hx
  refine ⟨fun y => ?_, ?_, ?_, fun b' hb' => ?_⟩
  · rw [flp_app]
    have := cnt_old (c := h) f.mi.kn hg y
    have := f.cn y
    dsimp only at *
    omega
  · rw [flp_app, dput_len_old hg]; exact f.len
  · rw [flp_app]; exact MI.put f.mi hp
  · rw [flp_app, dget_put, if_neg fun z => hb' (List.mem_append_right _ (List.mem_singleton.mpr z))]
    exact f.kp b' fun z => hb' (List.mem_append_left _ z)
theorem Flp.last {pairs : List (Int × Int)} {U : List Int} {m : List (Int × Int)} {s : List Int} {c h b : Int} {st : List (Int × Int)} (f : Flp pairs U m s c h st) (hp : (h, b) ∈ pairs) (hb : b ∉ s) (hx : dget m b = none) : MI pairs U (flp m (st ++ [(h, b)]), []) ∧ PlT pairs c (m, []) (flp m (st ++ [(h, b)]), []) := by
  have hg : dget (flp m st) b = none := by rw [f.kp b hb]; exact hx
  rw [flp_app]
  refine ⟨MI.put f.mi hp, ?_, fun y => ?_, fun b hb => by cases hb⟩
  · have hk := dget_none.mp hg
    show (dput (flp m st) b h).length = _
    rw [dput_new fun p hp z => hk (List.mem_map.mpr ⟨p, hp, z⟩), List.length_append, f.len]; rfl
  · have := cnt_new (c := h) hg y
    have := f.cn y
    show cnt (dput (flp m st) b h) y = _
    dsimp only at *
    omega
/-- what holds while rows of steps wait -/
structure StI (pairs : List (Int × Int)) (U : List Int) (m : List (Int × Int)) (c : Int) (s : List Int) (rows : List (Int × List (Int × Int))) (done : Int → Prop) : Prop where
  row : ∀ r ∈ rows, Flp pairs U m s c r.1 r.2
  nd : s.Nodup
  su : ∀ b ∈ s, b ∈ U
  cl : ∀ b ∈ s, ∃ x, dget m b = some x ∧ (done x ∨ ∃ r ∈ rows, r.1 = x)
  st : done c ∨ ∃ r ∈ rows, r.1 = c
theorem StI.plf {pairs : List (Int × Int)} {U : List Int} {m : List (Int × Int)} {c : Int} {s : List Int} (h : StI pairs U m c s [] fun x => ∀ b, (x, b) ∈ pairs → b ∈ s) : PlF pairs pairs c (m, []) (m, s) := by
  refine ⟨rfl, fun b hb => ?_, fun b hb _ => ?_⟩
  · rcases h.st with q | ⟨r, hr, _⟩
    · exact q b hb
    · cases hr
  · obtain ⟨x, k1, k2⟩ := h.cl b hb
    refine ⟨x, k1, ?_⟩
    rcases k2 with k2 | ⟨r, hr, _⟩
    · exact k2
    · cases hr
theorem dOfP_keys {κ α : Type} [DecidableEq κ] (ps : List (κ × α)) : ((dOfP ps).map (·.1)).Nodup ∧ ∀ k, k ∈ (dOfP ps).map (·.1) ↔ k ∈ ps.map (·.1) := by
  suffices H : ∀ (ps acc : List (κ × α)), (acc.map (·.1)).Nodup → ((ps.foldl (fun a p => dput a p.1 p.2) acc).map (·.1)).Nodup ∧ ∀ k, k ∈ (ps.foldl (fun a p => dput a p.1 p.2) acc).map (·.1) ↔ k ∈ acc.map (·.1) ∨ k ∈ ps.map (·.1) by
    have := H ps [] .nil
    exact ⟨this.1, fun k => (this.2 k).trans ⟨fun z => z.elim (fun z => by cases z) id, .inr⟩⟩
  intro ps
  induction ps with
  | nil => intro acc h; exact ⟨h, fun k => ⟨.inl, fun z => z.elim id fun z => by cases z⟩⟩
  | cons p ps ih =>
    intro acc h
    obtain ⟨h1, h2⟩ := ih (dput acc p.1 p.2) (dput_nd h)
    refine ⟨h1, fun k => (h2 k).trans ?_⟩
    rw [dput_keys, List.map_cons, List.mem_cons]
    by_cases z : p.1 ∈ acc.map (·.1)
    · rw [if_pos z]
      constructor
      · rintro (q | q)
        · exact .inl q
        · exact .inr (.inr q)
      · rintro (q | q | q)
        · exact .inl q
        · rw [q]; exact .inl z
        · exact .inr q
    · rw [if_neg z, List.mem_append, List.mem_singleton]
      constructor
      · rintro ((q | q) | q)
        · exact .inl q
        · exact .inr (.inl q)
        · exact .inr (.inr q)
      · rintro (q | q | q)
        · exact .inl (.inl q)
        · exact .inl (.inr q)
        · exact .inr q
/-- a loop that may break -/
theorem ev_forTJ {σ τ ρ : Type} {f : σ → τ → Option (Tn σ ρ)} (I : List τ → σ → Prop) (J : σ → Prop) (xs : List τ) (s : σ) (h0 : I [] s) (h : ∀ pre x post, xs = pre ++ x :: post → ∀ s, I pre s → ∃ t, f s x = some t ∧ tnP (I (pre ++ [x])) J (fun _ => False) t) : ∃ s', forT f xs s = some (.dn s') ∧ (I xs s' ∨ J s') := by
  suffices H : ∀ post pre s, xs = pre ++ post → I pre s → ∃ s', forT f post s = some (.dn s') ∧ (I xs s' ∨ J s') from H xs [] s rfl h0
  intro post
  induction post with
  | nil => intro pre s e hs; rw [List.append_nil] at e; subst e; exact ⟨s, rfl, .inl hs⟩
  | cons x post ih =>
    intro pre s e hs
    obtain ⟨t, e1, ht⟩ := h pre x post e s hs
    cases t with
    | go s' =>
      obtain ⟨s2, e2, hs2⟩ := ih (pre ++ [x]) s' (by rw [List.append_assoc]; exact e) ht
      refine ⟨s2, ?_, hs2⟩
      unfold forT
      rw [e1]
      exact e2
    | br s' =>
      refine ⟨s', ?_, .inr ht⟩
      unfold forT
      rw [e1]
      rfl
    | rt r => exact ht.elim
theorem enuF_snd {α : Type} : ∀ (xs : List α) (n : Nat), (enuF n xs).map (·.2) = xs
  | [], _ => rfl
  | x :: xs, n => by
    show x :: (enuF (n + 1) xs).map (·.2) = x :: xs
    rw [enuF_snd xs]
theorem enu_snd {α : Type} (xs : List α) : (enu xs).map (·.2) = xs := enuF_snd xs 0
end Zm
/-! the defs of k53, printed by gen.py -/
namespace Zl
open PySem PySem.Spec PyProof.Rows L2 Zm

def topS (i : Nat) : Stmt := PySem.Challenge.pw_whateverothers_k53_whole_least_covers_ju.main.body.getD i (.Pass ⟨0, 0, 0, 0⟩)
abbrev s_placed : Stmt := topS 1
abbrev s_matched : Stmt := topS 2
abbrev s_reached : Stmt := topS 4
abbrev s_least_cover : Stmt := topS 5
abbrev s_ljar : Stmt := topS 7
abbrev s_ldraw : Stmt := topS 8
abbrev s_lpick : Stmt := topS 9
abbrev s_lmixed : Stmt := topS 10
abbrev s_lgreatest : Stmt := topS 11
abbrev s_lis_row : Stmt := topS 12
abbrev s_lis_cover : Stmt := topS 13
abbrev s_lgraph : Stmt := topS 14
abbrev s_lleast : Stmt := topS 15
abbrev s_law : Stmt := topS 16
structure Txt (K : PySem.W.Frag) (mg : Str → Option Value) : Prop where
  f_placed : DefAt K mg "placed" s_placed
  f_matched : DefAt K mg "matched" s_matched
  f_reached : DefAt K mg "reached" s_reached
  f_least_cover : DefAt K mg "least_cover" s_least_cover
  f_ljar : DefAt K mg "_law_jar" s_ljar
  f_ldraw : DefAt K mg "_law_draw" s_ldraw
  f_lpick : DefAt K mg "_law_pick" s_lpick
  f_lmixed : DefAt K mg "_law_mixed" s_lmixed
  f_lgreatest : DefAt K mg "_law_greatest" s_lgreatest
  f_lis_row : DefAt K mg "_law_is_row" s_lis_row
  f_lis_cover : DefAt K mg "_law_is_cover" s_lis_cover
  f_lgraph : DefAt K mg "_law_graph" s_lgraph
  f_lleast : DefAt K mg "_law_least" s_lleast
  f_law : DefAt K mg "law" s_law
  z_isinstance : mg "isinstance" = none
  z_len : mg "len" = none
  z_int : mg "int" = none
  z_bool : mg "bool" = none
  z_tuple : mg "tuple" = none
  z_list : mg "list" = none
  z_dict : mg "dict" = none
  z_min : mg "min" = none
  z_sorted : mg "sorted" = none
  z_repr : mg "repr" = none
  z_range : mg "range" = none
  z_enumerate : mg "enumerate" = none
theorem bb_len : bootBuiltins "len" = some (.builtin "len") := by decide +kernel
theorem bb_int : bootBuiltins "int" = some (.type "int") := by decide +kernel
theorem bb_bool : bootBuiltins "bool" = some (.type "bool") := by decide +kernel
theorem bb_tuple : bootBuiltins "tuple" = some (.type "tuple") := by decide +kernel
theorem bb_list : bootBuiltins "list" = some (.type "list") := by decide +kernel
theorem bb_dict : bootBuiltins "dict" = some (.type "dict") := by decide +kernel
theorem bb_min : bootBuiltins "min" = some (.builtin "min") := by decide +kernel
theorem bb_sorted : bootBuiltins "sorted" = some (.builtin "sorted") := by decide +kernel
theorem bb_repr : bootBuiltins "repr" = some (.builtin "repr") := by decide +kernel
theorem sc_placed : FnScope ["cutter", "pairs", "mates", "seen", "one", "back"] ["cutter", "pairs", "mates", "seen"] (defScope s_placed) := ⟨rfl, rfl, rfl, by decide +kernel, rfl, by decide +kernel, by decide +kernel⟩
theorem bi_placed : BindZ "placed" s_placed ["cutter", "pairs", "mates", "seen"] := fun _ _ _ _ _ _ us hl => match us, hl with | [_, _, _, _], _ => rfl
theorem sc_matched : FnScope ["cutters", "backs", "pairs", "mates", "cutter", "back"] ["cutters", "backs", "pairs"] (defScope s_matched) := ⟨rfl, rfl, rfl, by decide +kernel, rfl, by decide +kernel, by decide +kernel⟩
theorem bi_matched : BindZ "matched" s_matched ["cutters", "backs", "pairs"] := fun _ _ _ _ _ _ us hl => match us, hl with | [_, _, _], _ => rfl
theorem sc_reached : FnScope ["cutters", "pairs", "kept", "partners", "bound", "waiting", "found", "backs", "here", "back", "cutter"] ["cutters", "pairs", "kept"] (defScope s_reached) := ⟨rfl, rfl, rfl, by decide +kernel, rfl, by decide +kernel, by decide +kernel⟩
theorem bi_reached : BindZ "reached" s_reached ["cutters", "pairs", "kept"] := fun _ _ _ _ _ _ us hl => match us, hl with | [_, _, _], _ => rfl
theorem sc_least_cover : FnScope ["cutters", "backs", "pairs", "found", "come", "pieces", "cutter", "back"] ["cutters", "backs", "pairs"] (defScope s_least_cover) := ⟨rfl, rfl, rfl, by decide +kernel, rfl, by decide +kernel, by decide +kernel⟩
theorem bi_least_cover : BindZ "least_cover" s_least_cover ["cutters", "backs", "pairs"] := fun _ _ _ _ _ _ us hl => match us, hl with | [_, _, _], _ => rfl
theorem sc_ljar : FnScope ["script", "cells", "seal", "own", "far"] ["script"] (defScope s_ljar) := ⟨rfl, rfl, rfl, by decide +kernel, rfl, by decide +kernel, by decide +kernel⟩
theorem bi_ljar : BindZ "_law_jar" s_ljar ["script"] := fun _ _ _ _ _ _ us hl => match us, hl with | [_], _ => rfl
theorem sc_ldraw : FnScope ["jar", "many", "far", "count", "cells", "mix", "whole"] ["jar", "many"] (defScope s_ldraw) := ⟨rfl, rfl, rfl, by decide +kernel, rfl, by decide +kernel, by decide +kernel⟩
theorem bi_ldraw : BindZ "_law_draw" s_ldraw ["jar", "many"] := fun _ _ _ _ _ _ us hl => match us, hl with | [_, _], _ => rfl
theorem sc_lpick : FnScope ["jar", "row"] ["jar", "row"] (defScope s_lpick) := ⟨rfl, rfl, rfl, by decide +kernel, rfl, by decide +kernel, by decide +kernel⟩
theorem bi_lpick : BindZ "_law_pick" s_lpick ["jar", "row"] := fun _ _ _ _ _ _ us hl => match us, hl with | [_, _], _ => rfl
theorem sc_lmixed : FnScope ["jar", "row", "left", "found"] ["jar", "row"] (defScope s_lmixed) := ⟨rfl, rfl, rfl, by decide +kernel, rfl, by decide +kernel, by decide +kernel⟩
theorem bi_lmixed : BindZ "_law_mixed" s_lmixed ["jar", "row"] := fun _ _ _ _ _ _ us hl => match us, hl with | [_, _], _ => rfl
theorem sc_lgreatest : FnScope ["pairs", "mates", "lefts", "one", "seen", "rows", "here", "steps", "left", "right", "mine", "goal", "other"] ["pairs"] (defScope s_lgreatest) := ⟨rfl, rfl, rfl, by decide +kernel, rfl, by decide +kernel, by decide +kernel⟩
theorem bi_lgreatest : BindZ "_law_greatest" s_lgreatest ["pairs"] := fun _ _ _ _ _ _ us hl => match us, hl with | [_], _ => rfl
theorem sc_lis_row : FnScope ["value", "menu", "spot", "item"] ["value", "menu"] (defScope s_lis_row) := ⟨rfl, rfl, rfl, by decide +kernel, rfl, by decide +kernel, by decide +kernel⟩
theorem bi_lis_row : BindZ "_law_is_row" s_lis_row ["value", "menu"] := fun _ _ _ _ _ _ us hl => match us, hl with | [_, _], _ => rfl
theorem sc_lis_cover : FnScope ["value", "cutters", "backs", "pairs", "one", "other"] ["value", "cutters", "backs", "pairs"] (defScope s_lis_cover) := ⟨rfl, rfl, rfl, by decide +kernel, rfl, by decide +kernel, by decide +kernel⟩
theorem bi_lis_cover : BindZ "_law_is_cover" s_lis_cover ["value", "cutters", "backs", "pairs"] := fun _ _ _ _ _ _ us hl => match us, hl with | [_, _, _, _], _ => rfl
theorem sc_lgraph : FnScope ["jar", "left", "odds", "right", "numbers", "cutters", "backs", "pairs", "spot", "one", "rank", "other", "is_beside"] ["jar"] (defScope s_lgraph) := ⟨rfl, rfl, rfl, by decide +kernel, rfl, by decide +kernel, by decide +kernel⟩
theorem bi_lgraph : BindZ "_law_graph" s_lgraph ["jar"] := fun _ _ _ _ _ _ us hl => match us, hl with | [_], _ => rfl
theorem sc_lleast : FnScope ["cutters", "pairs", "found", "rows", "one", "row", "rest", "other"] ["cutters", "pairs"] (defScope s_lleast) := ⟨rfl, rfl, rfl, by decide +kernel, rfl, by decide +kernel, by decide +kernel⟩
theorem bi_lleast : BindZ "_law_least" s_lleast ["cutters", "pairs"] := fun _ _ _ _ _ _ us hl => match us, hl with | [_, _], _ => rfl
theorem sc_law : FnScope ["script", "jar", "turn", "cutters", "backs", "pairs", "kept", "due", "told"] ["script"] (defScope s_law) := ⟨rfl, rfl, rfl, by decide +kernel, rfl, by decide +kernel, by decide +kernel⟩
theorem bi_law : BindZ "law" s_law ["script"] := fun _ _ _ _ _ _ us hl => match us, hl with | [_], _ => rfl
theorem kb_least_cover_0 : KBindZ "least_cover" s_least_cover ["cutters", "backs", "pairs"] ["pairs", "backs", "cutters"] 0 3 [2, 1, 0] := fun _ _ _ _ _ _ us ws h1 h2 => match us, ws, h1, h2 with | [], [_, _, _], _, _ => ⟨rfl, rfl⟩
noncomputable def g2_reached : GM := (gT 2 (gsCons (gN 10) (gsCons (gN 9) gsNil)))
noncomputable def t2_reached : TM := (mTAnd (mT (mOp vEq (mVar 10) (mVar 8))) (mT (mOp (vInX true) (mVar 9) (mVar 7))))
noncomputable def e2_reached : EM := (mVar 9)
noncomputable def g1_reached : GM := (gN 9)
noncomputable def l1_reached : SM := (sSeq (sDrop (mM "list" vAppend (mVar 7) (mCons (mVar 9) mNil)))
  (sIf (mT (mOp (vInX false) (mVar 9) (mVar 3))) (sDrop (mM "list" vAppend (mVar 5) (mCons (mOp vIxX (mVar 3) (mVar 9)) mNil))) sNil))
noncomputable def c0_reached : TM := (mT (mOp vNe (mVar 5) (mLst mNil)))
noncomputable def l0_reached : SM := (sSeq (sAsg (mM "list" vPop (mVar 5) mNil) (gN 8))
  (sSeq (sDrop (mM "list" vAppend (mVar 6) (mCons (mVar 8) mNil)))
  (sFor (mIt (mComp lcK (mIt (mVar 1)) g2_reached t2_reached e2_reached [10, 9])) g1_reached l1_reached)))
noncomputable def g3_reached : GM := (gN 10)
noncomputable def t3_reached : TM := (mT (mOp (vInX true) (mVar 10) (mVar 4)))
noncomputable def e3_reached : EM := (mVar 10)
noncomputable def g4_reached : GM := (gT 2 (gsCons (gN 10) (gsCons (gN 9) gsNil)))
noncomputable def e4_reached : EM := (mVar 10)
noncomputable def g5_reached : GM := (gT 2 (gsCons (gN 10) (gsCons (gN 9) gsNil)))
noncomputable def e5_reached : EM := (mTup (mCons (mVar 9) (mCons (mVar 10) mNil)))
noncomputable def b_reached : SM :=
  (sSeq (sAsg (mB vDictP (mCons (mComp lcK (mIt (mVar 2)) g5_reached mYes e5_reached [10, 9]) mNil)) (gN 3))
  (sSeq (sAsg (mComp lcK (mIt (mVar 2)) g4_reached mYes e4_reached [10, 9]) (gN 4))
  (sSeq (sTup 3 (mCons (mComp lcN (mIt (mVar 0)) g3_reached t3_reached e3_reached [10]) (mCons (mNew mNil) (mCons (mNew mNil) mNil))) (gsCons (gN 5) (gsCons (gN 6) (gsCons (gN 7) gsNil))))
  (sSeq (sWhile c0_reached l0_reached)
  (sGh 6 (sGh 7 (sRet (mTup (mCons (mVar 6) (mCons (mVar 7) mNil))))))))))
noncomputable def d_reached : Den := trim (body 11 b_reached)
noncomputable def g0_ljar : GM := (gN 3)
noncomputable def t0_ljar : TM := (mT (mOp vGe (mVar 3) (mOp vPow (mC (.int 10)) (mC (.int 18)))))
noncomputable def e0_ljar : EM := (mVar 3)
noncomputable def g1_ljar : GM := (gN 3)
noncomputable def l1_ljar : SM := (sAsg (mOp vMod (mB vInt (mCons (mOp vAdd (mOp vAdd (mOp vMulX (mVar 2) (mC (.int 16807))) (mOp vMulX (mVar 3) (mC (.int 3)))) (mC (.int 5))) mNil)) (mC (.int 4294967279))) (gN 2))
noncomputable def g2_ljar : GM := (gN 3)
noncomputable def e2_ljar : EM := (mIf (mT (mOp vGe (mVar 3) (mC (.int 0)))) (mOp vMulX (mC (.int 2)) (mVar 3)) (mOp vSub (mOp vMulX (mNeg (mC (.int 2))) (mVar 3)) (mC (.int 1))))
noncomputable def b_ljar : SM :=
  (sSeq (sPar [1, 2] (mCons (mComp lcK (mIt (mSl (mVar 0) oNone (oSome (mC (.int 63))))) g2_ljar mYes e2_ljar [3]) (mCons (mOp vAdd (mC (.int 51397)) (mOp vMulX (mC (.int 5)) (mB vLen (mCons (mVar 0) mNil)))) mNil)))
  (sSeq (sFor (mIt (mVar 1)) g1_ljar l1_ljar)
  (sSeq (sAsg (mComp lcN (mIt (mVar 1)) g0_ljar t0_ljar e0_ljar [3]) (gN 4))
  (sRet (mDisp (dispN [.inr "far", .inr "cells", .inr "seal", .inr "count"]) (mCons (mVar 4) (mCons (mOp vAddN (mVar 1) (mLst (mCons (mOp vAdd (mOp vMulX (mC (.int 7)) (mB vLen (mCons (mVar 1) mNil))) (mC (.int 3))) mNil))) (mCons (mVar 2) (mCons (mC (.int 0)) mNil)))))))))
noncomputable def d_ljar : Den := trim (body 5 b_ljar)
noncomputable def b_ldraw : SM :=
  (sSeq (sAsg (mOp vIxX (mVar 0) (mC (.str "far"))) (gN 2))
  (sSeq (sIf (mT (mOp vNe (mVar 2) (mLst mNil))) (sSeq (sAsg (mM "list" vPop (mVar 2) (mCons (mC (.int 0)) mNil)) (gN 6))
  (sSeq (sIf (mT (mOp vGe (mVar 6) (mVar 1))) (sDrop (mM "list" vInsert (mVar 2) (mCons (mC (.int 0)) (mCons (mOp vDiv (mVar 6) (mVar 1)) mNil)))) sNil)
  (sRet (mOp vMod (mB vInt (mCons (mVar 6) mNil)) (mVar 1))))) sNil)
  (sSeq (sAsg (mOp vAdd (mOp vIxX (mVar 0) (mC (.str "count"))) (mC (.int 1))) (gSet (mVar 0) (mC (.str "count")) vSetX))
  (sSeq (sPar [3, 4] (mCons (mOp vIxX (mVar 0) (mC (.str "count"))) (mCons (mOp vIxX (mVar 0) (mC (.str "cells"))) mNil)))
  (sSeq (sAsg (mOp vMod (mB vInt (mCons (mOp vAdd (mOp vAdd (mOp vIxX (mVar 0) (mC (.str "seal"))) (mOp vMulX (mC (.int 7919)) (mB vInt (mCons (mOp vIxX (mVar 4) (mOp vMod (mB vInt (mCons (mVar 3) mNil)) (mB vLen (mCons (mVar 4) mNil)))) mNil)))) (mOp vMulX (mC (.int 104729)) (mVar 3))) mNil)) (mC (.int 4294967291))) (gN 5))
  (sSeq (sAsg (mOp vMod (mB vInt (mCons (mOp vAdd (mOp vAdd (mOp vMulX (mVar 5) (mC (.int 22695477))) (mOp vMulX (mVar 3) (mVar 3))) (mC (.int 1))) mNil)) (mC (.int 4294967291))) (gN 5))
  (sSeq (sAsg (mOp vMod (mB vInt (mCons (mOp vAdd (mOp vMulX (mVar 5) (mC (.int 48271))) (mOp vDiv (mVar 5) (mC (.int 65536)))) mNil)) (mC (.int 4294967279))) (gN 5))
  (sRet (mOp vMod (mB vInt (mCons (mOp vDiv (mVar 5) (mC (.int 1024))) mNil)) (mVar 1))))))))))
noncomputable def d_ldraw : Den := trim (body 7 b_ldraw)
noncomputable def g3_lgreatest : GM := (gT 2 (gsCons (gN 10) (gsCons (gN 11) gsNil)))
noncomputable def l3_lgreatest : SM := (sAsg (mVar 10) (gSet (mVar 1) (mVar 11) vSetX))
noncomputable def g2_lgreatest : GM := (gT 2 (gsCons (gN 8) (gsCons (gN 9) gsNil)))
noncomputable def l2_lgreatest : SM := (sIf (mTAnd (mT (mOp vEq (mVar 8) (mVar 6))) (mT (mOp (vInX true) (mVar 9) (mVar 4)))) (sSeq (sAsg (mC (.bool true)) (gSet (mVar 4) (mVar 9) vSetX))
  (sSeq (sIf (mT (mOp (vInX true) (mVar 9) (mVar 1))) (sSeq (sFor (mIt (mOp vAdd (mVar 7) (mLst (mCons (mTup (mCons (mVar 6) (mCons (mVar 9) mNil))) mNil)))) g3_lgreatest l3_lgreatest)
  (sSeq (sAsg (mNew mNil) (gN 5))
  sBrk)) sNil)
  (sDrop (mM "list" vAppend (mVar 5) (mCons (mTup (mCons (mOp vIxX (mVar 1) (mVar 9)) (mCons (mOp vAdd (mVar 7) (mLst (mCons (mTup (mCons (mVar 6) (mCons (mVar 9) mNil))) mNil))) mNil))) mNil))))) sNil)
noncomputable def c1_lgreatest : TM := (mT (mOp vNe (mVar 5) (mLst mNil)))
noncomputable def l1_lgreatest : SM := (sSeq (sAsg (mM "list" vPop (mVar 5) mNil) (gT 2 (gsCons (gN 6) (gsCons (gN 7) gsNil))))
  (sFor (mIt (mVar 0)) g2_lgreatest l2_lgreatest))
noncomputable def g0_lgreatest : GM := (gN 3)
noncomputable def l0_lgreatest : SM := (sSeq (sPar [4, 5] (mCons mDctN (mCons (mNew (mCons (mTup (mCons (mVar 3) (mCons (mLst mNil) mNil))) mNil)) mNil)))
  (sWhile c1_lgreatest l1_lgreatest))
noncomputable def g4_lgreatest : GM := (gT 2 (gsCons (gN 3) (gsCons (gN 12) gsNil)))
noncomputable def e4_lgreatest : EM := (mTup (mCons (mVar 3) (mCons (mC (.bool true)) mNil)))
noncomputable def b_lgreatest : SM :=
  (sSeq (sPar [1, 2] (mCons mDctN (mCons (mB vSortX (mCons (mB vKeysI (mCons (mB vDictP (mCons (mComp lcK (mIt (mVar 0)) g4_lgreatest mYes e4_lgreatest [3, 12]) mNil)) mNil)) mNil)) mNil)))
  (sSeq (sFor (mIt (mVar 2)) g0_lgreatest l0_lgreatest)
  (sRet (mB vLenK (mCons (mVar 1) mNil)))))
noncomputable def d_lgreatest : Den := trim (body 13 b_lgreatest)
noncomputable def g0_lis_row : GM := (gT 2 (gsCons (gN 2) (gsCons (gN 3) gsNil)))
noncomputable def l0_lis_row : SM := (sSeq (sIf (mTOr (mTNot (mT (mIsI "int" (mVar 3)))) (mTOr (mT (mIsI "bool" (mVar 3))) (mT (mOp (vInX true) (mVar 3) (mVar 1))))) (sRet (mC (.bool false))) sNil)
  (sIf (mTAnd (mT (mOp vGt (mVar 2) (mC (.int 0)))) (mT (mOp vGe (mOp vIxX (mVar 0) (mOp vSub (mVar 2) (mC (.int 1)))) (mVar 3)))) (sRet (mC (.bool false))) sNil))
noncomputable def b_lis_row : SM :=
  (sSeq (sIf (mTNot (mT (mIsI "tuple" (mVar 0)))) (sRet (mC (.bool false))) sNil)
  (sSeq (sFor (mEnum (mCons (mVar 0) mNil)) g0_lis_row l0_lis_row)
  (sRet (mC (.bool true)))))
noncomputable def d_lis_row : Den := trim (body 4 b_lis_row)
noncomputable def g1_lleast : GM := (gT 2 (gsCons (gN 4) (gsCons (gN 7) gsNil)))
noncomputable def t1_lleast : TM := (mT (mOp (vInX true) (mVar 4) (mVar 5)))
noncomputable def e1_lleast : EM := (mTup (mCons (mVar 7) (mCons (mC (.bool true)) mNil)))
noncomputable def g0_lleast : GM := (gN 5)
noncomputable def l0_lleast : SM := (sSeq (sAsg (mB vDictP (mCons (mComp lcK (mIt (mVar 1)) g1_lleast t1_lleast e1_lleast [4, 7]) mNil)) (gN 6))
  (sAsg (mB vMin (mCons (mVar 2) (mCons (mOp vAdd (mB vLen (mCons (mVar 5) mNil)) (mB vLenK (mCons (mVar 6) mNil))) mNil))) (gN 2)))
noncomputable def g3_lleast : GM := (gN 5)
noncomputable def e3_lleast : EM := (mOp vAdd (mVar 5) (mTup (mCons (mVar 4) mNil)))
noncomputable def g2_lleast : GM := (gN 4)
noncomputable def l2_lleast : SM := (sAsg (mOp vAdd (mVar 3) (mComp lcK (mIt (mVar 3)) g3_lleast mYes e3_lleast [5])) (gN 3))
noncomputable def b_lleast : SM :=
  (sSeq (sPar [2, 3] (mCons (mB vLen (mCons (mVar 1) mNil)) (mCons (mLst (mCons (mTup mNil) mNil)) mNil)))
  (sSeq (sFor (mIt (mVar 0)) g2_lleast l2_lleast)
  (sSeq (sFor (mIt (mVar 3)) g0_lleast l0_lleast)
  (sRet (mVar 2)))))
noncomputable def d_lleast : Den := trim (body 8 b_lleast)
noncomputable def b_lpick : SM :=
  (sRet (mOp vIxX (mVar 1) (mCall 2 d_ldraw (mCons (mVar 0) (mCons (mB vLen (mCons (mVar 1) mNil)) mNil)))))
noncomputable def d_lpick : Den := trim (body 2 b_lpick)
noncomputable def b_lmixed : SM :=
  (sSeq (sPar [2, 3] (mCons (mB vListN (mCons (mVar 1) mNil)) (mCons (mNew mNil) mNil)))
  (sSeq (sWhile (mT (mOp vNe (mVar 2) (mLst mNil))) (sDrop (mM "list" vAppend (mVar 3) (mCons (mM "list" vPop (mVar 2) (mCons (mCall 2 d_ldraw (mCons (mVar 0) (mCons (mB vLen (mCons (mVar 2) mNil)) mNil))) mNil)) mNil))))
  (sGh 3 (sRet (mVar 3)))))
noncomputable def d_lmixed : Den := trim (body 4 b_lmixed)
noncomputable def g0_lis_cover : GM := (gT 2 (gsCons (gN 4) (gsCons (gN 5) gsNil)))
noncomputable def t0_lis_cover : TM := (mTAnd (mT (mOp (vInX true) (mVar 4) (mOp vIxX (mVar 0) (mC (.int 0))))) (mT (mOp (vInX true) (mVar 5) (mOp vIxX (mVar 0) (mC (.int 1))))))
noncomputable def e0_lis_cover : EM := (mC (.int 1))
noncomputable def b_lis_cover : SM :=
  (sSeq (sIf (mTOr (mTNot (mT (mIsI "tuple" (mVar 0)))) (mT (mOp vNe (mB vLen (mCons (mVar 0) mNil)) (mC (.int 2))))) (sRet (mC (.bool false))) sNil)
  (sSeq (sIf (mTOr (mTNot (mT (mCall 2 d_lis_row (mCons (mOp vIxX (mVar 0) (mC (.int 0))) (mCons (mVar 1) mNil))))) (mTNot (mT (mCall 2 d_lis_row (mCons (mOp vIxX (mVar 0) (mC (.int 1))) (mCons (mVar 2) mNil)))))) (sRet (mC (.bool false))) sNil)
  (sRet (mOp vEq (mComp lcK (mIt (mVar 3)) g0_lis_cover t0_lis_cover e0_lis_cover [4, 5]) (mLst mNil)))))
noncomputable def d_lis_cover : Den := trim (body 6 b_lis_cover)
noncomputable def g1_lgraph : GM := (gT 2 (gsCons (gN 10) (gsCons (gN 11) gsNil)))
noncomputable def l1_lgraph : SM := (sSeq (sAsg (mAnd (mOp vEq (mVar 2) (mC (.int 8))) (mOr (mOp vEq (mVar 10) (mVar 8)) (mOp vEq (mVar 10) (mOp vAdd (mVar 8) (mC (.int 1)))))) (gN 12))
  (sIf (mTOr (mT (mVar 12)) (mTAnd (mT (mOp vLt (mVar 2) (mC (.int 8)))) (mT (mOp vEq (mCall 2 d_ldraw (mCons (mVar 0) (mCons (mVar 2) mNil))) (mC (.int 0)))))) (sDrop (mM "list" vAppend (mVar 7) (mCons (mTup (mCons (mVar 9) (mCons (mVar 11) mNil))) mNil))) sNil))
noncomputable def g0_lgraph : GM := (gT 2 (gsCons (gN 8) (gsCons (gN 9) gsNil)))
noncomputable def l0_lgraph : SM := (sFor (mEnum (mCons (mVar 6) mNil)) g1_lgraph l1_lgraph)
noncomputable def b_lgraph : SM :=
  (sSeq (sPar [1, 2] (mCons (mCall 2 d_ldraw (mCons (mVar 0) (mCons (mC (.int 11)) mNil))) (mCons (mCall 2 d_lpick (mCons (mVar 0) (mCons (mLst (mCons (mC (.int 1)) (mCons (mC (.int 2)) (mCons (mC (.int 3)) (mCons (mC (.int 4)) (mCons (mC (.int 8)) mNil)))))) mNil))) mNil)))
  (sSeq (sAsg (mB vMin (mCons (mCall 2 d_ldraw (mCons (mVar 0) (mCons (mC (.int 10)) mNil))) (mCons (mOp vSub (mC (.int 16)) (mVar 1)) mNil))) (gN 3))
  (sSeq (sAsg (mCall 2 d_lmixed (mCons (mVar 0) (mCons (mLR1 (mC (.int 16))) mNil))) (gN 4))
  (sSeq (sPar [5, 6, 7] (mCons (mB vSortX (mCons (mSl (mVar 4) oNone (oSome (mVar 1))) mNil)) (mCons (mB vSortX (mCons (mSl (mVar 4) (oSome (mVar 1)) (oSome (mOp vAdd (mVar 1) (mVar 3)))) mNil)) (mCons (mNew mNil) mNil))))
  (sSeq (sFor (mEnum (mCons (mVar 5) mNil)) g0_lgraph l0_lgraph)
  (sRet (mTup (mCons (mB vTuple (mCons (mVar 5) mNil)) (mCons (mB vTuple (mCons (mVar 6) mNil)) (mCons (mB vTuple (mCons (mVar 7) mNil)) mNil))))))))))
noncomputable def d_lgraph : Den := trim (body 13 b_lgraph)
noncomputable def g0_placed (rec : Den) : GM := (gT 2 (gsCons (gN 4) (gsCons (gN 5) gsNil)))
noncomputable def l0_placed (rec : Den) : SM := (sIf (mTAnd (mT (mOp vEq (mVar 4) (mVar 0))) (mT (mOp (vInX true) (mVar 5) (mVar 3)))) (sSeq (sAsg (mC (.bool true)) (gSet (mVar 3) (mVar 5) vSetX))
  (sIf (mTOr (mT (mOp (vInX true) (mVar 5) (mVar 2))) (mT (mCall 4 rec (mCons (mOp vIxX (mVar 2) (mVar 5)) (mCons (mVar 1) (mCons (mVar 2) (mCons (mVar 3) mNil))))))) (sSeq (sAsg (mVar 0) (gSet (mVar 2) (mVar 5) vSetX))
  (sRet (mC (.bool true)))) sNil)) sNil)
noncomputable def b_placed (rec : Den) : SM :=
  (sSeq (sFor (mIt (mVar 1)) (g0_placed rec) (l0_placed rec))
  (sRet (mC (.bool false))))
noncomputable def d_placed : Nat → Den
  | 0 => fun _ _ => .bad
  | n + 1 => trim (body 6 (b_placed (d_placed n)))
noncomputable def g0_matched : GM := (gT 2 (gsCons (gN 5) (gsCons (gN 4) gsNil)))
noncomputable def e0_matched : EM := (mTup (mCons (mVar 4) (mCons (mVar 5) mNil)))
noncomputable def g1_matched : GM := (gN 4)
noncomputable def l1_matched : SM := (sDrop (mCall 4 (d_placed 18) (mCons (mVar 4) (mCons (mVar 2) (mCons (mVar 3) (mCons mDctN mNil))))))
noncomputable def b_matched : SM :=
  (sSeq (sAsg mDctN (gN 3))
  (sSeq (sFor (mIt (mVar 0)) g1_matched l1_matched)
  (sRet (mB vTuple (mCons (mB vSortX (mCons (mCompI 3 g0_matched mYes e0_matched [5, 4]) mNil)) mNil)))))
noncomputable def d_matched : Den := trim (body 6 b_matched)
noncomputable def g0_least_cover : GM := (gN 7)
noncomputable def t0_least_cover : TM := (mT (mOp (vInX false) (mVar 7) (mVar 4)))
noncomputable def e0_least_cover : EM := (mVar 7)
noncomputable def g1_least_cover : GM := (gN 6)
noncomputable def t1_least_cover : TM := (mT (mOp (vInX true) (mVar 6) (mVar 3)))
noncomputable def e1_least_cover : EM := (mVar 6)
noncomputable def b_least_cover : SM :=
  (sSeq (sAsg (mCall 3 d_reached (mCons (mVar 0) (mCons (mVar 2) (mCons (mCall 3 d_matched (mCons (mVar 0) (mCons (mVar 1) (mCons (mVar 2) mNil)))) mNil)))) (gT 2 (gsCons (gN 3) (gsCons (gN 4) gsNil))))
  (sSeq (sAsg (mB vTuple (mCons (mComp lcK (mIt (mVar 0)) g1_least_cover t1_least_cover e1_least_cover [6]) mNil)) (gN 5))
  (sRet (mTup (mCons (mVar 5) (mCons (mB vTuple (mCons (mComp lcK (mIt (mVar 1)) g0_least_cover t0_least_cover e0_least_cover [7]) mNil)) mNil))))))
noncomputable def d_least_cover : Den := trim (body 8 b_least_cover)
noncomputable def g0_law : GM := (gN 2)
noncomputable def l0_law : SM := (sSeq (sAsg (mCall 1 d_lgraph (mCons (mVar 1) mNil)) (gT 3 (gsCons (gN 3) (gsCons (gN 4) (gsCons (gN 5) gsNil)))))
  (sSeq (sPar [6, 7] (mCons (mB vRepr (mCons (mLst (mCons (mVar 3) (mCons (mVar 4) (mCons (mVar 5) mNil)))) mNil)) (mCons (mCall 1 d_lgreatest (mCons (mVar 5) mNil)) mNil)))
  (sSeq (sAsg (mCall 3 d_least_cover (mCons (mVar 3) (mCons (mVar 4) (mCons (mVar 5) mNil)))) (gN 8))
  (sSeq (sIf (mT (mOp vEq (mVar 2) (mC (.int 2)))) (sAsg (mCallK 0 3 d_least_cover [2, 1, 0] mNil (mCons (mVar 5) (mCons (mVar 4) (mCons (mVar 3) mNil)))) (gN 8)) sNil)
  (sSeq (sIf (mTOr (mTNot (mT (mCall 4 d_lis_cover (mCons (mVar 8) (mCons (mVar 3) (mCons (mVar 4) (mCons (mVar 5) mNil))))))) (mT (mOp vNe (mOp vAdd (mB vLen (mCons (mOp vIxX (mVar 8) (mC (.int 0))) mNil)) (mB vLen (mCons (mOp vIxX (mVar 8) (mC (.int 1))) mNil))) (mVar 7)))) (sRet (mC (.bool false))) sNil)
  (sSeq (sIf (mTAnd (mT (mOp vLt (mB vLen (mCons (mVar 3) mNil)) (mC (.int 6)))) (mT (mOp vNe (mCall 2 d_lleast (mCons (mVar 3) (mCons (mVar 5) mNil))) (mVar 7)))) (sRet (mC (.bool false))) sNil)
  (sIf (mTOr (mT (mOp vNe (mB vRepr (mCons (mCall 3 d_least_cover (mCons (mVar 3) (mCons (mVar 4) (mCons (mVar 5) mNil)))) mNil)) (mB vRepr (mCons (mVar 8) mNil)))) (mT (mOp vNe (mB vRepr (mCons (mLst (mCons (mVar 3) (mCons (mVar 4) (mCons (mVar 5) mNil)))) mNil)) (mVar 6)))) (sRet (mC (.bool false))) sNil)))))))
noncomputable def r_law : SM :=
  (sSeq (sFor (mRange1 (mCons (mC (.int 8)) mNil)) g0_law l0_law)
  (sRet (mC (.bool true))))
noncomputable def b_law : SM :=
  (sSeq (sAsg (mCall 1 d_ljar (mCons (mVar 0) mNil)) (gN 1))
  r_law)
noncomputable def d_law : Den := trim (body 9 b_law)
section
variable {P : Program} {w : World} {K : PySem.W.Frag} {mg : Str → Option Value} {base : Heap}
theorem ok_reached (T : Txt K mg) : DefZ P w K mg base 1 "reached" s_reached ["cutters", "pairs", "kept"] d_reached := by
  refine defY T.f_reached sc_reached (by decide) fun f cdv A outer s H E hr hG tk hp => ?_
  have sc := sc_reached
  exact (sss_cons (ss_set (i := 3) sc.nd rfl (by first | exact .inl rfl | exact .inr rfl) (se_callTy (call_dictP rfl) cz_dictP (by rfl) T.z_dict bb_dict (sa_cons (se_lc (own := [("cutter", 10), ("back", 9)]) (.inl rfl) rfl sc.nd (si_seqE (sv 2)) (blkOk_by (N := ["cutters", "pairs", "kept", "partners", "bound", "waiting", "found", "backs", "here", "back", "cutter"]) (sc := defScope s_reached) (own := [("cutter", 10), ("back", 9)]) (by decide +kernel)) (fun _ _ _ _ _ => (sgo_tup rfl (sgos_cons (sgN 10 sc.nd) (sgos_cons (sgN 9 sc.nd) sgos_nil)))) (fun _ _ _ _ _ => sts_nil) (fun _ _ _ _ _ => (se_tup (sav 9 (sav 10 sa_nil))))) sa_nil)))
    (sss_cons (ss_set (i := 4) sc.nd rfl (by first | exact .inl rfl | exact .inr rfl) (se_lc (own := [("cutter", 10), ("back", 9)]) (.inl rfl) rfl sc.nd (si_seqE (sv 2)) (blkOk_by (N := ["cutters", "pairs", "kept", "partners", "bound", "waiting", "found", "backs", "here", "back", "cutter"]) (sc := defScope s_reached) (own := [("cutter", 10), ("back", 9)]) (by decide +kernel)) (fun _ _ _ _ _ => (sgo_tup rfl (sgos_cons (sgN 10 sc.nd) (sgos_cons (sgN 9 sc.nd) sgos_nil)))) (fun _ _ _ _ _ => sts_nil) (fun _ _ _ _ _ => (sv 10))))
    (sss_cons (ss_tup rfl (sa_cons (se_lc (own := [("cutter", 10)]) (.inr rfl) rfl sc.nd (si_seqE (sv 0)) (blkOk_by (N := ["cutters", "pairs", "kept", "partners", "bound", "waiting", "found", "backs", "here", "back", "cutter"]) (sc := defScope s_reached) (own := [("cutter", 10)]) (by decide +kernel)) (fun _ _ _ _ _ => (sgN 10 sc.nd)) (fun _ _ _ _ _ => (sts_one (st_notInX (room_u65 hr) (sv 10) (sv 4)))) (fun _ _ _ _ _ => (sv 10))) (sa_cons (se_new sa_nil) (sa_cons (se_new sa_nil) sa_nil))) (sgs_cons (sg_name (pgN 5 sc.nd)) (sgs_cons (sg_name (pgN 6 sc.nd)) (sgs_cons (sg_name (pgN 7 sc.nd)) sgs_nil))))
    (sss_cons (ss_while hp (st_ne (room_u64 hr) (sv 5) (se_lst sa_nil)) (sss_cons (ss_set (i := 8) sc.nd rfl (by first | exact .inl rfl | exact .inr rfl) (se_meth0 PySem.F.plainAttrs_list PySem.F.slot_list_pop PySem.F.type_list_pop (MtR.or mt_pop mt_popAt) mz_pop (sv 5)))
    (sss_cons (ss_expr (se_meth PySem.F.plainAttrs_list PySem.F.slot_list_append PySem.F.type_list_append mt_append mz_append (sv 6) (sav 8 sa_nil)))
    (sss_one (ss_for hp rfl (si_seqE (se_lc (own := [("cutter", 10), ("back", 9)]) (.inl rfl) rfl sc.nd (si_seqE (sv 1)) (blkOk_by (N := ["cutters", "pairs", "kept", "partners", "bound", "waiting", "found", "backs", "here", "back", "cutter"]) (sc := defScope s_reached) (own := [("cutter", 10), ("back", 9)]) (by decide +kernel)) (fun _ _ _ _ _ => (sgo_tup rfl (sgos_cons (sgN 10 sc.nd) (sgos_cons (sgN 9 sc.nd) sgos_nil)))) (fun _ _ _ _ _ => (sts_one (SW.st (sw_and (st_eq (room_u64 hr) (sv 10) (sv 8)) (sw_and1 (st_notInX (room_u65 hr) (sv 9) (sv 7))))))) (fun _ _ _ _ _ => (sv 9)))) (sg_name (pgN 9 sc.nd)) (sss_cons (ss_expr (se_meth PySem.F.plainAttrs_list PySem.F.slot_list_append PySem.F.type_list_append mt_append mz_append (sv 7) (sav 9 sa_nil)))
    (sss_one (ss_if (st_inX (room_u65 hr) (sv 9) (sv 3)) (sss_one (ss_expr (se_meth PySem.F.plainAttrs_list PySem.F.slot_list_append PySem.F.type_list_append mt_append mz_append (sv 5) (sa_cons (se_ixX (room_u65 hr) (sv 3) (sv 9)) sa_nil)))) sss_nil))))))))
    (sss_one (ss_gh 6 (ss_gh 7 (ss_ret (se_tup (sav 6 (sav 7 sa_nil)))))))))))
theorem ok_ljar (T : Txt K mg) : DefZ P w K mg base 1 "_law_jar" s_ljar ["script"] d_ljar := by
  refine defY T.f_ljar sc_ljar (by decide) fun f cdv A outer s H E hr hG tk hp => ?_
  have sc := sc_ljar
  exact (sss_cons (ss_par (ps_par (i := 1) (j := 2) rfl sc.nd rfl rfl (by decide) rfl rfl (SA.pa (sa_cons (se_lc (own := [("own", 3)]) (.inl rfl) rfl sc.nd (si_seqE (se_slice (sv 0) so_none (so_some se_int))) (blkOk_by (N := ["script", "cells", "seal", "own", "far"]) (sc := defScope s_ljar) (own := [("own", 3)]) (by decide +kernel)) (fun _ _ _ _ _ => (sgN 3 sc.nd)) (fun _ _ _ _ _ => sts_nil) (fun _ _ _ _ _ => (se_if (st_ge (sv 3) se_int) (se_mulx se_int (sv 3)) (se_sub (se_mulx (se_neg se_int) (sv 3)) se_int)))) (sa_cons (se_add se_int (se_mulx se_int (se_callB call_len cz_len (by rfl) T.z_len bb_len (sav 0 sa_nil)))) sa_nil))) (by rfl)))
    (sss_cons (ss_for hp rfl (si_seqE (sv 1)) (sg_name (pgN 3 sc.nd)) (sss_one (ss_set (i := 2) sc.nd rfl (by first | exact .inl rfl | exact .inr rfl) (se_mod (se_callTy call_int1 cz_int (by rfl) T.z_int bb_int (sa_cons (se_add (se_add (se_mulx (sv 2) se_int) (se_mulx (sv 3) se_int)) se_int) sa_nil)) se_int))))
    (sss_cons (ss_setLc (i := 4) (own := [("own", 3)]) (.inr rfl) rfl sc.nd rfl rfl (sw_true rfl rfl rfl (by decide +kernel)) (si_seqE (sv 1)) (blkOk_by (N := ["script", "cells", "seal", "own", "far"]) (sc := defScope s_ljar) (own := [("own", 3)]) (by decide +kernel)) (fun _ _ _ _ _ => (sgN 3 sc.nd)) (fun _ _ _ _ _ => (sts_one (st_ge (sv 3) (se_pow se_int se_int)))) (fun _ _ _ _ _ => (sv 3)))
    (sss_one (ss_ret (se_disp (ks := [.inr "far", .inr "cells", .inr "seal", .inr "count"]) (.inr rfl) (sps_cons pe_str (sv 4) (sps_cons pe_str (se_addN (sv 1) (se_lst (sa_cons (se_add (se_mulx se_int (se_callB call_len cz_len (by rfl) T.z_len bb_len (sav 1 sa_nil))) se_int) sa_nil))) (sps_cons pe_str (sv 2) (sps_cons pe_str se_int sps_nil))))))))))
theorem ok_ldraw (T : Txt K mg) : DefZ P w K mg base 1 "_law_draw" s_ldraw ["jar", "many"] d_ldraw := by
  refine defY T.f_ldraw sc_ldraw (by decide) fun f cdv A outer s H E hr hG tk hp => ?_
  have sc := sc_ldraw
  exact (sss_cons (ss_set (i := 2) sc.nd rfl (by first | exact .inl rfl | exact .inr rfl) (se_ixX (room_u65 hr) (sv 0) se_str))
    (sss_cons (ss_if (st_ne (room_u64 hr) (sv 2) (se_lst sa_nil)) (sss_cons (ss_set (i := 6) sc.nd rfl (by first | exact .inl rfl | exact .inr rfl) (se_meth PySem.F.plainAttrs_list PySem.F.slot_list_pop PySem.F.type_list_pop (MtR.or mt_pop mt_popAt) mz_pop (sv 2) (sa_cons se_int sa_nil)))
    (sss_cons (ss_if (st_ge (sv 6) (sv 1)) (sss_one (ss_expr (se_meth PySem.F.plainAttrs_list PySem.F.slot_list_insert PySem.F.type_list_insert mt_insert mz_insert (sv 2) (sa_cons se_int (sa_cons (se_fdiv (sv 6) (sv 1)) sa_nil))))) sss_nil)
    (sss_one (ss_ret (se_mod (se_callTy call_int1 cz_int (by rfl) T.z_int bb_int (sav 6 sa_nil)) (sv 1)))))) sss_nil)
    (sss_cons (ss_asg (se_add (se_ixX (room_u65 hr) (sv 0) se_str) se_int) (sg_sub (fun _ => (sv 0)) (fun _ => se_str) (set_X (room_u65 hr)) sz_X))
    (sss_cons (ss_par (ps_par (i := 3) (j := 4) rfl sc.nd rfl rfl (by decide) rfl rfl (SA.pa (sa_cons (se_ixX (room_u65 hr) (sv 0) se_str) (sa_cons (se_ixX (room_u65 hr) (sv 0) se_str) sa_nil))) (by rfl)))
    (sss_cons (ss_set (i := 5) sc.nd rfl (by first | exact .inl rfl | exact .inr rfl) (se_mod (se_callTy call_int1 cz_int (by rfl) T.z_int bb_int (sa_cons (se_add (se_add (se_ixX (room_u65 hr) (sv 0) se_str) (se_mulx se_int (se_callTy call_int1 cz_int (by rfl) T.z_int bb_int (sa_cons (se_ixX (room_u65 hr) (sv 4) (se_mod (se_callTy call_int1 cz_int (by rfl) T.z_int bb_int (sav 3 sa_nil)) (se_callB call_len cz_len (by rfl) T.z_len bb_len (sav 4 sa_nil)))) sa_nil)))) (se_mulx se_int (sv 3))) sa_nil)) se_int))
    (sss_cons (ss_set (i := 5) sc.nd rfl (by first | exact .inl rfl | exact .inr rfl) (se_mod (se_callTy call_int1 cz_int (by rfl) T.z_int bb_int (sa_cons (se_add (se_add (se_mulx (sv 5) se_int) (se_mulx (sv 3) (sv 3))) se_int) sa_nil)) se_int))
    (sss_cons (ss_set (i := 5) sc.nd rfl (by first | exact .inl rfl | exact .inr rfl) (se_mod (se_callTy call_int1 cz_int (by rfl) T.z_int bb_int (sa_cons (se_add (se_mulx (sv 5) se_int) (se_fdiv (sv 5) se_int)) sa_nil)) se_int))
    (sss_one (ss_ret (se_mod (se_callTy call_int1 cz_int (by rfl) T.z_int bb_int (sa_cons (se_fdiv (sv 5) se_int) sa_nil)) (sv 1)))))))))))
theorem ok_lgreatest (T : Txt K mg) : DefZ P w K mg base 1 "_law_greatest" s_lgreatest ["pairs"] d_lgreatest := by
  refine defY T.f_lgreatest sc_lgreatest (by decide) fun f cdv A outer s H E hr hG tk hp => ?_
  have sc := sc_lgreatest
  exact (sss_cons (ss_par (ps_par (i := 1) (j := 2) rfl sc.nd rfl rfl (by decide) rfl rfl (SA.pa (sa_cons se_dctN (sa_cons (se_callB (CallR.or (CallR.or cr_sortedI cr_sortedPO) cr_sortT3) cz_sortX (by rfl) T.z_sorted bb_sorted (sa_cons (se_callTy (call_listD rfl) cz_keysIc (by rfl) T.z_list bb_list (sa_cons (se_callTy (call_dictP rfl) cz_dictP (by rfl) T.z_dict bb_dict (sa_cons (se_lc (own := [("one", 3), ("other", 12)]) (.inl rfl) rfl sc.nd (si_seqE (sv 0)) (blkOk_by (N := ["pairs", "mates", "lefts", "one", "seen", "rows", "here", "steps", "left", "right", "mine", "goal", "other"]) (sc := defScope s_lgreatest) (own := [("one", 3), ("other", 12)]) (by decide +kernel)) (fun _ _ _ _ _ => (sgo_tup rfl (sgos_cons (sgN 3 sc.nd) (sgos_cons (sgN 12 sc.nd) sgos_nil)))) (fun _ _ _ _ _ => sts_nil) (fun _ _ _ _ _ => (se_tup (sav 3 (sa_cons se_bl sa_nil))))) sa_nil)) sa_nil)) sa_nil)) sa_nil))) (by rfl)))
    (sss_cons (ss_for hp rfl (si_seqE (sv 2)) (sg_name (pgN 3 sc.nd)) (sss_cons (ss_par (ps_par (i := 4) (j := 5) rfl sc.nd rfl rfl (by decide) rfl rfl (SA.pa (sa_cons se_dctN (sa_cons (se_new (sa_cons (se_tup (sav 3 (sa_cons (se_lst sa_nil) sa_nil))) sa_nil)) sa_nil))) (by rfl)))
    (sss_one (ss_while hp (st_ne (room_u64 hr) (sv 5) (se_lst sa_nil)) (sss_cons (ss_asg (se_meth0 PySem.F.plainAttrs_list PySem.F.slot_list_pop PySem.F.type_list_pop (MtR.or mt_pop mt_popAt) mz_pop (sv 5)) (sg_tup rfl (sgs_cons (sg_name (pgN 6 sc.nd)) (sgs_cons (sg_name (pgN 7 sc.nd)) sgs_nil))))
    (sss_one (ss_for hp rfl (si_seqE (sv 0)) (sg_tup rfl (sgs_cons (sg_name (pgN 8 sc.nd)) (sgs_cons (sg_name (pgN 9 sc.nd)) sgs_nil))) (sss_one (ss_if (SW.st (sw_and (st_eq (room_u64 hr) (sv 8) (sv 6)) (sw_and1 (st_notInX (room_u65 hr) (sv 9) (sv 4))))) (sss_cons (ss_asg se_bl (sg_sub (fun _ => (sv 4)) (fun _ => (sv 9)) (set_X (room_u65 hr)) sz_X))
    (sss_cons (ss_if (st_notInX (room_u65 hr) (sv 9) (sv 1)) (sss_cons (ss_for hp rfl (si_seqE (se_add (sv 7) (se_lst (sa_cons (se_tup (sav 6 (sav 9 sa_nil))) sa_nil)))) (sg_tup rfl (sgs_cons (sg_name (pgN 10 sc.nd)) (sgs_cons (sg_name (pgN 11 sc.nd)) sgs_nil))) (sss_one (ss_asg (sv 10) (sg_sub (fun _ => (sv 1)) (fun _ => (sv 11)) (set_X (room_u65 hr)) sz_X))))
    (sss_cons (ss_set (i := 5) sc.nd rfl (by first | exact .inl rfl | exact .inr rfl) (se_new sa_nil))
    (sss_one ss_break))) sss_nil)
    (sss_one (ss_expr (se_meth PySem.F.plainAttrs_list PySem.F.slot_list_append PySem.F.type_list_append mt_append mz_append (sv 5) (sa_cons (se_tup (sa_cons (se_ixX (room_u65 hr) (sv 1) (sv 9)) (sa_cons (se_add (sv 7) (se_lst (sa_cons (se_tup (sav 6 (sav 9 sa_nil))) sa_nil))) sa_nil))) sa_nil)))))) sss_nil)))))))))
    (sss_one (ss_ret (se_callB call_lenR cz_lenKc (by rfl) T.z_len bb_len (sav 1 sa_nil))))))
theorem ok_lis_row (T : Txt K mg) : DefZ P w K mg base 1 "_law_is_row" s_lis_row ["value", "menu"] d_lis_row := by
  refine defY T.f_lis_row sc_lis_row (by decide) fun f cdv A outer s H E hr hG tk hp => ?_
  have sc := sc_lis_row
  exact (sss_cons (ss_if (st_not (st_val (se_isinst (T := "tuple") (by decide) (by rfl) T.z_isinstance (by rfl) T.z_tuple bb_tuple (sv 0)))) (sss_one (ss_ret se_bl)) sss_nil)
    (sss_cons (ss_for hp rfl (si_enumE (by rfl) T.z_enumerate (sav 0 sa_nil)) (sg_tup rfl (sgs_cons (sg_name (pgN 2 sc.nd)) (sgs_cons (sg_name (pgN 3 sc.nd)) sgs_nil))) (sss_cons (ss_if (SW.st (sw_or (st_not (st_val (se_isinst (T := "int") (by decide) (by rfl) T.z_isinstance (by rfl) T.z_int bb_int (sv 3)))) (sw_or (st_val (se_isinst (T := "bool") (by decide) (by rfl) T.z_isinstance (by rfl) T.z_bool bb_bool (sv 3))) (sw_or1 (st_notInX (room_u65 hr) (sv 3) (sv 1)))))) (sss_one (ss_ret se_bl)) sss_nil)
    (sss_one (ss_if (SW.st (sw_and (st_gt (sv 2) se_int) (sw_and1 (st_ge (se_ixX (room_u65 hr) (sv 0) (se_sub (sv 2) se_int)) (sv 3))))) (sss_one (ss_ret se_bl)) sss_nil))))
    (sss_one (ss_ret se_bl))))
theorem ok_lleast (T : Txt K mg) : DefZ P w K mg base 1 "_law_least" s_lleast ["cutters", "pairs"] d_lleast := by
  refine defY T.f_lleast sc_lleast (by decide) fun f cdv A outer s H E hr hG tk hp => ?_
  have sc := sc_lleast
  exact (sss_cons (ss_par (ps_par (i := 2) (j := 3) rfl sc.nd rfl rfl (by decide) rfl rfl (SA.pa (sa_cons (se_callB call_len cz_len (by rfl) T.z_len bb_len (sav 1 sa_nil)) (sa_cons (se_lst (sa_cons (se_tup sa_nil) sa_nil)) sa_nil))) (by rfl)))
    (sss_cons (ss_for hp rfl (si_seqE (sv 0)) (sg_name (pgN 4 sc.nd)) (sss_one (ss_set (i := 3) sc.nd rfl (by first | exact .inl rfl | exact .inr rfl) (se_add (sv 3) (se_lc (own := [("row", 5)]) (.inl rfl) rfl sc.nd (si_seqE (sv 3)) (blkOk_by (N := ["cutters", "pairs", "found", "rows", "one", "row", "rest", "other"]) (sc := defScope s_lleast) (own := [("row", 5)]) (by decide +kernel)) (fun _ _ _ _ _ => (sgN 5 sc.nd)) (fun _ _ _ _ _ => sts_nil) (fun _ _ _ _ _ => (se_add (sv 5) (se_tup (sav 4 sa_nil)))))))))
    (sss_cons (ss_for hp rfl (si_seqE (sv 3)) (sg_name (pgN 5 sc.nd)) (sss_cons (ss_set (i := 6) sc.nd rfl (by first | exact .inl rfl | exact .inr rfl) (se_callTy (call_dictP rfl) cz_dictP (by rfl) T.z_dict bb_dict (sa_cons (se_lc (own := [("one", 4), ("other", 7)]) (.inl rfl) rfl sc.nd (si_seqE (sv 1)) (blkOk_by (N := ["cutters", "pairs", "found", "rows", "one", "row", "rest", "other"]) (sc := defScope s_lleast) (own := [("one", 4), ("other", 7)]) (by decide +kernel)) (fun _ _ _ _ _ => (sgo_tup rfl (sgos_cons (sgN 4 sc.nd) (sgos_cons (sgN 7 sc.nd) sgos_nil)))) (fun _ _ _ _ _ => (sts_one (st_notInX (room_u65 hr) (sv 4) (sv 5)))) (fun _ _ _ _ _ => (se_tup (sav 7 (sa_cons se_bl sa_nil))))) sa_nil)))
    (sss_one (ss_set (i := 2) sc.nd rfl (by first | exact .inl rfl | exact .inr rfl) (se_callB (call_min2 rfl) cz_i2 (by rfl) T.z_min bb_min (sav 2 (sa_cons (se_add (se_callB call_len cz_len (by rfl) T.z_len bb_len (sav 5 sa_nil)) (se_callB call_lenR cz_lenKc (by rfl) T.z_len bb_len (sav 6 sa_nil))) sa_nil)))))))
    (sss_one (ss_ret (sv 2))))))
theorem ok_lpick (T : Txt K mg) : DefZ P w K mg base 2 "_law_pick" s_lpick ["jar", "row"] d_lpick := by
  refine defY T.f_lpick sc_lpick (by decide) fun f cdv A outer s H E hr hG tk hp => ?_
  have sc := sc_lpick
  exact (sss_one (ss_ret (se_ixX (room_u65 hr) (sv 1) (se_callD (ok_ldraw T) bi_ldraw (hr.mono (by decide)) hG tk (by rfl) (sav 0 (sa_cons (se_callB call_len cz_len (by rfl) T.z_len bb_len (sav 1 sa_nil)) sa_nil))))))
theorem ok_lmixed (T : Txt K mg) : DefZ P w K mg base 2 "_law_mixed" s_lmixed ["jar", "row"] d_lmixed := by
  refine defY T.f_lmixed sc_lmixed (by decide) fun f cdv A outer s H E hr hG tk hp => ?_
  have sc := sc_lmixed
  exact (sss_cons (ss_par (ps_par (i := 2) (j := 3) rfl sc.nd rfl rfl (by decide) rfl rfl (SA.pa (sa_cons (se_callTy call_list_of cz_listN (by rfl) T.z_list bb_list (sav 1 sa_nil)) (sa_cons (se_new sa_nil) sa_nil))) (by rfl)))
    (sss_cons (ss_while hp (st_ne (room_u64 hr) (sv 2) (se_lst sa_nil)) (sss_one (ss_expr (se_meth PySem.F.plainAttrs_list PySem.F.slot_list_append PySem.F.type_list_append mt_append mz_append (sv 3) (sa_cons (se_meth PySem.F.plainAttrs_list PySem.F.slot_list_pop PySem.F.type_list_pop (MtR.or mt_pop mt_popAt) mz_pop (sv 2) (sa_cons (se_callD (ok_ldraw T) bi_ldraw (hr.mono (by decide)) hG tk (by rfl) (sav 0 (sa_cons (se_callB call_len cz_len (by rfl) T.z_len bb_len (sav 2 sa_nil)) sa_nil))) sa_nil)) sa_nil)))))
    (sss_one (ss_gh 3 (ss_ret (sv 3))))))
theorem ok_lis_cover (T : Txt K mg) : DefZ P w K mg base 2 "_law_is_cover" s_lis_cover ["value", "cutters", "backs", "pairs"] d_lis_cover := by
  refine defY T.f_lis_cover sc_lis_cover (by decide) fun f cdv A outer s H E hr hG tk hp => ?_
  have sc := sc_lis_cover
  exact (sss_cons (ss_if (SW.st (sw_or (st_not (st_val (se_isinst (T := "tuple") (by decide) (by rfl) T.z_isinstance (by rfl) T.z_tuple bb_tuple (sv 0)))) (sw_or1 (st_ne (room_u64 hr) (se_callB call_len cz_len (by rfl) T.z_len bb_len (sav 0 sa_nil)) se_int)))) (sss_one (ss_ret se_bl)) sss_nil)
    (sss_cons (ss_if (SW.st (sw_or (st_not (st_val (se_callD (ok_lis_row T) bi_lis_row (hr.mono (by decide)) hG tk (by rfl) (sa_cons (se_ixX (room_u65 hr) (sv 0) se_int) (sav 1 sa_nil))))) (sw_or1 (st_not (st_val (se_callD (ok_lis_row T) bi_lis_row (hr.mono (by decide)) hG tk (by rfl) (sa_cons (se_ixX (room_u65 hr) (sv 0) se_int) (sav 2 sa_nil)))))))) (sss_one (ss_ret se_bl)) sss_nil)
    (sss_one (ss_ret (se_eq (room_u64 hr) (se_lc (own := [("one", 4), ("other", 5)]) (.inl rfl) rfl sc.nd (si_seqE (sv 3)) (blkOk_by (N := ["value", "cutters", "backs", "pairs", "one", "other"]) (sc := defScope s_lis_cover) (own := [("one", 4), ("other", 5)]) (by decide +kernel)) (fun _ _ _ _ _ => (sgo_tup rfl (sgos_cons (sgN 4 sc.nd) (sgos_cons (sgN 5 sc.nd) sgos_nil)))) (fun _ _ _ _ _ => (sts_one (SW.st (sw_and (st_notInX (room_u65 hr) (sv 4) (se_ixX (room_u65 hr) (sv 0) se_int)) (sw_and1 (st_notInX (room_u65 hr) (sv 5) (se_ixX (room_u65 hr) (sv 0) se_int))))))) (fun _ _ _ _ _ => se_int)) (se_lst sa_nil))))))
theorem ok_lgraph (T : Txt K mg) : DefZ P w K mg base 3 "_law_graph" s_lgraph ["jar"] d_lgraph := by
  refine defY T.f_lgraph sc_lgraph (by decide) fun f cdv A outer s H E hr hG tk hp => ?_
  have sc := sc_lgraph
  exact (sss_cons (ss_par (ps_par (i := 1) (j := 2) rfl sc.nd rfl rfl (by decide) rfl rfl (SA.pa (sa_cons (se_callD (ok_ldraw T) bi_ldraw (hr.mono (by decide)) hG tk (by rfl) (sav 0 (sa_cons se_int sa_nil))) (sa_cons (se_callD (ok_lpick T) bi_lpick (hr.mono (by decide)) hG tk (by rfl) (sav 0 (sa_cons (se_lst (sa_cons se_int (sa_cons se_int (sa_cons se_int (sa_cons se_int (sa_cons se_int sa_nil)))))) sa_nil))) sa_nil))) (by rfl)))
    (sss_cons (ss_set (i := 3) sc.nd rfl (by first | exact .inl rfl | exact .inr rfl) (se_callB (call_min2 rfl) cz_i2 (by rfl) T.z_min bb_min (sa_cons (se_callD (ok_ldraw T) bi_ldraw (hr.mono (by decide)) hG tk (by rfl) (sav 0 (sa_cons se_int sa_nil))) (sa_cons (se_sub se_int (sv 1)) sa_nil))))
    (sss_cons (ss_set (i := 4) sc.nd rfl (by first | exact .inl rfl | exact .inr rfl) (se_callD (ok_lmixed T) bi_lmixed (hr.mono (by decide)) hG tk (by rfl) (sav 0 (sa_cons (se_lr1 rfl (by rfl) T.z_list (by rfl) T.z_range se_int) sa_nil))))
    (sss_cons (ss_par3 (ps_par3 (i := 5) (j := 6) (l := 7) rfl sc.nd rfl rfl rfl (by decide) (by decide) (by decide) rfl rfl rfl (SA.pa (sa_cons (se_callB (CallR.or (CallR.or cr_sortedI cr_sortedPO) cr_sortT3) cz_sortX (by rfl) T.z_sorted bb_sorted (sa_cons (se_slice (sv 4) so_none (so_some (sv 1))) sa_nil)) (sa_cons (se_callB (CallR.or (CallR.or cr_sortedI cr_sortedPO) cr_sortT3) cz_sortX (by rfl) T.z_sorted bb_sorted (sa_cons (se_slice (sv 4) (so_some (sv 1)) (so_some (se_add (sv 1) (sv 3)))) sa_nil)) (sa_cons (se_new sa_nil) sa_nil)))) (by rfl)))
    (sss_cons (ss_for hp rfl (si_enumE (by rfl) T.z_enumerate (sav 5 sa_nil)) (sg_tup rfl (sgs_cons (sg_name (pgN 8 sc.nd)) (sgs_cons (sg_name (pgN 9 sc.nd)) sgs_nil))) (sss_one (ss_for hp rfl (si_enumE (by rfl) T.z_enumerate (sav 6 sa_nil)) (sg_tup rfl (sgs_cons (sg_name (pgN 10 sc.nd)) (sgs_cons (sg_name (pgN 11 sc.nd)) sgs_nil))) (sss_cons (ss_set (i := 12) sc.nd rfl (by first | exact .inl rfl | exact .inr rfl) (se_and (se_eq (room_u64 hr) (sv 2) se_int) (se_one (se_or (se_eq (room_u64 hr) (sv 10) (sv 8)) (se_one (se_eq (room_u64 hr) (sv 10) (se_add (sv 8) se_int)))))))
    (sss_one (ss_if (SW.st (sw_or (st_val (sv 12)) (sw_or1 (SW.st (sw_and (st_lt (sv 2) se_int) (sw_and1 (st_eq (room_u64 hr) (se_callD (ok_ldraw T) bi_ldraw (hr.mono (by decide)) hG tk (by rfl) (sav 0 (sav 2 sa_nil))) se_int))))))) (sss_one (ss_expr (se_meth PySem.F.plainAttrs_list PySem.F.slot_list_append PySem.F.type_list_append mt_append mz_append (sv 7) (sa_cons (se_tup (sav 9 (sav 11 sa_nil))) sa_nil)))) sss_nil))))))
    (sss_one (ss_ret (se_tup (sa_cons (se_callTy call_tuple_of cz_tuple (by rfl) T.z_tuple bb_tuple (sav 5 sa_nil)) (sa_cons (se_callTy call_tuple_of cz_tuple (by rfl) T.z_tuple bb_tuple (sav 6 sa_nil)) (sa_cons (se_callTy call_tuple_of cz_tuple (by rfl) T.z_tuple bb_tuple (sav 7 sa_nil)) sa_nil)))))))))))
theorem ok_placed (T : Txt K mg) (n : Nat) : DefZ P w K mg base (0 + n) "placed" s_placed ["cutter", "pairs", "mates", "seen"] (d_placed n) := by
  suffices step : ∀ n, DefZ P w K mg base (0 + n) "placed" s_placed ["cutter", "pairs", "mates", "seen"] (d_placed n) → DefZ P w K mg base (0 + (n + 1)) "placed" s_placed ["cutter", "pairs", "mates", "seen"] (d_placed (n + 1)) from Nat.rec (defZ_bad T.f_placed) step n
  intro n ih
  refine defY T.f_placed sc_placed (by decide) fun f cdv A outer s H E hr hG tk hp => ?_
  have sc := sc_placed
  exact (sss_cons (ss_for hp rfl (si_seqE (sv 1)) (sg_tup rfl (sgs_cons (sg_name (pgN 4 sc.nd)) (sgs_cons (sg_name (pgN 5 sc.nd)) sgs_nil))) (sss_one (ss_if (SW.st (sw_and (st_eq (room_u64 hr) (sv 4) (sv 0)) (sw_and1 (st_notInX (room_u65 hr) (sv 5) (sv 3))))) (sss_cons (ss_asg se_bl (sg_sub (fun _ => (sv 3)) (fun _ => (sv 5)) (set_X (room_u65 hr)) sz_X))
    (sss_one (ss_if (SW.st (sw_or (st_notInX (room_u65 hr) (sv 5) (sv 2)) (sw_or1 (st_val (se_callD ih bi_placed hr hG tk (by rfl) (sa_cons (se_ixX (room_u65 hr) (sv 2) (sv 5)) (sav 1 (sav 2 (sav 3 sa_nil))))))))) (sss_cons (ss_asg (sv 0) (sg_sub (fun _ => (sv 2)) (fun _ => (sv 5)) (set_X (room_u65 hr)) sz_X))
    (sss_one (ss_ret se_bl))) sss_nil))) sss_nil)))
    (sss_one (ss_ret se_bl)))
theorem ok_matched (T : Txt K mg) : DefZ P w K mg base 19 "matched" s_matched ["cutters", "backs", "pairs"] d_matched := by
  refine defY T.f_matched sc_matched (by decide) fun f cdv A outer s H E hr hG tk hp => ?_
  have sc := sc_matched
  exact (sss_cons (ss_set (i := 3) sc.nd rfl (by first | exact .inl rfl | exact .inr rfl) se_dctN)
    (sss_cons (ss_for hp rfl (si_seqE (sv 0)) (sg_name (pgN 4 sc.nd)) (sss_one (ss_expr (se_callD (ok_placed T 18) bi_placed (hr.mono (by decide)) hG tk (by rfl) (sav 4 (sav 2 (sav 3 (sa_cons se_dctN sa_nil))))))))
    (sss_one (ss_ret (se_callTy call_tuple_of cz_tuple (by rfl) T.z_tuple bb_tuple (sa_cons (se_callB (CallR.or (CallR.or cr_sortedI cr_sortedPO) cr_sortT3) cz_sortX (by rfl) T.z_sorted bb_sorted (sa_cons (se_lcI (i := 3) (own := [("back", 5), ("cutter", 4)]) rfl sc.nd (pv 3) (blkOk_by (N := ["cutters", "backs", "pairs", "mates", "cutter", "back"]) (sc := defScope s_matched) (own := [("back", 5), ("cutter", 4)]) (by decide +kernel)) (fun _ _ _ _ _ => (sgo_tup rfl (sgos_cons (sgN 5 sc.nd) (sgos_cons (sgN 4 sc.nd) sgos_nil)))) (fun _ _ _ _ _ => sts_nil) (fun _ _ _ _ _ => (se_tup (sav 4 (sav 5 sa_nil))))) sa_nil)) sa_nil))))))
theorem ok_least_cover (T : Txt K mg) : DefZ P w K mg base 20 "least_cover" s_least_cover ["cutters", "backs", "pairs"] d_least_cover := by
  refine defY T.f_least_cover sc_least_cover (by decide) fun f cdv A outer s H E hr hG tk hp => ?_
  have sc := sc_least_cover
  exact (sss_cons (ss_asg (se_callD (ok_reached T) bi_reached (hr.mono (by decide)) hG tk (by rfl) (sav 0 (sav 2 (sa_cons (se_callD (ok_matched T) bi_matched (hr.mono (by decide)) hG tk (by rfl) (sav 0 (sav 1 (sav 2 sa_nil)))) sa_nil)))) (sg_tup rfl (sgs_cons (sg_name (pgN 3 sc.nd)) (sgs_cons (sg_name (pgN 4 sc.nd)) sgs_nil))))
    (sss_cons (ss_set (i := 5) sc.nd rfl (by first | exact .inl rfl | exact .inr rfl) (se_callTy call_tuple_of cz_tuple (by rfl) T.z_tuple bb_tuple (sa_cons (se_lc (own := [("cutter", 6)]) (.inl rfl) rfl sc.nd (si_seqE (sv 0)) (blkOk_by (N := ["cutters", "backs", "pairs", "found", "come", "pieces", "cutter", "back"]) (sc := defScope s_least_cover) (own := [("cutter", 6)]) (by decide +kernel)) (fun _ _ _ _ _ => (sgN 6 sc.nd)) (fun _ _ _ _ _ => (sts_one (st_notInX (room_u65 hr) (sv 6) (sv 3)))) (fun _ _ _ _ _ => (sv 6))) sa_nil)))
    (sss_one (ss_ret (se_tup (sav 5 (sa_cons (se_callTy call_tuple_of cz_tuple (by rfl) T.z_tuple bb_tuple (sa_cons (se_lc (own := [("back", 7)]) (.inl rfl) rfl sc.nd (si_seqE (sv 1)) (blkOk_by (N := ["cutters", "backs", "pairs", "found", "come", "pieces", "cutter", "back"]) (sc := defScope s_least_cover) (own := [("back", 7)]) (by decide +kernel)) (fun _ _ _ _ _ => (sgN 7 sc.nd)) (fun _ _ _ _ _ => (sts_one (st_inX (room_u65 hr) (sv 7) (sv 4)))) (fun _ _ _ _ _ => (sv 7))) sa_nil)) sa_nil)))))))
theorem ok_law (T : Txt K mg) : DefZ P w K mg base 21 "law" s_law ["script"] d_law := by
  refine defY T.f_law sc_law (by decide) fun f cdv A outer s H E hr hG tk hp => ?_
  have sc := sc_law
  exact (sss_cons (ss_set (i := 1) sc.nd rfl (by first | exact .inl rfl | exact .inr rfl) (se_callD (ok_ljar T) bi_ljar (hr.mono (by decide)) hG tk (by rfl) (sav 0 sa_nil)))
    (sss_cons (ss_for hp rfl (si_range1E (by rfl) T.z_range (sa_cons se_int sa_nil)) (sg_name (pgN 2 sc.nd)) (sss_cons (ss_asg (se_callD (ok_lgraph T) bi_lgraph (hr.mono (by decide)) hG tk (by rfl) (sav 1 sa_nil)) (sg_tup rfl (sgs_cons (sg_name (pgN 3 sc.nd)) (sgs_cons (sg_name (pgN 4 sc.nd)) (sgs_cons (sg_name (pgN 5 sc.nd)) sgs_nil)))))
    (sss_cons (ss_par (ps_par (i := 6) (j := 7) rfl sc.nd rfl rfl (by decide) rfl rfl (SA.pa (sa_cons (se_callB (call_reprZ hG (room_u70 hr)) cz_repr (by rfl) T.z_repr bb_repr (sa_cons (se_lst (sav 3 (sav 4 (sav 5 sa_nil)))) sa_nil)) (sa_cons (se_callD (ok_lgreatest T) bi_lgreatest (hr.mono (by decide)) hG tk (by rfl) (sav 5 sa_nil)) sa_nil))) (by rfl)))
    (sss_cons (ss_set (i := 8) sc.nd rfl (by first | exact .inl rfl | exact .inr rfl) (se_callD (ok_least_cover T) bi_least_cover (hr.mono (by decide)) hG tk (by rfl) (sav 3 (sav 4 (sav 5 sa_nil)))))
    (sss_cons (ss_if (st_eq (room_u64 hr) (sv 2) se_int) (sss_one (ss_set (i := 8) sc.nd rfl (by first | exact .inl rfl | exact .inr rfl) (se_callDK0 (ok_least_cover T) kb_least_cover_0 (hr.mono (by decide)) hG tk (by rfl) (sk_cons (sv 5) (sk_cons (sv 4) (sk_cons (sv 3) sk_nil)))))) sss_nil)
    (sss_cons (ss_if (SW.st (sw_or (st_not (st_val (se_callD (ok_lis_cover T) bi_lis_cover (hr.mono (by decide)) hG tk (by rfl) (sav 8 (sav 3 (sav 4 (sav 5 sa_nil))))))) (sw_or1 (st_ne (room_u64 hr) (se_add (se_callB call_len cz_len (by rfl) T.z_len bb_len (sa_cons (se_ixX (room_u65 hr) (sv 8) se_int) sa_nil)) (se_callB call_len cz_len (by rfl) T.z_len bb_len (sa_cons (se_ixX (room_u65 hr) (sv 8) se_int) sa_nil))) (sv 7))))) (sss_one (ss_ret se_bl)) sss_nil)
    (sss_cons (ss_if (SW.st (sw_and (st_lt (se_callB call_len cz_len (by rfl) T.z_len bb_len (sav 3 sa_nil)) se_int) (sw_and1 (st_ne (room_u64 hr) (se_callD (ok_lleast T) bi_lleast (hr.mono (by decide)) hG tk (by rfl) (sav 3 (sav 5 sa_nil))) (sv 7))))) (sss_one (ss_ret se_bl)) sss_nil)
    (sss_one (ss_if (SW.st (sw_or (st_ne (room_u64 hr) (se_callB (call_reprZ hG (room_u70 hr)) cz_repr (by rfl) T.z_repr bb_repr (sa_cons (se_callD (ok_least_cover T) bi_least_cover (hr.mono (by decide)) hG tk (by rfl) (sav 3 (sav 4 (sav 5 sa_nil)))) sa_nil)) (se_callB (call_reprZ hG (room_u70 hr)) cz_repr (by rfl) T.z_repr bb_repr (sav 8 sa_nil))) (sw_or1 (st_ne (room_u64 hr) (se_callB (call_reprZ hG (room_u70 hr)) cz_repr (by rfl) T.z_repr bb_repr (sa_cons (se_lst (sav 3 (sav 4 (sav 5 sa_nil)))) sa_nil)) (sv 6))))) (sss_one (ss_ret se_bl)) sss_nil)))))))))
    (sss_one (ss_ret se_bl))))
end
end Zl
namespace Zl
open PySem PySem.Spec PyProof.Rows L2 Zm
open WM (pu bd)
open LO (lf)
/-! ### the jar is laid -/
def natV (y : Val) : Prop := ∃ x, y = .d x ∧ ∃ i : Int, x = .int i ∧ 0 ≤ i
theorem jar_ok {ns : List Int} (hl : ns.length ≤ 63) : ∃ q : Jq, d_ljar [.scr ns] [] = .ok (.obj 2) (q.mem []) ∧ q.n = 0 := by
  obtain ⟨ys, M1, e1, rfl, hR, hyl⟩ := compL_inv (g := g2_ljar) (t := mYes) (e := e2_ljar) (s0 := [some (.scr ns), none, none, none, none]) (fun M => M = []) natV ((cutL (ns.map PyData.int) none (some 63)).map .d) (by
    rintro v hv M rfl
    obtain ⟨x, hx, rfl⟩ := List.mem_map.mp hv
    obtain ⟨i, hi, rfl⟩ := List.mem_map.mp ((cutL_sub _ _ _).mem hx)
    refine ⟨_, _, rfl, _, _, rfl, ?_⟩
    rw [if_pos rfl]
    unfold e2_ljar
    simp only [z_bok, z_bsok, z_bbad, z_bsbad, z_seqbad, z_outbad, z_asgbad, small_fmod, small_lit, fits_le, smallR_lit, z_na64, z_bif, z_bsif, z_noer, z_seqn, z_seqr, z_seqif, z_outr, z_outn, z_outif, z_C, z_op, z_T, z_tand, z_tor, z_tnot, z_and, z_or, z_not, z_if, z_nil, z_cons, z_tup, z_lst, z_new, z_allD0, z_allD1, z_map, z_sNil, z_sSeq, z_sIf, z_sDrop, z_sRet, z_sAsg, z_asg, z_asgif, z_sPar, z_gN, z_gT, z_gsNil, z_gsCons, z_obind, z_gSet, z_B, z_It, z_Enum, z_R1, z_R2, z_r1, z_r2, z_Comp, z_For, z_Yes, z_M, z_Sl, z_oN, z_oS, z_Rev, z_Neg, z_IsI, z_call, z_callK, z_chain, z_body, z_rdd, z_rds, z_int, z_vI, z_vB, z_le, z_eqi, z_nei, z_nes, z_eqs, z_vInt, z_vI2, z_isN, z_notN, z_enumt, z_enuml, z_itl, z_itt, z_its, z_ixt0, z_ixt1, z_ixt2, z_lenl, z_lent, z_tyt, z_tyl, z_tyd, z_tyi, z_tyb, z_tys, z_tyn, isT_tt, isT_lt, isT_dt, isT_it, isT_bt, isT_st, isT_nt, isT_ti, isT_li, isT_di, isT_ii, isT_bi, isT_si, isT_ni, isT_tb, isT_lb, isT_db, isT_ib, isT_bb, isT_sb, isT_nb, isT_ts, isT_ls, isT_ds, isT_is, isT_bs, isT_ss, isT_ns, z_forn, z_mulx, z_lr1, z_lr1N, okR_le, dk_get, dk_set, dk_add, dk_ll, z_rdo, z_tyo, z_app, z_ext, z_star, z_lr2, z_listN, z_sqt, z_sql, z_leno, z_frz, fzL_d, z_lens, z_sls, z_sll, z_addl, z_addt, z_na10, z_dct0, z_disp, z_disp1, z_slt, z_revt, dk_rd2, dk_ty2, dk_mem1, dk_len0, z_tupl, z_tupt, z_listt, z_listl, z_in2, slots0, mVar, wipeS, pickBy, dk_rd0, dk_rd1, dk_ix0, dk_ix1, dk_ix2, dk_ne, dk_setn, dk_ty0, dk_ty1, Option.some.injEq, List.map_cons, List.map_nil, List.length_cons, List.length_nil, List.replicate_succ, List.replicate_zero, List.cons_append, List.nil_append, List.append_nil, List.getElem?_cons_zero, List.getElem?_cons_succ, List.set_cons_zero, List.set_cons_succ, List.zip_cons_cons, List.zip_nil_left, List.foldl_cons, List.foldl_nil, List.filterMap_cons, List.filterMap_nil, Nat.reduceSub, Nat.reduceAdd, Nat.reduceLT, Nat.reduceLeDiff, Nat.zero_add, Nat.add_zero, Nat.reduceEqDiff, decide_eq_true_eq, Bool.not_eq_true, Bool.not_true, Bool.not_false, Bool.not_not, ite_true, ite_false, if_true, if_false, reduceIte, Bool.false_eq_true, and_self, and_true, true_and, Int.reduceNeg, Int.reduceLT, Int.reduceLE, Int.reduceSub, Int.reduceAdd, Int.reduceMul, Int.reducePow, Int.reduceEq, Int.reduceNe, decide_true, decide_false, decide_not, Bool.and_true, Bool.true_and, Bool.or_true, Bool.true_or, ne_eq, not_true_eq_false, not_false_eq_true, Bool.and_self, false_and, and_false, reduceCtorEq, eq_self, beq_self_eq_true, List.set_nil, List.getElem?_nil, List.length_append, List.length_map, Bool.false_and, Bool.and_false, Bool.false_or, Bool.or_false, Int.cast_ofNat_Int, Int.reduceToNat, Int.zero_add, Int.add_zero]
    by_cases h : 0 ≤ i
    · simp only [z_bok, z_bsok, z_bbad, z_bsbad, z_seqbad, z_outbad, z_asgbad, small_fmod, small_lit, fits_le, smallR_lit, z_na64, z_bif, z_bsif, z_noer, z_seqn, z_seqr, z_seqif, z_outr, z_outn, z_outif, z_C, z_op, z_T, z_tand, z_tor, z_tnot, z_and, z_or, z_not, z_if, z_nil, z_cons, z_tup, z_lst, z_new, z_allD0, z_allD1, z_map, z_sNil, z_sSeq, z_sIf, z_sDrop, z_sRet, z_sAsg, z_asg, z_asgif, z_sPar, z_gN, z_gT, z_gsNil, z_gsCons, z_obind, z_gSet, z_B, z_It, z_Enum, z_R1, z_R2, z_r1, z_r2, z_Comp, z_For, z_Yes, z_M, z_Sl, z_oN, z_oS, z_Rev, z_Neg, z_IsI, z_call, z_callK, z_chain, z_body, z_rdd, z_rds, z_int, z_vI, z_vB, z_le, z_eqi, z_nei, z_nes, z_eqs, z_vInt, z_vI2, z_isN, z_notN, z_enumt, z_enuml, z_itl, z_itt, z_its, z_ixt0, z_ixt1, z_ixt2, z_lenl, z_lent, z_tyt, z_tyl, z_tyd, z_tyi, z_tyb, z_tys, z_tyn, isT_tt, isT_lt, isT_dt, isT_it, isT_bt, isT_st, isT_nt, isT_ti, isT_li, isT_di, isT_ii, isT_bi, isT_si, isT_ni, isT_tb, isT_lb, isT_db, isT_ib, isT_bb, isT_sb, isT_nb, isT_ts, isT_ls, isT_ds, isT_is, isT_bs, isT_ss, isT_ns, z_forn, z_mulx, z_lr1, z_lr1N, okR_le, dk_get, dk_set, dk_add, dk_ll, z_rdo, z_tyo, z_app, z_ext, z_star, z_lr2, z_listN, z_sqt, z_sql, z_leno, z_frz, fzL_d, z_lens, z_sls, z_sll, z_addl, z_addt, z_na10, z_dct0, z_disp, z_disp1, z_slt, z_revt, dk_rd2, dk_ty2, dk_mem1, dk_len0, z_tupl, z_tupt, z_listt, z_listl, z_in2, slots0, mVar, wipeS, pickBy, dk_rd0, dk_rd1, dk_ix0, dk_ix1, dk_ix2, dk_ne, dk_setn, dk_ty0, dk_ty1, Option.some.injEq, List.map_cons, List.map_nil, List.length_cons, List.length_nil, List.replicate_succ, List.replicate_zero, List.cons_append, List.nil_append, List.append_nil, List.getElem?_cons_zero, List.getElem?_cons_succ, List.set_cons_zero, List.set_cons_succ, List.zip_cons_cons, List.zip_nil_left, List.foldl_cons, List.foldl_nil, List.filterMap_cons, List.filterMap_nil, Nat.reduceSub, Nat.reduceAdd, Nat.reduceLT, Nat.reduceLeDiff, Nat.zero_add, Nat.add_zero, Nat.reduceEqDiff, decide_eq_true_eq, Bool.not_eq_true, Bool.not_true, Bool.not_false, Bool.not_not, ite_true, ite_false, if_true, if_false, reduceIte, Bool.false_eq_true, and_self, and_true, true_and, Int.reduceNeg, Int.reduceLT, Int.reduceLE, Int.reduceSub, Int.reduceAdd, Int.reduceMul, Int.reducePow, Int.reduceEq, Int.reduceNe, decide_true, decide_false, decide_not, Bool.and_true, Bool.true_and, Bool.or_true, Bool.true_or, ne_eq, not_true_eq_false, not_false_eq_true, Bool.and_self, false_and, and_false, reduceCtorEq, eq_self, beq_self_eq_true, List.set_nil, List.getElem?_nil, List.length_append, List.length_map, Bool.false_and, Bool.and_false, Bool.false_or, Bool.or_false, Int.cast_ofNat_Int, Int.reduceToNat, Int.zero_add, Int.add_zero, h]
      exact ⟨_, _, rfl, rfl, _, rfl, _, rfl, by omega⟩
    · simp only [z_bok, z_bsok, z_bbad, z_bsbad, z_seqbad, z_outbad, z_asgbad, small_fmod, small_lit, fits_le, smallR_lit, z_na64, z_bif, z_bsif, z_noer, z_seqn, z_seqr, z_seqif, z_outr, z_outn, z_outif, z_C, z_op, z_T, z_tand, z_tor, z_tnot, z_and, z_or, z_not, z_if, z_nil, z_cons, z_tup, z_lst, z_new, z_allD0, z_allD1, z_map, z_sNil, z_sSeq, z_sIf, z_sDrop, z_sRet, z_sAsg, z_asg, z_asgif, z_sPar, z_gN, z_gT, z_gsNil, z_gsCons, z_obind, z_gSet, z_B, z_It, z_Enum, z_R1, z_R2, z_r1, z_r2, z_Comp, z_For, z_Yes, z_M, z_Sl, z_oN, z_oS, z_Rev, z_Neg, z_IsI, z_call, z_callK, z_chain, z_body, z_rdd, z_rds, z_int, z_vI, z_vB, z_le, z_eqi, z_nei, z_nes, z_eqs, z_vInt, z_vI2, z_isN, z_notN, z_enumt, z_enuml, z_itl, z_itt, z_its, z_ixt0, z_ixt1, z_ixt2, z_lenl, z_lent, z_tyt, z_tyl, z_tyd, z_tyi, z_tyb, z_tys, z_tyn, isT_tt, isT_lt, isT_dt, isT_it, isT_bt, isT_st, isT_nt, isT_ti, isT_li, isT_di, isT_ii, isT_bi, isT_si, isT_ni, isT_tb, isT_lb, isT_db, isT_ib, isT_bb, isT_sb, isT_nb, isT_ts, isT_ls, isT_ds, isT_is, isT_bs, isT_ss, isT_ns, z_forn, z_mulx, z_lr1, z_lr1N, okR_le, dk_get, dk_set, dk_add, dk_ll, z_rdo, z_tyo, z_app, z_ext, z_star, z_lr2, z_listN, z_sqt, z_sql, z_leno, z_frz, fzL_d, z_lens, z_sls, z_sll, z_addl, z_addt, z_na10, z_dct0, z_disp, z_disp1, z_slt, z_revt, dk_rd2, dk_ty2, dk_mem1, dk_len0, z_tupl, z_tupt, z_listt, z_listl, z_in2, slots0, mVar, wipeS, pickBy, dk_rd0, dk_rd1, dk_ix0, dk_ix1, dk_ix2, dk_ne, dk_setn, dk_ty0, dk_ty1, Option.some.injEq, List.map_cons, List.map_nil, List.length_cons, List.length_nil, List.replicate_succ, List.replicate_zero, List.cons_append, List.nil_append, List.append_nil, List.getElem?_cons_zero, List.getElem?_cons_succ, List.set_cons_zero, List.set_cons_succ, List.zip_cons_cons, List.zip_nil_left, List.foldl_cons, List.foldl_nil, List.filterMap_cons, List.filterMap_nil, Nat.reduceSub, Nat.reduceAdd, Nat.reduceLT, Nat.reduceLeDiff, Nat.zero_add, Nat.add_zero, Nat.reduceEqDiff, decide_eq_true_eq, Bool.not_eq_true, Bool.not_true, Bool.not_false, Bool.not_not, ite_true, ite_false, if_true, if_false, reduceIte, Bool.false_eq_true, and_self, and_true, true_and, Int.reduceNeg, Int.reduceLT, Int.reduceLE, Int.reduceSub, Int.reduceAdd, Int.reduceMul, Int.reducePow, Int.reduceEq, Int.reduceNe, decide_true, decide_false, decide_not, Bool.and_true, Bool.true_and, Bool.or_true, Bool.true_or, ne_eq, not_true_eq_false, not_false_eq_true, Bool.and_self, false_and, and_false, reduceCtorEq, eq_self, beq_self_eq_true, List.set_nil, List.getElem?_nil, List.length_append, List.length_map, Bool.false_and, Bool.and_false, Bool.false_or, Bool.or_false, Int.cast_ofNat_Int, Int.reduceToNat, Int.zero_add, Int.add_zero, h]
      exact ⟨_, _, rfl, rfl, _, rfl, _, rfl, by omega⟩) [] rfl
  obtain ⟨ds, rfl, hds⟩ := allD_of hR
  have hlen : ds.length ≤ 63 := by
    rw [List.length_map, List.length_map] at hyl
    have := cutL_len (ns.map PyData.int) none (some 63)
    rw [List.length_map] at this
    omega
  obtain ⟨s2, M2, e2, ⟨st, c, rfl, rfl⟩⟩ := forL_inv (g := g1_ljar) (b := l1_ljar) (fun s M => ∃ (st : Int) (c : Option Val), s = [some (.scr ns), some (.d (.list ds)), some (.d (.int st)), c, none] ∧ M = []) (ds.map .d) (by
    rintro v hv s M ⟨st, c, rfl, rfl⟩
    obtain ⟨x, hx, rfl⟩ := List.mem_map.mp hv
    obtain ⟨i, rfl, hi⟩ := hds x hx
    refine ⟨_, _, rfl, ?_⟩
    unfold l1_ljar
    simp only [z_bok, z_bsok, z_bbad, z_bsbad, z_seqbad, z_outbad, z_asgbad, small_fmod, small_lit, fits_le, smallR_lit, z_na64, z_bif, z_bsif, z_noer, z_seqn, z_seqr, z_seqif, z_outr, z_outn, z_outif, z_C, z_op, z_T, z_tand, z_tor, z_tnot, z_and, z_or, z_not, z_if, z_nil, z_cons, z_tup, z_lst, z_new, z_allD0, z_allD1, z_map, z_sNil, z_sSeq, z_sIf, z_sDrop, z_sRet, z_sAsg, z_asg, z_asgif, z_sPar, z_gN, z_gT, z_gsNil, z_gsCons, z_obind, z_gSet, z_B, z_It, z_Enum, z_R1, z_R2, z_r1, z_r2, z_Comp, z_For, z_Yes, z_M, z_Sl, z_oN, z_oS, z_Rev, z_Neg, z_IsI, z_call, z_callK, z_chain, z_body, z_rdd, z_rds, z_int, z_vI, z_vB, z_le, z_eqi, z_nei, z_nes, z_eqs, z_vInt, z_vI2, z_isN, z_notN, z_enumt, z_enuml, z_itl, z_itt, z_its, z_ixt0, z_ixt1, z_ixt2, z_lenl, z_lent, z_tyt, z_tyl, z_tyd, z_tyi, z_tyb, z_tys, z_tyn, isT_tt, isT_lt, isT_dt, isT_it, isT_bt, isT_st, isT_nt, isT_ti, isT_li, isT_di, isT_ii, isT_bi, isT_si, isT_ni, isT_tb, isT_lb, isT_db, isT_ib, isT_bb, isT_sb, isT_nb, isT_ts, isT_ls, isT_ds, isT_is, isT_bs, isT_ss, isT_ns, z_forn, z_mulx, z_lr1, z_lr1N, okR_le, dk_get, dk_set, dk_add, dk_ll, z_rdo, z_tyo, z_app, z_ext, z_star, z_lr2, z_listN, z_sqt, z_sql, z_leno, z_frz, fzL_d, z_lens, z_sls, z_sll, z_addl, z_addt, z_na10, z_dct0, z_disp, z_disp1, z_slt, z_revt, dk_rd2, dk_ty2, dk_mem1, dk_len0, z_tupl, z_tupt, z_listt, z_listl, z_in2, slots0, mVar, wipeS, pickBy, dk_rd0, dk_rd1, dk_ix0, dk_ix1, dk_ix2, dk_ne, dk_setn, dk_ty0, dk_ty1, Option.some.injEq, List.map_cons, List.map_nil, List.length_cons, List.length_nil, List.replicate_succ, List.replicate_zero, List.cons_append, List.nil_append, List.append_nil, List.getElem?_cons_zero, List.getElem?_cons_succ, List.set_cons_zero, List.set_cons_succ, List.zip_cons_cons, List.zip_nil_left, List.foldl_cons, List.foldl_nil, List.filterMap_cons, List.filterMap_nil, Nat.reduceSub, Nat.reduceAdd, Nat.reduceLT, Nat.reduceLeDiff, Nat.zero_add, Nat.add_zero, Nat.reduceEqDiff, decide_eq_true_eq, Bool.not_eq_true, Bool.not_true, Bool.not_false, Bool.not_not, ite_true, ite_false, if_true, if_false, reduceIte, Bool.false_eq_true, and_self, and_true, true_and, Int.reduceNeg, Int.reduceLT, Int.reduceLE, Int.reduceSub, Int.reduceAdd, Int.reduceMul, Int.reducePow, Int.reduceEq, Int.reduceNe, decide_true, decide_false, decide_not, Bool.and_true, Bool.true_and, Bool.or_true, Bool.true_or, ne_eq, not_true_eq_false, not_false_eq_true, Bool.and_self, false_and, and_false, reduceCtorEq, eq_self, beq_self_eq_true, List.set_nil, List.getElem?_nil, List.length_append, List.length_map, Bool.false_and, Bool.and_false, Bool.false_or, Bool.or_false, Int.cast_ofNat_Int, Int.reduceToNat, Int.zero_add, Int.add_zero]
    exact ⟨_, _, rfl, _, _, rfl, rfl⟩) [some (.scr ns), some (.d (.list ds)), some (.d (.int (51397 + 5 * ns.length))), none, none] [] ⟨_, _, rfl, rfl⟩
  obtain ⟨zs, M3, e3, rfl, hR3, hzl⟩ := compL_inv (g := g0_ljar) (t := t0_ljar) (e := e0_ljar) (s0 := [some (.scr ns), some (.d (.list ds)), some (.d (.int st)), none, none]) (fun M => M = []) natV (ds.map .d) (by
    rintro v hv M rfl
    obtain ⟨x, hx, rfl⟩ := List.mem_map.mp hv
    obtain ⟨i, rfl, hi⟩ := hds x hx
    refine ⟨_, _, rfl, ?_⟩
    unfold t0_ljar
    simp only [z_bok, z_bsok, z_bbad, z_bsbad, z_seqbad, z_outbad, z_asgbad, small_fmod, small_lit, fits_le, smallR_lit, z_na64, z_bif, z_bsif, z_noer, z_seqn, z_seqr, z_seqif, z_outr, z_outn, z_outif, z_C, z_op, z_T, z_tand, z_tor, z_tnot, z_and, z_or, z_not, z_if, z_nil, z_cons, z_tup, z_lst, z_new, z_allD0, z_allD1, z_map, z_sNil, z_sSeq, z_sIf, z_sDrop, z_sRet, z_sAsg, z_asg, z_asgif, z_sPar, z_gN, z_gT, z_gsNil, z_gsCons, z_obind, z_gSet, z_B, z_It, z_Enum, z_R1, z_R2, z_r1, z_r2, z_Comp, z_For, z_Yes, z_M, z_Sl, z_oN, z_oS, z_Rev, z_Neg, z_IsI, z_call, z_callK, z_chain, z_body, z_rdd, z_rds, z_int, z_vI, z_vB, z_le, z_eqi, z_nei, z_nes, z_eqs, z_vInt, z_vI2, z_isN, z_notN, z_enumt, z_enuml, z_itl, z_itt, z_its, z_ixt0, z_ixt1, z_ixt2, z_lenl, z_lent, z_tyt, z_tyl, z_tyd, z_tyi, z_tyb, z_tys, z_tyn, isT_tt, isT_lt, isT_dt, isT_it, isT_bt, isT_st, isT_nt, isT_ti, isT_li, isT_di, isT_ii, isT_bi, isT_si, isT_ni, isT_tb, isT_lb, isT_db, isT_ib, isT_bb, isT_sb, isT_nb, isT_ts, isT_ls, isT_ds, isT_is, isT_bs, isT_ss, isT_ns, z_forn, z_mulx, z_lr1, z_lr1N, okR_le, dk_get, dk_set, dk_add, dk_ll, z_rdo, z_tyo, z_app, z_ext, z_star, z_lr2, z_listN, z_sqt, z_sql, z_leno, z_frz, fzL_d, z_lens, z_sls, z_sll, z_addl, z_addt, z_na10, z_dct0, z_disp, z_disp1, z_slt, z_revt, dk_rd2, dk_ty2, dk_mem1, dk_len0, z_tupl, z_tupt, z_listt, z_listl, z_in2, slots0, mVar, wipeS, pickBy, dk_rd0, dk_rd1, dk_ix0, dk_ix1, dk_ix2, dk_ne, dk_setn, dk_ty0, dk_ty1, Option.some.injEq, List.map_cons, List.map_nil, List.length_cons, List.length_nil, List.replicate_succ, List.replicate_zero, List.cons_append, List.nil_append, List.append_nil, List.getElem?_cons_zero, List.getElem?_cons_succ, List.set_cons_zero, List.set_cons_succ, List.zip_cons_cons, List.zip_nil_left, List.foldl_cons, List.foldl_nil, List.filterMap_cons, List.filterMap_nil, Nat.reduceSub, Nat.reduceAdd, Nat.reduceLT, Nat.reduceLeDiff, Nat.zero_add, Nat.add_zero, Nat.reduceEqDiff, decide_eq_true_eq, Bool.not_eq_true, Bool.not_true, Bool.not_false, Bool.not_not, ite_true, ite_false, if_true, if_false, reduceIte, Bool.false_eq_true, and_self, and_true, true_and, Int.reduceNeg, Int.reduceLT, Int.reduceLE, Int.reduceSub, Int.reduceAdd, Int.reduceMul, Int.reducePow, Int.reduceEq, Int.reduceNe, decide_true, decide_false, decide_not, Bool.and_true, Bool.true_and, Bool.or_true, Bool.true_or, ne_eq, not_true_eq_false, not_false_eq_true, Bool.and_self, false_and, and_false, reduceCtorEq, eq_self, beq_self_eq_true, List.set_nil, List.getElem?_nil, List.length_append, List.length_map, Bool.false_and, Bool.and_false, Bool.false_or, Bool.or_false, Int.cast_ofNat_Int, Int.reduceToNat, Int.zero_add, Int.add_zero]
    refine ⟨_, _, rfl, ?_⟩
    split
    · exact ⟨_, _, rfl, rfl, _, rfl, i, rfl, hi⟩
    · rfl) [] rfl
  obtain ⟨es, rfl, hes⟩ := allD_of hR3
  have hcells : ∃ cells : List Int, es = cells.map .int ∧ ∀ c ∈ cells, 0 ≤ c := by
    clear e3 hR3 hzl
    induction es with
    | nil => exact ⟨[], rfl, fun _ h => by cases h⟩
    | cons x es ih =>
      obtain ⟨i, rfl, hi⟩ := hes x (List.mem_cons_self ..)
      obtain ⟨cs, rfl, hc⟩ := ih fun y hy => hes y (List.mem_cons_of_mem _ hy)
      exact ⟨i :: cs, rfl, fun c hc' => by rcases List.mem_cons.mp hc' with rfl | h; exact hi; exact hc c h⟩
  obtain ⟨cells, rfl, hc⟩ := hcells
  rw [List.length_map, List.length_map, List.length_map] at hzl
  have hints : ∃ ms : List Int, ds = ms.map .int := by
    clear e1 e2 e3 hzl hlen hyl hR
    induction ds with
    | nil => exact ⟨[], rfl⟩
    | cons x ds ih =>
      obtain ⟨i, rfl, _⟩ := hds x (List.mem_cons_self ..)
      obtain ⟨ms, rfl⟩ := ih fun y hy => hds y (List.mem_cons_of_mem _ hy)
      exact ⟨i :: ms, rfl⟩
  obtain ⟨ms, rfl⟩ := hints
  rw [List.length_map] at hlen hzl
  refine ⟨⟨cells, ms ++ [7 * (ms.length : Int) + 3], st, 0, hc, by omega, by simp, by simp; omega⟩, z_trimo ?_, rfl⟩
  unfold b_ljar
  have add : vAddN (.d (.list (ms.map PyData.int))) (.d (.list [PyData.int (7 * (ms.length : Int) + 3)])) [MO.lst ((cells.map PyData.int).map Val.d)] = .ok (.obj 1) [MO.lst ((cells.map PyData.int).map Val.d), MO.lst ((ms ++ [7 * (ms.length : Int) + 3]).map fun i => .d (.int i))] := by
    have h1 : (ms ++ [7 * (ms.length : Int) + 3]).map (fun i => Val.d (.int i)) = (ms.map PyData.int ++ [PyData.int (7 * (ms.length : Int) + 3)]).map .d := by rw [List.map_append, List.map_append, List.map_map]; rfl
    rw [h1]
    unfold vAddN
    show (if _ then Out.ok (Val.obj 1) [MO.lst ((cells.map PyData.int).map Val.d), MO.lst ((ms.map PyData.int ++ [PyData.int (7 * (ms.length : Int) + 3)]).map .d)] else .bad) = _
    rw [if_pos (fits_le (by rw [List.length_map, List.length_singleton]; omega))]
  simp only [z_bok, z_bsok, z_bbad, z_bsbad, z_seqbad, z_outbad, z_asgbad, small_fmod, small_lit, fits_le, smallR_lit, z_na64, z_bif, z_bsif, z_noer, z_seqn, z_seqr, z_seqif, z_outr, z_outn, z_outif, z_C, z_op, z_T, z_tand, z_tor, z_tnot, z_and, z_or, z_not, z_if, z_nil, z_cons, z_tup, z_lst, z_new, z_allD0, z_allD1, z_map, z_sNil, z_sSeq, z_sIf, z_sDrop, z_sRet, z_sAsg, z_asg, z_asgif, z_sPar, z_gN, z_gT, z_gsNil, z_gsCons, z_obind, z_gSet, z_B, z_It, z_Enum, z_R1, z_R2, z_r1, z_r2, z_Comp, z_For, z_Yes, z_M, z_Sl, z_oN, z_oS, z_Rev, z_Neg, z_IsI, z_call, z_callK, z_chain, z_body, z_rdd, z_rds, z_int, z_vI, z_vB, z_le, z_eqi, z_nei, z_nes, z_eqs, z_vInt, z_vI2, z_isN, z_notN, z_enumt, z_enuml, z_itl, z_itt, z_its, z_ixt0, z_ixt1, z_ixt2, z_lenl, z_lent, z_tyt, z_tyl, z_tyd, z_tyi, z_tyb, z_tys, z_tyn, isT_tt, isT_lt, isT_dt, isT_it, isT_bt, isT_st, isT_nt, isT_ti, isT_li, isT_di, isT_ii, isT_bi, isT_si, isT_ni, isT_tb, isT_lb, isT_db, isT_ib, isT_bb, isT_sb, isT_nb, isT_ts, isT_ls, isT_ds, isT_is, isT_bs, isT_ss, isT_ns, z_forn, z_mulx, z_lr1, z_lr1N, okR_le, dk_get, dk_set, dk_add, dk_ll, z_rdo, z_tyo, z_app, z_ext, z_star, z_lr2, z_listN, z_sqt, z_sql, z_leno, z_frz, fzL_d, z_lens, z_sls, z_sll, z_addl, z_addt, z_na10, z_dct0, z_disp, z_disp1, z_slt, z_revt, dk_rd2, dk_ty2, dk_mem1, dk_len0, z_tupl, z_tupt, z_listt, z_listl, z_in2, slots0, mVar, wipeS, pickBy, dk_rd0, dk_rd1, dk_ix0, dk_ix1, dk_ix2, dk_ne, dk_setn, dk_ty0, dk_ty1, Option.some.injEq, List.map_cons, List.map_nil, List.length_cons, List.length_nil, List.replicate_succ, List.replicate_zero, List.cons_append, List.nil_append, List.append_nil, List.getElem?_cons_zero, List.getElem?_cons_succ, List.set_cons_zero, List.set_cons_succ, List.zip_cons_cons, List.zip_nil_left, List.foldl_cons, List.foldl_nil, List.filterMap_cons, List.filterMap_nil, Nat.reduceSub, Nat.reduceAdd, Nat.reduceLT, Nat.reduceLeDiff, Nat.zero_add, Nat.add_zero, Nat.reduceEqDiff, decide_eq_true_eq, Bool.not_eq_true, Bool.not_true, Bool.not_false, Bool.not_not, ite_true, ite_false, if_true, if_false, reduceIte, Bool.false_eq_true, and_self, and_true, true_and, Int.reduceNeg, Int.reduceLT, Int.reduceLE, Int.reduceSub, Int.reduceAdd, Int.reduceMul, Int.reducePow, Int.reduceEq, Int.reduceNe, decide_true, decide_false, decide_not, Bool.and_true, Bool.true_and, Bool.or_true, Bool.true_or, ne_eq, not_true_eq_false, not_false_eq_true, Bool.and_self, false_and, and_false, reduceCtorEq, eq_self, beq_self_eq_true, List.set_nil, List.getElem?_nil, List.length_append, List.length_map, Bool.false_and, Bool.and_false, Bool.false_or, Bool.or_false, Int.cast_ofNat_Int, Int.reduceToNat, Int.zero_add, Int.add_zero, e1, z_lcK (show (ms.map PyData.int).length ≤ 16777216 by rw [List.length_map]; omega), e2, e3, z_lcN (M := []) (us := (cells.map PyData.int).map .d) (by rw [List.length_map, List.length_map]; omega), add]
  show Out.ok (Val.obj 2) [MO.lst ((cells.map PyData.int).map Val.d), _, _] = _
  rw [← dmap]
  rfl
section
variable {rest : Mm} {m : Int} {cells : List Int} {st : Int} {n : Nat} {hp : ∀ c ∈ ([] : List Int), 0 ≤ c} {hlen : ([] : List Int).length ≤ 63} {c1 : 0 < cells.length} {c2 : cells.length ≤ 64}
abbrev JA0 (cells : List Int) (st : Int) (n : Nat) (hp : ∀ c ∈ ([] : List Int), 0 ≤ c) (hlen : ([] : List Int).length ≤ 63) (c1 : 0 < cells.length) (c2 : cells.length ≤ 64) (rest : Mm) : Mm := (Jq.mk [] cells st n hp hlen c1 c2).mem rest
theorem ds1 : (sAsg (mOp vIxX (mVar 0) (mC (.str "far"))) (gN 2)) [some (.obj 2), some (.d (.int m)), none, none, none, none, none] (JA0 cells st n hp hlen c1 c2 rest) = .nx [some (.obj 2), some (.d (.int m)), some (.obj 0), none, none, none, none] (JA0 cells st n hp hlen c1 c2 rest) := by
  simp only [z_bok, z_bsok, z_bbad, z_bsbad, z_seqbad, z_outbad, z_asgbad, small_fmod, small_lit, fits_le, smallR_lit, z_na64, z_bif, z_bsif, z_noer, z_seqn, z_seqr, z_seqif, z_outr, z_outn, z_outif, z_C, z_op, z_T, z_tand, z_tor, z_tnot, z_and, z_or, z_not, z_if, z_nil, z_cons, z_tup, z_lst, z_new, z_allD0, z_allD1, z_map, z_sNil, z_sSeq, z_sIf, z_sDrop, z_sRet, z_sAsg, z_asg, z_asgif, z_sPar, z_gN, z_gT, z_gsNil, z_gsCons, z_obind, z_gSet, z_B, z_It, z_Enum, z_R1, z_R2, z_r1, z_r2, z_Comp, z_For, z_Yes, z_M, z_Sl, z_oN, z_oS, z_Rev, z_Neg, z_IsI, z_call, z_callK, z_chain, z_body, z_rdd, z_rds, z_int, z_vI, z_vB, z_le, z_eqi, z_nei, z_nes, z_eqs, z_vInt, z_vI2, z_isN, z_notN, z_enumt, z_enuml, z_itl, z_itt, z_its, z_ixt0, z_ixt1, z_ixt2, z_lenl, z_lent, z_tyt, z_tyl, z_tyd, z_tyi, z_tyb, z_tys, z_tyn, isT_tt, isT_lt, isT_dt, isT_it, isT_bt, isT_st, isT_nt, isT_ti, isT_li, isT_di, isT_ii, isT_bi, isT_si, isT_ni, isT_tb, isT_lb, isT_db, isT_ib, isT_bb, isT_sb, isT_nb, isT_ts, isT_ls, isT_ds, isT_is, isT_bs, isT_ss, isT_ns, z_forn, z_mulx, z_lr1, z_lr1N, okR_le, dk_get, dk_set, dk_add, dk_ll, z_rdo, z_tyo, z_app, z_ext, z_star, z_lr2, z_listN, z_sqt, z_sql, z_leno, z_frz, fzL_d, z_lens, z_sls, z_sll, z_addl, z_addt, z_na10, z_dct0, z_disp, z_disp1, z_slt, z_revt, dk_rd2, dk_ty2, dk_mem1, dk_len0, z_tupl, z_tupt, z_listt, z_listl, z_in2, slots0, mVar, wipeS, pickBy, dk_rd0, dk_rd1, dk_ix0, dk_ix1, dk_ix2, dk_ne, dk_setn, dk_ty0, dk_ty1, Option.some.injEq, List.map_cons, List.map_nil, List.length_cons, List.length_nil, List.replicate_succ, List.replicate_zero, List.cons_append, List.nil_append, List.append_nil, List.getElem?_cons_zero, List.getElem?_cons_succ, List.set_cons_zero, List.set_cons_succ, List.zip_cons_cons, List.zip_nil_left, List.foldl_cons, List.foldl_nil, List.filterMap_cons, List.filterMap_nil, Nat.reduceSub, Nat.reduceAdd, Nat.reduceLT, Nat.reduceLeDiff, Nat.zero_add, Nat.add_zero, Nat.reduceEqDiff, decide_eq_true_eq, Bool.not_eq_true, Bool.not_true, Bool.not_false, Bool.not_not, ite_true, ite_false, if_true, if_false, reduceIte, Bool.false_eq_true, and_self, and_true, true_and, Int.reduceNeg, Int.reduceLT, Int.reduceLE, Int.reduceSub, Int.reduceAdd, Int.reduceMul, Int.reducePow, Int.reduceEq, Int.reduceNe, decide_true, decide_false, decide_not, Bool.and_true, Bool.true_and, Bool.or_true, Bool.true_or, ne_eq, not_true_eq_false, not_false_eq_true, Bool.and_self, false_and, and_false, reduceCtorEq, eq_self, beq_self_eq_true, List.set_nil, List.getElem?_nil, List.length_append, List.length_map, Bool.false_and, Bool.and_false, Bool.false_or, Bool.or_false, Int.cast_ofNat_Int, Int.reduceToNat, Int.zero_add, Int.add_zero, jq_rd2, jq_far]
theorem ds3 : (sAsg (mOp vAdd (mOp vIxX (mVar 0) (mC (.str "count"))) (mC (.int 1))) (gSet (mVar 0) (mC (.str "count")) vSetX)) [some (.obj 2), some (.d (.int m)), some (.obj 0), none, none, none, none] (JA0 cells st n hp hlen c1 c2 rest) = .nx [some (.obj 2), some (.d (.int m)), some (.obj 0), none, none, none, none] (JA0 cells st (n + 1) hp hlen c1 c2 rest) := by
  have hset : vSetX (.obj 2) (.d (.str "count")) (.d (.int ((n : Int) + 1))) ((Jq.mk [] cells st n hp hlen c1 c2).mem rest) = some ((Jq.mk [] cells st (n + 1) hp hlen c1 c2).mem rest) := rfl
  simp only [z_bok, z_bsok, z_bbad, z_bsbad, z_seqbad, z_outbad, z_asgbad, small_fmod, small_lit, fits_le, smallR_lit, z_na64, z_bif, z_bsif, z_noer, z_seqn, z_seqr, z_seqif, z_outr, z_outn, z_outif, z_C, z_op, z_T, z_tand, z_tor, z_tnot, z_and, z_or, z_not, z_if, z_nil, z_cons, z_tup, z_lst, z_new, z_allD0, z_allD1, z_map, z_sNil, z_sSeq, z_sIf, z_sDrop, z_sRet, z_sAsg, z_asg, z_asgif, z_sPar, z_gN, z_gT, z_gsNil, z_gsCons, z_obind, z_gSet, z_B, z_It, z_Enum, z_R1, z_R2, z_r1, z_r2, z_Comp, z_For, z_Yes, z_M, z_Sl, z_oN, z_oS, z_Rev, z_Neg, z_IsI, z_call, z_callK, z_chain, z_body, z_rdd, z_rds, z_int, z_vI, z_vB, z_le, z_eqi, z_nei, z_nes, z_eqs, z_vInt, z_vI2, z_isN, z_notN, z_enumt, z_enuml, z_itl, z_itt, z_its, z_ixt0, z_ixt1, z_ixt2, z_lenl, z_lent, z_tyt, z_tyl, z_tyd, z_tyi, z_tyb, z_tys, z_tyn, isT_tt, isT_lt, isT_dt, isT_it, isT_bt, isT_st, isT_nt, isT_ti, isT_li, isT_di, isT_ii, isT_bi, isT_si, isT_ni, isT_tb, isT_lb, isT_db, isT_ib, isT_bb, isT_sb, isT_nb, isT_ts, isT_ls, isT_ds, isT_is, isT_bs, isT_ss, isT_ns, z_forn, z_mulx, z_lr1, z_lr1N, okR_le, dk_get, dk_set, dk_add, dk_ll, z_rdo, z_tyo, z_app, z_ext, z_star, z_lr2, z_listN, z_sqt, z_sql, z_leno, z_frz, fzL_d, z_lens, z_sls, z_sll, z_addl, z_addt, z_na10, z_dct0, z_disp, z_disp1, z_slt, z_revt, dk_rd2, dk_ty2, dk_mem1, dk_len0, z_tupl, z_tupt, z_listt, z_listl, z_in2, slots0, mVar, wipeS, pickBy, dk_rd0, dk_rd1, dk_ix0, dk_ix1, dk_ix2, dk_ne, dk_setn, dk_ty0, dk_ty1, Option.some.injEq, List.map_cons, List.map_nil, List.length_cons, List.length_nil, List.replicate_succ, List.replicate_zero, List.cons_append, List.nil_append, List.append_nil, List.getElem?_cons_zero, List.getElem?_cons_succ, List.set_cons_zero, List.set_cons_succ, List.zip_cons_cons, List.zip_nil_left, List.foldl_cons, List.foldl_nil, List.filterMap_cons, List.filterMap_nil, Nat.reduceSub, Nat.reduceAdd, Nat.reduceLT, Nat.reduceLeDiff, Nat.zero_add, Nat.add_zero, Nat.reduceEqDiff, decide_eq_true_eq, Bool.not_eq_true, Bool.not_true, Bool.not_false, Bool.not_not, ite_true, ite_false, if_true, if_false, reduceIte, Bool.false_eq_true, and_self, and_true, true_and, Int.reduceNeg, Int.reduceLT, Int.reduceLE, Int.reduceSub, Int.reduceAdd, Int.reduceMul, Int.reducePow, Int.reduceEq, Int.reduceNe, decide_true, decide_false, decide_not, Bool.and_true, Bool.true_and, Bool.or_true, Bool.true_or, ne_eq, not_true_eq_false, not_false_eq_true, Bool.and_self, false_and, and_false, reduceCtorEq, eq_self, beq_self_eq_true, List.set_nil, List.getElem?_nil, List.length_append, List.length_map, Bool.false_and, Bool.and_false, Bool.false_or, Bool.or_false, Int.cast_ofNat_Int, Int.reduceToNat, Int.zero_add, Int.add_zero, jq_rd2, jq_n, hset]
theorem ds4 : (sPar [3, 4] (mCons (mOp vIxX (mVar 0) (mC (.str "count"))) (mCons (mOp vIxX (mVar 0) (mC (.str "cells"))) mNil))) [some (.obj 2), some (.d (.int m)), some (.obj 0), none, none, none, none] (JA0 cells st (n + 1) hp hlen c1 c2 rest) = .nx [some (.obj 2), some (.d (.int m)), some (.obj 0), some (.d (.int ((n : Int) + 1))), some (.obj 1), none, none] (JA0 cells st (n + 1) hp hlen c1 c2 rest) := by
  have hn1 : vIxX (.obj 2) (.d (.str "count")) ((Jq.mk [] cells st (n + 1) hp hlen c1 c2).mem rest) = .ok (.d (.int ((n : Int) + 1))) ((Jq.mk [] cells st (n + 1) hp hlen c1 c2).mem rest) := rfl
  simp only [z_bok, z_bsok, z_bbad, z_bsbad, z_seqbad, z_outbad, z_asgbad, small_fmod, small_lit, fits_le, smallR_lit, z_na64, z_bif, z_bsif, z_noer, z_seqn, z_seqr, z_seqif, z_outr, z_outn, z_outif, z_C, z_op, z_T, z_tand, z_tor, z_tnot, z_and, z_or, z_not, z_if, z_nil, z_cons, z_tup, z_lst, z_new, z_allD0, z_allD1, z_map, z_sNil, z_sSeq, z_sIf, z_sDrop, z_sRet, z_sAsg, z_asg, z_asgif, z_sPar, z_gN, z_gT, z_gsNil, z_gsCons, z_obind, z_gSet, z_B, z_It, z_Enum, z_R1, z_R2, z_r1, z_r2, z_Comp, z_For, z_Yes, z_M, z_Sl, z_oN, z_oS, z_Rev, z_Neg, z_IsI, z_call, z_callK, z_chain, z_body, z_rdd, z_rds, z_int, z_vI, z_vB, z_le, z_eqi, z_nei, z_nes, z_eqs, z_vInt, z_vI2, z_isN, z_notN, z_enumt, z_enuml, z_itl, z_itt, z_its, z_ixt0, z_ixt1, z_ixt2, z_lenl, z_lent, z_tyt, z_tyl, z_tyd, z_tyi, z_tyb, z_tys, z_tyn, isT_tt, isT_lt, isT_dt, isT_it, isT_bt, isT_st, isT_nt, isT_ti, isT_li, isT_di, isT_ii, isT_bi, isT_si, isT_ni, isT_tb, isT_lb, isT_db, isT_ib, isT_bb, isT_sb, isT_nb, isT_ts, isT_ls, isT_ds, isT_is, isT_bs, isT_ss, isT_ns, z_forn, z_mulx, z_lr1, z_lr1N, okR_le, dk_get, dk_set, dk_add, dk_ll, z_rdo, z_tyo, z_app, z_ext, z_star, z_lr2, z_listN, z_sqt, z_sql, z_leno, z_frz, fzL_d, z_lens, z_sls, z_sll, z_addl, z_addt, z_na10, z_dct0, z_disp, z_disp1, z_slt, z_revt, dk_rd2, dk_ty2, dk_mem1, dk_len0, z_tupl, z_tupt, z_listt, z_listl, z_in2, slots0, mVar, wipeS, pickBy, dk_rd0, dk_rd1, dk_ix0, dk_ix1, dk_ix2, dk_ne, dk_setn, dk_ty0, dk_ty1, Option.some.injEq, List.map_cons, List.map_nil, List.length_cons, List.length_nil, List.replicate_succ, List.replicate_zero, List.cons_append, List.nil_append, List.append_nil, List.getElem?_cons_zero, List.getElem?_cons_succ, List.set_cons_zero, List.set_cons_succ, List.zip_cons_cons, List.zip_nil_left, List.foldl_cons, List.foldl_nil, List.filterMap_cons, List.filterMap_nil, Nat.reduceSub, Nat.reduceAdd, Nat.reduceLT, Nat.reduceLeDiff, Nat.zero_add, Nat.add_zero, Nat.reduceEqDiff, decide_eq_true_eq, Bool.not_eq_true, Bool.not_true, Bool.not_false, Bool.not_not, ite_true, ite_false, if_true, if_false, reduceIte, Bool.false_eq_true, and_self, and_true, true_and, Int.reduceNeg, Int.reduceLT, Int.reduceLE, Int.reduceSub, Int.reduceAdd, Int.reduceMul, Int.reducePow, Int.reduceEq, Int.reduceNe, decide_true, decide_false, decide_not, Bool.and_true, Bool.true_and, Bool.or_true, Bool.true_or, ne_eq, not_true_eq_false, not_false_eq_true, Bool.and_self, false_and, and_false, reduceCtorEq, eq_self, beq_self_eq_true, List.set_nil, List.getElem?_nil, List.length_append, List.length_map, Bool.false_and, Bool.and_false, Bool.false_or, Bool.or_false, Int.cast_ofNat_Int, Int.reduceToNat, Int.zero_add, Int.add_zero, jq_rd2, hn1, jq_cells]
theorem ds5 : ∃ y : Int, (sAsg (mOp vMod (mB vInt (mCons (mOp vAdd (mOp vAdd (mOp vIxX (mVar 0) (mC (.str "seal"))) (mOp vMulX (mC (.int 7919)) (mB vInt (mCons (mOp vIxX (mVar 4) (mOp vMod (mB vInt (mCons (mVar 3) mNil)) (mB vLen (mCons (mVar 4) mNil)))) mNil)))) (mOp vMulX (mC (.int 104729)) (mVar 3))) mNil)) (mC (.int 4294967291))) (gN 5)) [some (.obj 2), some (.d (.int m)), some (.obj 0), some (.d (.int ((n : Int) + 1))), some (.obj 1), none, none] (JA0 cells st (n + 1) hp hlen c1 c2 rest) = .nx [some (.obj 2), some (.d (.int m)), some (.obj 0), some (.d (.int ((n : Int) + 1))), some (.obj 1), some (.d (.int (y.fmod 4294967291))), none] (JA0 cells st (n + 1) hp hlen c1 c2 rest) := by
  have hcl : (0 : Int) < (cells.length : Int) := by omega
  have hcn : (cells.length : Int) ≠ 0 := by omega
  obtain ⟨x, hx⟩ := jq_ix (q := Jq.mk [] cells st (n + 1) hp hlen c1 c2) (rest := rest) (i := ((n : Int) + 1).fmod (cells.length : Int)) (Int.fmod_nonneg_of_pos _ hcl) (Int.fmod_lt_of_pos _ hcl)
  have hl1 : vLen [.obj 1] ((Jq.mk [] cells st (n + 1) hp hlen c1 c2).mem rest) = .ok (.d (.int cells.length)) ((Jq.mk [] cells st (n + 1) hp hlen c1 c2).mem rest) := jq_len
  generalize hk : (cells.length : Int) = k at *
  simp only [z_bok, z_bsok, z_bbad, z_bsbad, z_seqbad, z_outbad, z_asgbad, small_fmod, small_lit, fits_le, smallR_lit, z_na64, z_bif, z_bsif, z_noer, z_seqn, z_seqr, z_seqif, z_outr, z_outn, z_outif, z_C, z_op, z_T, z_tand, z_tor, z_tnot, z_and, z_or, z_not, z_if, z_nil, z_cons, z_tup, z_lst, z_new, z_allD0, z_allD1, z_map, z_sNil, z_sSeq, z_sIf, z_sDrop, z_sRet, z_sAsg, z_asg, z_asgif, z_sPar, z_gN, z_gT, z_gsNil, z_gsCons, z_obind, z_gSet, z_B, z_It, z_Enum, z_R1, z_R2, z_r1, z_r2, z_Comp, z_For, z_Yes, z_M, z_Sl, z_oN, z_oS, z_Rev, z_Neg, z_IsI, z_call, z_callK, z_chain, z_body, z_rdd, z_rds, z_int, z_vI, z_vB, z_le, z_eqi, z_nei, z_nes, z_eqs, z_vInt, z_vI2, z_isN, z_notN, z_enumt, z_enuml, z_itl, z_itt, z_its, z_ixt0, z_ixt1, z_ixt2, z_lenl, z_lent, z_tyt, z_tyl, z_tyd, z_tyi, z_tyb, z_tys, z_tyn, isT_tt, isT_lt, isT_dt, isT_it, isT_bt, isT_st, isT_nt, isT_ti, isT_li, isT_di, isT_ii, isT_bi, isT_si, isT_ni, isT_tb, isT_lb, isT_db, isT_ib, isT_bb, isT_sb, isT_nb, isT_ts, isT_ls, isT_ds, isT_is, isT_bs, isT_ss, isT_ns, z_forn, z_mulx, z_lr1, z_lr1N, okR_le, dk_get, dk_set, dk_add, dk_ll, z_rdo, z_tyo, z_app, z_ext, z_star, z_lr2, z_listN, z_sqt, z_sql, z_leno, z_frz, fzL_d, z_lens, z_sls, z_sll, z_addl, z_addt, z_na10, z_dct0, z_disp, z_disp1, z_slt, z_revt, dk_rd2, dk_ty2, dk_mem1, dk_len0, z_tupl, z_tupt, z_listt, z_listl, z_in2, slots0, mVar, wipeS, pickBy, dk_rd0, dk_rd1, dk_ix0, dk_ix1, dk_ix2, dk_ne, dk_setn, dk_ty0, dk_ty1, Option.some.injEq, List.map_cons, List.map_nil, List.length_cons, List.length_nil, List.replicate_succ, List.replicate_zero, List.cons_append, List.nil_append, List.append_nil, List.getElem?_cons_zero, List.getElem?_cons_succ, List.set_cons_zero, List.set_cons_succ, List.zip_cons_cons, List.zip_nil_left, List.foldl_cons, List.foldl_nil, List.filterMap_cons, List.filterMap_nil, Nat.reduceSub, Nat.reduceAdd, Nat.reduceLT, Nat.reduceLeDiff, Nat.zero_add, Nat.add_zero, Nat.reduceEqDiff, decide_eq_true_eq, Bool.not_eq_true, Bool.not_true, Bool.not_false, Bool.not_not, ite_true, ite_false, if_true, if_false, reduceIte, Bool.false_eq_true, and_self, and_true, true_and, Int.reduceNeg, Int.reduceLT, Int.reduceLE, Int.reduceSub, Int.reduceAdd, Int.reduceMul, Int.reducePow, Int.reduceEq, Int.reduceNe, decide_true, decide_false, decide_not, Bool.and_true, Bool.true_and, Bool.or_true, Bool.true_or, ne_eq, not_true_eq_false, not_false_eq_true, Bool.and_self, false_and, and_false, reduceCtorEq, eq_self, beq_self_eq_true, List.set_nil, List.getElem?_nil, List.length_append, List.length_map, Bool.false_and, Bool.and_false, Bool.false_or, Bool.or_false, Int.cast_ofNat_Int, Int.reduceToNat, Int.zero_add, Int.add_zero, jq_rd2, jq_rd1, jq_st, hl1, hx, hcn]
  exact ⟨_, rfl⟩
theorem ds6 {w y : Int} (sm : smallI w = true) {M : Mm} : ∃ z : Int, (sAsg (mOp vMod (mB vInt (mCons (mOp vAdd (mOp vAdd (mOp vMulX (mVar 5) (mC (.int 22695477))) (mOp vMulX (mVar 3) (mVar 3))) (mC (.int 1))) mNil)) (mC (.int 4294967291))) (gN 5)) [some (.obj 2), some (.d (.int m)), some (.obj 0), some (.d (.int w)), some (.obj 1), some (.d (.int y)), none] M = .nx [some (.obj 2), some (.d (.int m)), some (.obj 0), some (.d (.int w)), some (.obj 1), some (.d (.int (z.fmod 4294967291))), none] M := by
  simp only [z_bok, z_bsok, z_bbad, z_bsbad, z_seqbad, z_outbad, z_asgbad, small_fmod, small_lit, fits_le, smallR_lit, z_na64, z_bif, z_bsif, z_noer, z_seqn, z_seqr, z_seqif, z_outr, z_outn, z_outif, z_C, z_op, z_T, z_tand, z_tor, z_tnot, z_and, z_or, z_not, z_if, z_nil, z_cons, z_tup, z_lst, z_new, z_allD0, z_allD1, z_map, z_sNil, z_sSeq, z_sIf, z_sDrop, z_sRet, z_sAsg, z_asg, z_asgif, z_sPar, z_gN, z_gT, z_gsNil, z_gsCons, z_obind, z_gSet, z_B, z_It, z_Enum, z_R1, z_R2, z_r1, z_r2, z_Comp, z_For, z_Yes, z_M, z_Sl, z_oN, z_oS, z_Rev, z_Neg, z_IsI, z_call, z_callK, z_chain, z_body, z_rdd, z_rds, z_int, z_vI, z_vB, z_le, z_eqi, z_nei, z_nes, z_eqs, z_vInt, z_vI2, z_isN, z_notN, z_enumt, z_enuml, z_itl, z_itt, z_its, z_ixt0, z_ixt1, z_ixt2, z_lenl, z_lent, z_tyt, z_tyl, z_tyd, z_tyi, z_tyb, z_tys, z_tyn, isT_tt, isT_lt, isT_dt, isT_it, isT_bt, isT_st, isT_nt, isT_ti, isT_li, isT_di, isT_ii, isT_bi, isT_si, isT_ni, isT_tb, isT_lb, isT_db, isT_ib, isT_bb, isT_sb, isT_nb, isT_ts, isT_ls, isT_ds, isT_is, isT_bs, isT_ss, isT_ns, z_forn, z_mulx, z_lr1, z_lr1N, okR_le, dk_get, dk_set, dk_add, dk_ll, z_rdo, z_tyo, z_app, z_ext, z_star, z_lr2, z_listN, z_sqt, z_sql, z_leno, z_frz, fzL_d, z_lens, z_sls, z_sll, z_addl, z_addt, z_na10, z_dct0, z_disp, z_disp1, z_slt, z_revt, dk_rd2, dk_ty2, dk_mem1, dk_len0, z_tupl, z_tupt, z_listt, z_listl, z_in2, slots0, mVar, wipeS, pickBy, dk_rd0, dk_rd1, dk_ix0, dk_ix1, dk_ix2, dk_ne, dk_setn, dk_ty0, dk_ty1, Option.some.injEq, List.map_cons, List.map_nil, List.length_cons, List.length_nil, List.replicate_succ, List.replicate_zero, List.cons_append, List.nil_append, List.append_nil, List.getElem?_cons_zero, List.getElem?_cons_succ, List.set_cons_zero, List.set_cons_succ, List.zip_cons_cons, List.zip_nil_left, List.foldl_cons, List.foldl_nil, List.filterMap_cons, List.filterMap_nil, Nat.reduceSub, Nat.reduceAdd, Nat.reduceLT, Nat.reduceLeDiff, Nat.zero_add, Nat.add_zero, Nat.reduceEqDiff, decide_eq_true_eq, Bool.not_eq_true, Bool.not_true, Bool.not_false, Bool.not_not, ite_true, ite_false, if_true, if_false, reduceIte, Bool.false_eq_true, and_self, and_true, true_and, Int.reduceNeg, Int.reduceLT, Int.reduceLE, Int.reduceSub, Int.reduceAdd, Int.reduceMul, Int.reducePow, Int.reduceEq, Int.reduceNe, decide_true, decide_false, decide_not, Bool.and_true, Bool.true_and, Bool.or_true, Bool.true_or, ne_eq, not_true_eq_false, not_false_eq_true, Bool.and_self, false_and, and_false, reduceCtorEq, eq_self, beq_self_eq_true, List.set_nil, List.getElem?_nil, List.length_append, List.length_map, Bool.false_and, Bool.and_false, Bool.false_or, Bool.or_false, Int.cast_ofNat_Int, Int.reduceToNat, Int.zero_add, Int.add_zero, sm]
  exact ⟨_, rfl⟩
theorem ds0 {n : Nat} (hb : n < 4611686018427387904) : smallI ((n : Int) + 1) = true := small_lit (by omega) (by omega)
theorem ds2 : (sIf (mT (mOp vNe (mVar 2) (mLst mNil))) (sSeq (sAsg (mM "list" vPop (mVar 2) (mCons (mC (.int 0)) mNil)) (gN 6))
  (sSeq (sIf (mT (mOp vGe (mVar 6) (mVar 1))) (sDrop (mM "list" vInsert (mVar 2) (mCons (mC (.int 0)) (mCons (mOp vDiv (mVar 6) (mVar 1)) mNil)))) sNil)
  (sRet (mOp vMod (mB vInt (mCons (mVar 6) mNil)) (mVar 1))))) sNil) [some (.obj 2), some (.d (.int m)), some (.obj 0), none, none, none, none] (JA0 cells st n hp hlen c1 c2 rest) = .nx [some (.obj 2), some (.d (.int m)), some (.obj 0), none, none, none, none] (JA0 cells st n hp hlen c1 c2 rest) := by
  simp only [z_bok, z_bsok, z_bbad, z_bsbad, z_seqbad, z_outbad, z_asgbad, small_fmod, small_lit, fits_le, smallR_lit, z_na64, z_bif, z_bsif, z_noer, z_seqn, z_seqr, z_seqif, z_outr, z_outn, z_outif, z_C, z_op, z_T, z_tand, z_tor, z_tnot, z_and, z_or, z_not, z_if, z_nil, z_cons, z_tup, z_lst, z_new, z_allD0, z_allD1, z_map, z_sNil, z_sSeq, z_sIf, z_sDrop, z_sRet, z_sAsg, z_asg, z_asgif, z_sPar, z_gN, z_gT, z_gsNil, z_gsCons, z_obind, z_gSet, z_B, z_It, z_Enum, z_R1, z_R2, z_r1, z_r2, z_Comp, z_For, z_Yes, z_M, z_Sl, z_oN, z_oS, z_Rev, z_Neg, z_IsI, z_call, z_callK, z_chain, z_body, z_rdd, z_rds, z_int, z_vI, z_vB, z_le, z_eqi, z_nei, z_nes, z_eqs, z_vInt, z_vI2, z_isN, z_notN, z_enumt, z_enuml, z_itl, z_itt, z_its, z_ixt0, z_ixt1, z_ixt2, z_lenl, z_lent, z_tyt, z_tyl, z_tyd, z_tyi, z_tyb, z_tys, z_tyn, isT_tt, isT_lt, isT_dt, isT_it, isT_bt, isT_st, isT_nt, isT_ti, isT_li, isT_di, isT_ii, isT_bi, isT_si, isT_ni, isT_tb, isT_lb, isT_db, isT_ib, isT_bb, isT_sb, isT_nb, isT_ts, isT_ls, isT_ds, isT_is, isT_bs, isT_ss, isT_ns, z_forn, z_mulx, z_lr1, z_lr1N, okR_le, dk_get, dk_set, dk_add, dk_ll, z_rdo, z_tyo, z_app, z_ext, z_star, z_lr2, z_listN, z_sqt, z_sql, z_leno, z_frz, fzL_d, z_lens, z_sls, z_sll, z_addl, z_addt, z_na10, z_dct0, z_disp, z_disp1, z_slt, z_revt, dk_rd2, dk_ty2, dk_mem1, dk_len0, z_tupl, z_tupt, z_listt, z_listl, z_in2, slots0, mVar, wipeS, pickBy, dk_rd0, dk_rd1, dk_ix0, dk_ix1, dk_ix2, dk_ne, dk_setn, dk_ty0, dk_ty1, Option.some.injEq, List.map_cons, List.map_nil, List.length_cons, List.length_nil, List.replicate_succ, List.replicate_zero, List.cons_append, List.nil_append, List.append_nil, List.getElem?_cons_zero, List.getElem?_cons_succ, List.set_cons_zero, List.set_cons_succ, List.zip_cons_cons, List.zip_nil_left, List.foldl_cons, List.foldl_nil, List.filterMap_cons, List.filterMap_nil, Nat.reduceSub, Nat.reduceAdd, Nat.reduceLT, Nat.reduceLeDiff, Nat.zero_add, Nat.add_zero, Nat.reduceEqDiff, decide_eq_true_eq, Bool.not_eq_true, Bool.not_true, Bool.not_false, Bool.not_not, ite_true, ite_false, if_true, if_false, reduceIte, Bool.false_eq_true, and_self, and_true, true_and, Int.reduceNeg, Int.reduceLT, Int.reduceLE, Int.reduceSub, Int.reduceAdd, Int.reduceMul, Int.reducePow, Int.reduceEq, Int.reduceNe, decide_true, decide_false, decide_not, Bool.and_true, Bool.true_and, Bool.or_true, Bool.true_or, ne_eq, not_true_eq_false, not_false_eq_true, Bool.and_self, false_and, and_false, reduceCtorEq, eq_self, beq_self_eq_true, List.set_nil, List.getElem?_nil, List.length_append, List.length_map, Bool.false_and, Bool.and_false, Bool.false_or, Bool.or_false, Int.cast_ofNat_Int, Int.reduceToNat, Int.zero_add, Int.add_zero, jq_rd0, jq_ne, List.isEmpty_nil]
theorem ds7 {c y : Int} {M : Mm} : ∃ z : Int, (sAsg (mOp vMod (mB vInt (mCons (mOp vAdd (mOp vMulX (mVar 5) (mC (.int 48271))) (mOp vDiv (mVar 5) (mC (.int 65536)))) mNil)) (mC (.int 4294967279))) (gN 5)) [some (.obj 2), some (.d (.int m)), some (.obj 0), some (.d (.int c)), some (.obj 1), some (.d (.int y)), none] M = .nx [some (.obj 2), some (.d (.int m)), some (.obj 0), some (.d (.int c)), some (.obj 1), some (.d (.int z)), none] M := by
  have h1 : (Int.natAbs 65536 < 1073741824) = True := by decide
  simp only [z_bok, z_bsok, z_bbad, z_bsbad, z_seqbad, z_outbad, z_asgbad, small_fmod, small_lit, fits_le, smallR_lit, z_na64, z_bif, z_bsif, z_noer, z_seqn, z_seqr, z_seqif, z_outr, z_outn, z_outif, z_C, z_op, z_T, z_tand, z_tor, z_tnot, z_and, z_or, z_not, z_if, z_nil, z_cons, z_tup, z_lst, z_new, z_allD0, z_allD1, z_map, z_sNil, z_sSeq, z_sIf, z_sDrop, z_sRet, z_sAsg, z_asg, z_asgif, z_sPar, z_gN, z_gT, z_gsNil, z_gsCons, z_obind, z_gSet, z_B, z_It, z_Enum, z_R1, z_R2, z_r1, z_r2, z_Comp, z_For, z_Yes, z_M, z_Sl, z_oN, z_oS, z_Rev, z_Neg, z_IsI, z_call, z_callK, z_chain, z_body, z_rdd, z_rds, z_int, z_vI, z_vB, z_le, z_eqi, z_nei, z_nes, z_eqs, z_vInt, z_vI2, z_isN, z_notN, z_enumt, z_enuml, z_itl, z_itt, z_its, z_ixt0, z_ixt1, z_ixt2, z_lenl, z_lent, z_tyt, z_tyl, z_tyd, z_tyi, z_tyb, z_tys, z_tyn, isT_tt, isT_lt, isT_dt, isT_it, isT_bt, isT_st, isT_nt, isT_ti, isT_li, isT_di, isT_ii, isT_bi, isT_si, isT_ni, isT_tb, isT_lb, isT_db, isT_ib, isT_bb, isT_sb, isT_nb, isT_ts, isT_ls, isT_ds, isT_is, isT_bs, isT_ss, isT_ns, z_forn, z_mulx, z_lr1, z_lr1N, okR_le, dk_get, dk_set, dk_add, dk_ll, z_rdo, z_tyo, z_app, z_ext, z_star, z_lr2, z_listN, z_sqt, z_sql, z_leno, z_frz, fzL_d, z_lens, z_sls, z_sll, z_addl, z_addt, z_na10, z_dct0, z_disp, z_disp1, z_slt, z_revt, dk_rd2, dk_ty2, dk_mem1, dk_len0, z_tupl, z_tupt, z_listt, z_listl, z_in2, slots0, mVar, wipeS, pickBy, dk_rd0, dk_rd1, dk_ix0, dk_ix1, dk_ix2, dk_ne, dk_setn, dk_ty0, dk_ty1, Option.some.injEq, List.map_cons, List.map_nil, List.length_cons, List.length_nil, List.replicate_succ, List.replicate_zero, List.cons_append, List.nil_append, List.append_nil, List.getElem?_cons_zero, List.getElem?_cons_succ, List.set_cons_zero, List.set_cons_succ, List.zip_cons_cons, List.zip_nil_left, List.foldl_cons, List.foldl_nil, List.filterMap_cons, List.filterMap_nil, Nat.reduceSub, Nat.reduceAdd, Nat.reduceLT, Nat.reduceLeDiff, Nat.zero_add, Nat.add_zero, Nat.reduceEqDiff, decide_eq_true_eq, Bool.not_eq_true, Bool.not_true, Bool.not_false, Bool.not_not, ite_true, ite_false, if_true, if_false, reduceIte, Bool.false_eq_true, and_self, and_true, true_and, Int.reduceNeg, Int.reduceLT, Int.reduceLE, Int.reduceSub, Int.reduceAdd, Int.reduceMul, Int.reducePow, Int.reduceEq, Int.reduceNe, decide_true, decide_false, decide_not, Bool.and_true, Bool.true_and, Bool.or_true, Bool.true_or, ne_eq, not_true_eq_false, not_false_eq_true, Bool.and_self, false_and, and_false, reduceCtorEq, eq_self, beq_self_eq_true, List.set_nil, List.getElem?_nil, List.length_append, List.length_map, Bool.false_and, Bool.and_false, Bool.false_or, Bool.or_false, Int.cast_ofNat_Int, Int.reduceToNat, Int.zero_add, Int.add_zero, h1]
  exact ⟨_, rfl⟩
theorem ds8 (hne : m ≠ 0) {c y : Int} {M : Mm} : ∃ z : Int, (sRet (mOp vMod (mB vInt (mCons (mOp vDiv (mVar 5) (mC (.int 1024))) mNil)) (mVar 1))) [some (.obj 2), some (.d (.int m)), some (.obj 0), some (.d (.int c)), some (.obj 1), some (.d (.int y)), none] M = .rt (.d (.int (z.fmod m))) M := by
  have h1 : (Int.natAbs 1024 < 1073741824) = True := by decide
  simp only [z_bok, z_bsok, z_bbad, z_bsbad, z_seqbad, z_outbad, z_asgbad, small_fmod, small_lit, fits_le, smallR_lit, z_na64, z_bif, z_bsif, z_noer, z_seqn, z_seqr, z_seqif, z_outr, z_outn, z_outif, z_C, z_op, z_T, z_tand, z_tor, z_tnot, z_and, z_or, z_not, z_if, z_nil, z_cons, z_tup, z_lst, z_new, z_allD0, z_allD1, z_map, z_sNil, z_sSeq, z_sIf, z_sDrop, z_sRet, z_sAsg, z_asg, z_asgif, z_sPar, z_gN, z_gT, z_gsNil, z_gsCons, z_obind, z_gSet, z_B, z_It, z_Enum, z_R1, z_R2, z_r1, z_r2, z_Comp, z_For, z_Yes, z_M, z_Sl, z_oN, z_oS, z_Rev, z_Neg, z_IsI, z_call, z_callK, z_chain, z_body, z_rdd, z_rds, z_int, z_vI, z_vB, z_le, z_eqi, z_nei, z_nes, z_eqs, z_vInt, z_vI2, z_isN, z_notN, z_enumt, z_enuml, z_itl, z_itt, z_its, z_ixt0, z_ixt1, z_ixt2, z_lenl, z_lent, z_tyt, z_tyl, z_tyd, z_tyi, z_tyb, z_tys, z_tyn, isT_tt, isT_lt, isT_dt, isT_it, isT_bt, isT_st, isT_nt, isT_ti, isT_li, isT_di, isT_ii, isT_bi, isT_si, isT_ni, isT_tb, isT_lb, isT_db, isT_ib, isT_bb, isT_sb, isT_nb, isT_ts, isT_ls, isT_ds, isT_is, isT_bs, isT_ss, isT_ns, z_forn, z_mulx, z_lr1, z_lr1N, okR_le, dk_get, dk_set, dk_add, dk_ll, z_rdo, z_tyo, z_app, z_ext, z_star, z_lr2, z_listN, z_sqt, z_sql, z_leno, z_frz, fzL_d, z_lens, z_sls, z_sll, z_addl, z_addt, z_na10, z_dct0, z_disp, z_disp1, z_slt, z_revt, dk_rd2, dk_ty2, dk_mem1, dk_len0, z_tupl, z_tupt, z_listt, z_listl, z_in2, slots0, mVar, wipeS, pickBy, dk_rd0, dk_rd1, dk_ix0, dk_ix1, dk_ix2, dk_ne, dk_setn, dk_ty0, dk_ty1, Option.some.injEq, List.map_cons, List.map_nil, List.length_cons, List.length_nil, List.replicate_succ, List.replicate_zero, List.cons_append, List.nil_append, List.append_nil, List.getElem?_cons_zero, List.getElem?_cons_succ, List.set_cons_zero, List.set_cons_succ, List.zip_cons_cons, List.zip_nil_left, List.foldl_cons, List.foldl_nil, List.filterMap_cons, List.filterMap_nil, Nat.reduceSub, Nat.reduceAdd, Nat.reduceLT, Nat.reduceLeDiff, Nat.zero_add, Nat.add_zero, Nat.reduceEqDiff, decide_eq_true_eq, Bool.not_eq_true, Bool.not_true, Bool.not_false, Bool.not_not, ite_true, ite_false, if_true, if_false, reduceIte, Bool.false_eq_true, and_self, and_true, true_and, Int.reduceNeg, Int.reduceLT, Int.reduceLE, Int.reduceSub, Int.reduceAdd, Int.reduceMul, Int.reducePow, Int.reduceEq, Int.reduceNe, decide_true, decide_false, decide_not, Bool.and_true, Bool.true_and, Bool.or_true, Bool.true_or, ne_eq, not_true_eq_false, not_false_eq_true, Bool.and_self, false_and, and_false, reduceCtorEq, eq_self, beq_self_eq_true, List.set_nil, List.getElem?_nil, List.length_append, List.length_map, Bool.false_and, Bool.and_false, Bool.false_or, Bool.or_false, Int.cast_ofNat_Int, Int.reduceToNat, Int.zero_add, Int.add_zero, h1, hne]
  exact ⟨_, rfl⟩
end
theorem draw_nil {rest : Mm} {m : Int} (hm : 0 < m) (hm2 : m < 1073741824) {cells : List Int} {st : Int} {n : Nat} {hp : ∀ c ∈ ([] : List Int), 0 ≤ c} {hlen : ([] : List Int).length ≤ 63} {c1 : 0 < cells.length} {c2 : cells.length ≤ 64} (hb : n < 4611686018427387904) : ∃ (x : Int), body 7 b_ldraw [.obj 2, .d (.int m)] ((Jq.mk [] cells st n hp hlen c1 c2).mem rest) = .ok (.d (.int (x.fmod m))) ((Jq.mk [] cells st (n + 1) hp hlen c1 c2).mem rest) := by
  have hne : m ≠ 0 := by omega
  obtain ⟨y, e5⟩ := ds5 (rest := rest) (m := m) (cells := cells) (st := st) (n := n) (hp := hp) (hlen := hlen) (c1 := c1) (c2 := c2)
  obtain ⟨z, e6⟩ := ds6 (m := m) (y := y.fmod 4294967291) (ds0 hb) (M := JA0 cells st (n + 1) hp hlen c1 c2 rest)
  obtain ⟨v, e7⟩ := ds7 (m := m) (c := (n : Int) + 1) (y := z.fmod 4294967291) (M := JA0 cells st (n + 1) hp hlen c1 c2 rest)
  obtain ⟨u, e8⟩ := ds8 (m := m) (c := (n : Int) + 1) (y := v) hne (M := JA0 cells st (n + 1) hp hlen c1 c2 rest)
  refine ⟨u, ?_⟩
  rw [z_body]
  unfold b_ldraw
  show (sSeq _ _ [some (.obj 2), some (.d (.int m)), none, none, none, none, none] (JA0 cells st n hp hlen c1 c2 rest)).out = _
  rw [seq_step ds1, seq_step ds2, seq_step ds3, seq_step ds4, seq_step e5, seq_step e6, seq_step e7, e8]
  rfl
theorem draw_cons {rest : Mm} {m : Int} (hm : 0 < m) (hm2 : m < 1073741824) {c : Int} {fs cells : List Int} {st : Int} {n : Nat} {hp : ∀ x ∈ c :: fs, 0 ≤ x} {hlen : (c :: fs).length ≤ 63} {c1 : 0 < cells.length} {c2 : cells.length ≤ 64} : ∃ (x : Int) (q' : Jq), body 7 b_ldraw [.obj 2, .d (.int m)] ((Jq.mk (c :: fs) cells st n hp hlen c1 c2).mem rest) = .ok (.d (.int (x.fmod m))) (q'.mem rest) ∧ q'.n = n := by
  have hne : m ≠ 0 := by omega
  have hab : m.natAbs < 1073741824 := by omega
  have hc := hp c (List.mem_cons_self ..)
  unfold b_ldraw
  simp only [z_bok, z_bsok, z_bbad, z_bsbad, z_seqbad, z_outbad, z_asgbad, small_fmod, small_lit, fits_le, smallR_lit, z_na64, z_bif, z_bsif, z_noer, z_seqn, z_seqr, z_seqif, z_outr, z_outn, z_outif, z_C, z_op, z_T, z_tand, z_tor, z_tnot, z_and, z_or, z_not, z_if, z_nil, z_cons, z_tup, z_lst, z_new, z_allD0, z_allD1, z_map, z_sNil, z_sSeq, z_sIf, z_sDrop, z_sRet, z_sAsg, z_asg, z_asgif, z_sPar, z_gN, z_gT, z_gsNil, z_gsCons, z_obind, z_gSet, z_B, z_It, z_Enum, z_R1, z_R2, z_r1, z_r2, z_Comp, z_For, z_Yes, z_M, z_Sl, z_oN, z_oS, z_Rev, z_Neg, z_IsI, z_call, z_callK, z_chain, z_body, z_rdd, z_rds, z_int, z_vI, z_vB, z_le, z_eqi, z_nei, z_nes, z_eqs, z_vInt, z_vI2, z_isN, z_notN, z_enumt, z_enuml, z_itl, z_itt, z_its, z_ixt0, z_ixt1, z_ixt2, z_lenl, z_lent, z_tyt, z_tyl, z_tyd, z_tyi, z_tyb, z_tys, z_tyn, isT_tt, isT_lt, isT_dt, isT_it, isT_bt, isT_st, isT_nt, isT_ti, isT_li, isT_di, isT_ii, isT_bi, isT_si, isT_ni, isT_tb, isT_lb, isT_db, isT_ib, isT_bb, isT_sb, isT_nb, isT_ts, isT_ls, isT_ds, isT_is, isT_bs, isT_ss, isT_ns, z_forn, z_mulx, z_lr1, z_lr1N, okR_le, dk_get, dk_set, dk_add, dk_ll, z_rdo, z_tyo, z_app, z_ext, z_star, z_lr2, z_listN, z_sqt, z_sql, z_leno, z_frz, fzL_d, z_lens, z_sls, z_sll, z_addl, z_addt, z_na10, z_dct0, z_disp, z_disp1, z_slt, z_revt, dk_rd2, dk_ty2, dk_mem1, dk_len0, z_tupl, z_tupt, z_listt, z_listl, z_in2, slots0, mVar, wipeS, pickBy, dk_rd0, dk_rd1, dk_ix0, dk_ix1, dk_ix2, dk_ne, dk_setn, dk_ty0, dk_ty1, Option.some.injEq, List.map_cons, List.map_nil, List.length_cons, List.length_nil, List.replicate_succ, List.replicate_zero, List.cons_append, List.nil_append, List.append_nil, List.getElem?_cons_zero, List.getElem?_cons_succ, List.set_cons_zero, List.set_cons_succ, List.zip_cons_cons, List.zip_nil_left, List.foldl_cons, List.foldl_nil, List.filterMap_cons, List.filterMap_nil, Nat.reduceSub, Nat.reduceAdd, Nat.reduceLT, Nat.reduceLeDiff, Nat.zero_add, Nat.add_zero, Nat.reduceEqDiff, decide_eq_true_eq, Bool.not_eq_true, Bool.not_true, Bool.not_false, Bool.not_not, ite_true, ite_false, if_true, if_false, reduceIte, Bool.false_eq_true, and_self, and_true, true_and, Int.reduceNeg, Int.reduceLT, Int.reduceLE, Int.reduceSub, Int.reduceAdd, Int.reduceMul, Int.reducePow, Int.reduceEq, Int.reduceNe, decide_true, decide_false, decide_not, Bool.and_true, Bool.true_and, Bool.or_true, Bool.true_or, ne_eq, not_true_eq_false, not_false_eq_true, Bool.and_self, false_and, and_false, reduceCtorEq, eq_self, beq_self_eq_true, List.set_nil, List.getElem?_nil, List.length_append, List.length_map, Bool.false_and, Bool.and_false, Bool.false_or, Bool.or_false, Int.cast_ofNat_Int, Int.reduceToNat, Int.zero_add, Int.add_zero, jq_rd0, jq_rd1, jq_rd2, jq_ne, jq_far, jq_ty0, jq_pop, hne, hab, List.isEmpty_cons]
  by_cases hlt : c ≥ m
  · have hv : 0 ≤ c.fdiv m := Int.fdiv_nonneg hc (by omega)
    have hfl : fs.length < 63 := by rw [List.length_cons] at hlen; omega
    simp only [z_bok, z_bsok, z_bbad, z_bsbad, z_seqbad, z_outbad, z_asgbad, small_fmod, small_lit, fits_le, smallR_lit, z_na64, z_bif, z_bsif, z_noer, z_seqn, z_seqr, z_seqif, z_outr, z_outn, z_outif, z_C, z_op, z_T, z_tand, z_tor, z_tnot, z_and, z_or, z_not, z_if, z_nil, z_cons, z_tup, z_lst, z_new, z_allD0, z_allD1, z_map, z_sNil, z_sSeq, z_sIf, z_sDrop, z_sRet, z_sAsg, z_asg, z_asgif, z_sPar, z_gN, z_gT, z_gsNil, z_gsCons, z_obind, z_gSet, z_B, z_It, z_Enum, z_R1, z_R2, z_r1, z_r2, z_Comp, z_For, z_Yes, z_M, z_Sl, z_oN, z_oS, z_Rev, z_Neg, z_IsI, z_call, z_callK, z_chain, z_body, z_rdd, z_rds, z_int, z_vI, z_vB, z_le, z_eqi, z_nei, z_nes, z_eqs, z_vInt, z_vI2, z_isN, z_notN, z_enumt, z_enuml, z_itl, z_itt, z_its, z_ixt0, z_ixt1, z_ixt2, z_lenl, z_lent, z_tyt, z_tyl, z_tyd, z_tyi, z_tyb, z_tys, z_tyn, isT_tt, isT_lt, isT_dt, isT_it, isT_bt, isT_st, isT_nt, isT_ti, isT_li, isT_di, isT_ii, isT_bi, isT_si, isT_ni, isT_tb, isT_lb, isT_db, isT_ib, isT_bb, isT_sb, isT_nb, isT_ts, isT_ls, isT_ds, isT_is, isT_bs, isT_ss, isT_ns, z_forn, z_mulx, z_lr1, z_lr1N, okR_le, dk_get, dk_set, dk_add, dk_ll, z_rdo, z_tyo, z_app, z_ext, z_star, z_lr2, z_listN, z_sqt, z_sql, z_leno, z_frz, fzL_d, z_lens, z_sls, z_sll, z_addl, z_addt, z_na10, z_dct0, z_disp, z_disp1, z_slt, z_revt, dk_rd2, dk_ty2, dk_mem1, dk_len0, z_tupl, z_tupt, z_listt, z_listl, z_in2, slots0, mVar, wipeS, pickBy, dk_rd0, dk_rd1, dk_ix0, dk_ix1, dk_ix2, dk_ne, dk_setn, dk_ty0, dk_ty1, Option.some.injEq, List.map_cons, List.map_nil, List.length_cons, List.length_nil, List.replicate_succ, List.replicate_zero, List.cons_append, List.nil_append, List.append_nil, List.getElem?_cons_zero, List.getElem?_cons_succ, List.set_cons_zero, List.set_cons_succ, List.zip_cons_cons, List.zip_nil_left, List.foldl_cons, List.foldl_nil, List.filterMap_cons, List.filterMap_nil, Nat.reduceSub, Nat.reduceAdd, Nat.reduceLT, Nat.reduceLeDiff, Nat.zero_add, Nat.add_zero, Nat.reduceEqDiff, decide_eq_true_eq, Bool.not_eq_true, Bool.not_true, Bool.not_false, Bool.not_not, ite_true, ite_false, if_true, if_false, reduceIte, Bool.false_eq_true, and_self, and_true, true_and, Int.reduceNeg, Int.reduceLT, Int.reduceLE, Int.reduceSub, Int.reduceAdd, Int.reduceMul, Int.reducePow, Int.reduceEq, Int.reduceNe, decide_true, decide_false, decide_not, Bool.and_true, Bool.true_and, Bool.or_true, Bool.true_or, ne_eq, not_true_eq_false, not_false_eq_true, Bool.and_self, false_and, and_false, reduceCtorEq, eq_self, beq_self_eq_true, List.set_nil, List.getElem?_nil, List.length_append, List.length_map, Bool.false_and, Bool.and_false, Bool.false_or, Bool.or_false, Int.cast_ofNat_Int, Int.reduceToNat, Int.zero_add, Int.add_zero, jq_rd0, jq_rd1, jq_rd2, jq_ty0, hne, hab, hlt, jq_ins hfl hv]
    exact ⟨_, Jq.mk (c.fdiv m :: fs) cells st n _ _ _ _, rfl, rfl⟩
  · simp only [z_bok, z_bsok, z_bbad, z_bsbad, z_seqbad, z_outbad, z_asgbad, small_fmod, small_lit, fits_le, smallR_lit, z_na64, z_bif, z_bsif, z_noer, z_seqn, z_seqr, z_seqif, z_outr, z_outn, z_outif, z_C, z_op, z_T, z_tand, z_tor, z_tnot, z_and, z_or, z_not, z_if, z_nil, z_cons, z_tup, z_lst, z_new, z_allD0, z_allD1, z_map, z_sNil, z_sSeq, z_sIf, z_sDrop, z_sRet, z_sAsg, z_asg, z_asgif, z_sPar, z_gN, z_gT, z_gsNil, z_gsCons, z_obind, z_gSet, z_B, z_It, z_Enum, z_R1, z_R2, z_r1, z_r2, z_Comp, z_For, z_Yes, z_M, z_Sl, z_oN, z_oS, z_Rev, z_Neg, z_IsI, z_call, z_callK, z_chain, z_body, z_rdd, z_rds, z_int, z_vI, z_vB, z_le, z_eqi, z_nei, z_nes, z_eqs, z_vInt, z_vI2, z_isN, z_notN, z_enumt, z_enuml, z_itl, z_itt, z_its, z_ixt0, z_ixt1, z_ixt2, z_lenl, z_lent, z_tyt, z_tyl, z_tyd, z_tyi, z_tyb, z_tys, z_tyn, isT_tt, isT_lt, isT_dt, isT_it, isT_bt, isT_st, isT_nt, isT_ti, isT_li, isT_di, isT_ii, isT_bi, isT_si, isT_ni, isT_tb, isT_lb, isT_db, isT_ib, isT_bb, isT_sb, isT_nb, isT_ts, isT_ls, isT_ds, isT_is, isT_bs, isT_ss, isT_ns, z_forn, z_mulx, z_lr1, z_lr1N, okR_le, dk_get, dk_set, dk_add, dk_ll, z_rdo, z_tyo, z_app, z_ext, z_star, z_lr2, z_listN, z_sqt, z_sql, z_leno, z_frz, fzL_d, z_lens, z_sls, z_sll, z_addl, z_addt, z_na10, z_dct0, z_disp, z_disp1, z_slt, z_revt, dk_rd2, dk_ty2, dk_mem1, dk_len0, z_tupl, z_tupt, z_listt, z_listl, z_in2, slots0, mVar, wipeS, pickBy, dk_rd0, dk_rd1, dk_ix0, dk_ix1, dk_ix2, dk_ne, dk_setn, dk_ty0, dk_ty1, Option.some.injEq, List.map_cons, List.map_nil, List.length_cons, List.length_nil, List.replicate_succ, List.replicate_zero, List.cons_append, List.nil_append, List.append_nil, List.getElem?_cons_zero, List.getElem?_cons_succ, List.set_cons_zero, List.set_cons_succ, List.zip_cons_cons, List.zip_nil_left, List.foldl_cons, List.foldl_nil, List.filterMap_cons, List.filterMap_nil, Nat.reduceSub, Nat.reduceAdd, Nat.reduceLT, Nat.reduceLeDiff, Nat.zero_add, Nat.add_zero, Nat.reduceEqDiff, decide_eq_true_eq, Bool.not_eq_true, Bool.not_true, Bool.not_false, Bool.not_not, ite_true, ite_false, if_true, if_false, reduceIte, Bool.false_eq_true, and_self, and_true, true_and, Int.reduceNeg, Int.reduceLT, Int.reduceLE, Int.reduceSub, Int.reduceAdd, Int.reduceMul, Int.reducePow, Int.reduceEq, Int.reduceNe, decide_true, decide_false, decide_not, Bool.and_true, Bool.true_and, Bool.or_true, Bool.true_or, ne_eq, not_true_eq_false, not_false_eq_true, Bool.and_self, false_and, and_false, reduceCtorEq, eq_self, beq_self_eq_true, List.set_nil, List.getElem?_nil, List.length_append, List.length_map, Bool.false_and, Bool.and_false, Bool.false_or, Bool.or_false, Int.cast_ofNat_Int, Int.reduceToNat, Int.zero_add, Int.add_zero, jq_rd0, jq_rd1, jq_rd2, jq_ty0, hne, hab, hlt]
    exact ⟨_, Jq.mk fs cells st n _ _ _ _, rfl, rfl⟩
theorem draw_ok (q : Jq) (rest : Mm) {m : Int} (hm : 0 < m) (hm2 : m < 1073741824) (hb : q.n < 4611686018427387904) : ∃ (r : Int) (q' : Jq), d_ldraw [.obj 2, .d (.int m)] (q.mem rest) = .ok (.d (.int r)) (q'.mem rest) ∧ 0 ≤ r ∧ r < m ∧ q'.n ≤ q.n + 1 := by
  have key : ∃ (x : Int) (q' : Jq), body 7 b_ldraw [.obj 2, .d (.int m)] (q.mem rest) = .ok (.d (.int (x.fmod m))) (q'.mem rest) ∧ q'.n ≤ q.n + 1 := by
    obtain ⟨far, cells, st, n, hp, hlen, c1, c2⟩ := q
    cases far with
    | nil =>
      obtain ⟨x, e⟩ := draw_nil (rest := rest) (cells := cells) (st := st) (n := n) (hp := hp) (hlen := hlen) (c1 := c1) (c2 := c2) hm hm2 hb
      exact ⟨x, _, e, Nat.le_refl _⟩
    | cons c fs =>
      obtain ⟨x, q', e, hn⟩ := draw_cons (rest := rest) (c := c) (fs := fs) (cells := cells) (st := st) (n := n) (hp := hp) (hlen := hlen) (c1 := c1) (c2 := c2) hm hm2
      exact ⟨x, q', e, by rw [hn]; exact Nat.le_succ n⟩
  obtain ⟨x, q', e, hn⟩ := key
  exact ⟨_, q', z_trim e rfl, Int.fmod_nonneg_of_pos _ hm, Int.fmod_lt_of_pos _ hm, hn⟩
theorem pick_ok (q : Jq) (rest : Mm) {ds : List PyData} (h : 0 < ds.length) (hl : ds.length < 1073741824) (hb : q.n < 4611686018427387904) : ∃ x ∈ ds, ∃ q' : Jq, d_lpick [.obj 2, .d (.list ds)] (q.mem rest) = .ok (.d x) (q'.mem rest) ∧ q'.n ≤ q.n + 1 := by
  obtain ⟨r, q', e, h0, h1, h2⟩ := draw_ok q rest (m := ds.length) (by omega) (by omega) hb
  obtain ⟨x, hx, hm⟩ := atI_in h0 h1
  refine ⟨x, hm, q', z_trim ?_ rfl, h2⟩
  unfold b_lpick
  simp only [z_bok, z_bsok, z_bbad, z_bsbad, z_seqbad, z_outbad, z_asgbad, small_fmod, small_lit, fits_le, smallR_lit, z_na64, z_bif, z_bsif, z_noer, z_seqn, z_seqr, z_seqif, z_outr, z_outn, z_outif, z_C, z_op, z_T, z_tand, z_tor, z_tnot, z_and, z_or, z_not, z_if, z_nil, z_cons, z_tup, z_lst, z_new, z_allD0, z_allD1, z_map, z_sNil, z_sSeq, z_sIf, z_sDrop, z_sRet, z_sAsg, z_asg, z_asgif, z_sPar, z_gN, z_gT, z_gsNil, z_gsCons, z_obind, z_gSet, z_B, z_It, z_Enum, z_R1, z_R2, z_r1, z_r2, z_Comp, z_For, z_Yes, z_M, z_Sl, z_oN, z_oS, z_Rev, z_Neg, z_IsI, z_call, z_callK, z_chain, z_body, z_rdd, z_rds, z_int, z_vI, z_vB, z_le, z_eqi, z_nei, z_nes, z_eqs, z_vInt, z_vI2, z_isN, z_notN, z_enumt, z_enuml, z_itl, z_itt, z_its, z_ixt0, z_ixt1, z_ixt2, z_lenl, z_lent, z_tyt, z_tyl, z_tyd, z_tyi, z_tyb, z_tys, z_tyn, isT_tt, isT_lt, isT_dt, isT_it, isT_bt, isT_st, isT_nt, isT_ti, isT_li, isT_di, isT_ii, isT_bi, isT_si, isT_ni, isT_tb, isT_lb, isT_db, isT_ib, isT_bb, isT_sb, isT_nb, isT_ts, isT_ls, isT_ds, isT_is, isT_bs, isT_ss, isT_ns, z_forn, z_mulx, z_lr1, z_lr1N, okR_le, dk_get, dk_set, dk_add, dk_ll, z_rdo, z_tyo, z_app, z_ext, z_star, z_lr2, z_listN, z_sqt, z_sql, z_leno, z_frz, fzL_d, z_lens, z_sls, z_sll, z_addl, z_addt, z_na10, z_dct0, z_disp, z_disp1, z_slt, z_revt, dk_rd2, dk_ty2, dk_mem1, dk_len0, z_tupl, z_tupt, z_listt, z_listl, z_in2, slots0, mVar, wipeS, pickBy, dk_rd0, dk_rd1, dk_ix0, dk_ix1, dk_ix2, dk_ne, dk_setn, dk_ty0, dk_ty1, Option.some.injEq, List.map_cons, List.map_nil, List.length_cons, List.length_nil, List.replicate_succ, List.replicate_zero, List.cons_append, List.nil_append, List.append_nil, List.getElem?_cons_zero, List.getElem?_cons_succ, List.set_cons_zero, List.set_cons_succ, List.zip_cons_cons, List.zip_nil_left, List.foldl_cons, List.foldl_nil, List.filterMap_cons, List.filterMap_nil, Nat.reduceSub, Nat.reduceAdd, Nat.reduceLT, Nat.reduceLeDiff, Nat.zero_add, Nat.add_zero, Nat.reduceEqDiff, decide_eq_true_eq, Bool.not_eq_true, Bool.not_true, Bool.not_false, Bool.not_not, ite_true, ite_false, if_true, if_false, reduceIte, Bool.false_eq_true, and_self, and_true, true_and, Int.reduceNeg, Int.reduceLT, Int.reduceLE, Int.reduceSub, Int.reduceAdd, Int.reduceMul, Int.reducePow, Int.reduceEq, Int.reduceNe, decide_true, decide_false, decide_not, Bool.and_true, Bool.true_and, Bool.or_true, Bool.true_or, ne_eq, not_true_eq_false, not_false_eq_true, Bool.and_self, false_and, and_false, reduceCtorEq, eq_self, beq_self_eq_true, List.set_nil, List.getElem?_nil, List.length_append, List.length_map, Bool.false_and, Bool.and_false, Bool.false_or, Bool.or_false, Int.cast_ofNat_Int, Int.reduceToNat, Int.zero_add, Int.add_zero, jq_rd2, e, z_ixXl hx]
theorem fd_ldraw : FnN DkQ 2 d_ldraw (fun a : Int × Unit => drawN a.1) (fun a => [.int a.1]) PyData.int := fnQ_draw draw_ok
theorem fd_lpick {α : Type} (e : α → PyData) : FnN DkQ 2 d_lpick (fun a : List α × Unit => pickN a.1) (fun a => [eL e a.1]) e := fnQ_pick pick_ok e
theorem q_lmixed {α : Type} (e : α → PyData) (R0 : Mm) (h0 : ∀ q, (DkQ.m0 q ++ R0).all (MO.below (DkQ.n + R0.length)) = true) (items : List α) : JS (μ := Dn) (DkQ.B R0 h0) [.o 2, .v (eL e items), .n, .n] [] b_lmixed (mixQ e items) (Kr _ (eL e)) := by
  unfold mixQ b_lmixed
  refine js_seq (js_par (α := List α × List α × Unit) (is := [2, 3]) (sps := fun a => [.l (a.1.map e), .l (a.2.1.map e)]) (JA.cv (ja_cons (jx_listN (e := e) (x := eL e) (jo_of (jx_var (i := 1) (x := eL e) items rfl)) (fun _ => .inl rfl)) (ja_cons (JX.map (sp' := fun q => .l (List.map e q)) (jx_new (xs := fun _ => []) ja_nil) (fun _ => ([] : List α)) (fun _ => rfl)) ja_nil)) rfl) xo_ne) fun a => ?_
  refine js_seqF (Γσ := fun st : List α × List α => [.o 2, .v (eL e items), .l (st.1.map e), .l (st.2.map e)]) (y := eL e) id kt_kr (js_while (a.1, a.2.1) (fun st => jt_of (JX.cv (f' := lf (neO (eL e st.1) (eL e []))) (jx_opM (xc := PyData.bool) (fun (p q : List α) => neO (eL e p) (eL e q)) (jo_list (i := 2) (x := eL e) st.1 rfl) (JX.ro (JX.mapV (y := eL e) (jx_lst (xs := fun _ => []) ja_nil) (fun _ => ([] : List α)) (fun _ => rfl))) (fun p q r h => o2_neD _ _ r h)) rfl)) (fun _ => xo_ne) (wkm [true, true, true, true] rfl) fun st => ?_) fun st => ?_
  · refine js_go (fun z : List α × α × List α => (z.2.2, z.1)) (js_append2 (i := 3) (g := Prod.fst) st.2 (jx_pop (i := 2) (y := e) st.1 (JX.cv (f' := drawN (st.1.length : Int)) (jx_callN (fun a : Unit × Int × Unit => a.2) fd_ldraw (ja_cons (jx_obj (j := 2) (i := 0) rfl jq_nf) (ja_cons (jx_read (y := PyData.int) (fun a : List α => (a.length : Int)) (jo_list (i := 2) (x := eL e) st.1 rfl) (fun a v M r => cz_lenL a v M r)) ja_nil))) rfl) rfl) rfl (fun _ => rfl) xo_ne) fun z => wkm [true, true, true, true] rfl
  · exact js_ghL (i := 3) rfl (JS.ret (js_ret (y := eL e) (jx_fix (i := 3) (x := eL e) st.2 rfl) xo_ne))
theorem fd_lmixed {α : Type} (e : α → PyData) : FnN DkQ 2 d_lmixed (fun a : List α × Unit => mixN e a.1) (fun a => [eL e a.1]) (eL e) :=
  FnN.weaken (fnN_of (f := fun a : List α × Unit => mixQ e a.1) (fun a => [.o 2, .v (eL e a.1), .n, .n]) fun a R0 h0 => q_lmixed e R0 h0 a.1) fun a b Q h => mixN_le e a.1 b Q h
end Zl
namespace Zl
open PySem PySem.Spec PyProof.Rows L2 Zm
open WM (pu bd)
open LO (lf)
noncomputable def p1_reached (pairs : (List (Int × Int))) (partners : (List (Int × Int))) (waiting : (List Int)) (found : (List Int)) (backs : (List Int)) (back : Int) : Option ((List Int) × (List Int)) :=
  bd (lf (psh backs back)) fun backs_12 => bd (pu ((dget partners back).isSome)) fun k15 => if k15 = true then bd (bd (lf (dget partners back)) fun x14 => lf (psh waiting x14)) fun waiting_13 => pu ((waiting_13, backs_12)) else bd (pu ()) fun _ => pu ((waiting, backs_12))
theorem q1_reached (𝔅 : Bas) (pairs : (List (Int × Int))) (partners : (List (Int × Int))) (waiting : (List Int)) (found : (List Int)) (backs : (List Int)) (back : Int) : JS (μ := Option) 𝔅 [.n, .v ((eT (eP2 PyData.int PyData.int)) pairs), .n, .v ((eK PyData.int PyData.int) partners), .n, .l (waiting.map PyData.int), .l (found.map PyData.int), .l (backs.map PyData.int), .n, .v (PyData.int back), .n] [] l1_reached (p1_reached pairs partners waiting found backs back) (Kg 𝔅 (fun (st : ((List Int) × (List Int))) => [.n, .v ((eT (eP2 PyData.int PyData.int)) pairs), .n, .v ((eK PyData.int PyData.int) partners), .n, .l (st.1.map PyData.int), .l (found.map PyData.int), .l (st.2.map PyData.int), .n, .n, .n])) := by
  unfold p1_reached l1_reached
  exact (js_seq (JS.ca (f' := lf (psh backs back)) (js_append (i := 7) backs (jx_var (i := 9) (x := PyData.int) back rfl) rfl xo_ne)) (fun backs_12 => (js_if (JT.ca (f' := pu ((dget partners back).isSome)) (jt_of (jx_op (xc := PyData.bool) (fun (p : Int) (q : (List (Int × Int))) => (dget q p).isSome) (JX.ro (jx_var (i := 9) (x := PyData.int) back rfl)) (JX.ro (jx_var (i := 3) (x := (eK PyData.int PyData.int)) partners rfl)) (fun p q => o2_inK key_int p q)))) xo_ne (js_goG (Γσ := (fun (st : ((List Int) × (List Int))) => [.n, .v ((eT (eP2 PyData.int PyData.int)) pairs), .n, .v ((eK PyData.int PyData.int) partners), .n, .l (st.1.map PyData.int), .l (found.map PyData.int), .l (st.2.map PyData.int), .n, .n, .n])) (fun waiting_13 => (waiting_13, backs_12)) (JS.ca (f' := bd (lf (dget partners back)) fun x14 => lf (psh waiting x14)) (js_append (i := 5) waiting (jx_opM (xc := PyData.int) (fun (p : (List (Int × Int))) (q : Int) => dget p q) (JX.ro (jx_var (i := 3) (x := (eK PyData.int PyData.int)) partners rfl)) (JX.ro (jx_var (i := 9) (x := PyData.int) back rfl)) (fun p q r h => o2_ixK key_int p q r h)) rfl xo_ne)) (fun waiting_13 => wkm [false, true, false, true, false, true, true, true, false, false, false] rfl)) (js_goG (Γσ := (fun (st : ((List Int) × (List Int))) => [.n, .v ((eT (eP2 PyData.int PyData.int)) pairs), .n, .v ((eK PyData.int PyData.int) partners), .n, .l (st.1.map PyData.int), .l (found.map PyData.int), .l (st.2.map PyData.int), .n, .n, .n])) (fun _ => (waiting, backs_12)) (js_nil (Γ1 := fun _ => [.n, .v ((eT (eP2 PyData.int PyData.int)) pairs), .n, .v ((eK PyData.int PyData.int) partners), .n, .l (waiting.map PyData.int), .l (found.map PyData.int), .l (backs_12.map PyData.int), .n, .v (PyData.int back), .n]) () .refl) (fun _ => wkm [false, true, false, true, false, true, true, true, false, false, false] rfl)))))
noncomputable def c0_reachedP (pairs : (List (Int × Int))) (partners : (List (Int × Int))) (waiting : (List Int)) (found : (List Int)) (backs : (List Int)) : Option Bool :=
  pu (!decide (waiting = ([] : (List Int))))
theorem cq0_reached (𝔅 : Bas) (pairs : (List (Int × Int))) (partners : (List (Int × Int))) (waiting : (List Int)) (found : (List Int)) (backs : (List Int)) : JT (μ := Option) 𝔅 [.n, .v ((eT (eP2 PyData.int PyData.int)) pairs), .n, .v ((eK PyData.int PyData.int) partners), .n, .l (waiting.map PyData.int), .l (found.map PyData.int), .l (backs.map PyData.int), .n, .n, .n] c0_reached (c0_reachedP pairs partners waiting found backs) := by
  unfold c0_reachedP c0_reached
  exact (JT.ca (f' := pu (!decide (waiting = ([] : (List Int))))) (jt_of (jx_op (xc := PyData.bool) (fun (p : (List Int)) (q : (List Int)) => !decide (p = q)) (jo_list (i := 5) (x := (eL PyData.int)) waiting rfl) (JX.ro (JX.mapV (y := (eL PyData.int)) (jx_lst (xs := fun _ => []) ja_nil) (fun _ => ([] : (List Int))) (fun _ => rfl))) (fun p q => o2_neE (eqe_L eqe_I) (by decide) p q))))
noncomputable def p0_reached (pairs : (List (Int × Int))) (partners : (List (Int × Int))) (waiting : (List Int)) (found : (List Int)) (backs : (List Int)) : Option (Tn ((List Int) × (List Int) × (List Int)) ((List Int) × (List Int))) :=
  bd (lf (popL waiting)) fun here_9 => bd (lf (psh found here_9.1)) fun found_10 => bd (bd (lf (lim ((List.filter (fun (y11 : (Int × Int)) => ((decide (y11.1 = here_9.1)) && (!mem y11.2 backs))) pairs).map (fun (y11 : (Int × Int)) => y11.2)))) fun x18 => forM' (fun (st16 : ((List Int) × (List Int))) (y17 : Int) => p1_reached pairs partners st16.1 found_10 st16.2 y17) x18 (here_9.2, backs)) fun s19 => pu (Tn.go (s19.1, found_10, s19.2))
theorem q0_reached (𝔅 : Bas) (pairs : (List (Int × Int))) (partners : (List (Int × Int))) (waiting : (List Int)) (found : (List Int)) (backs : (List Int)) : JS (μ := Option) 𝔅 [.n, .v ((eT (eP2 PyData.int PyData.int)) pairs), .n, .v ((eK PyData.int PyData.int) partners), .n, .l (waiting.map PyData.int), .l (found.map PyData.int), .l (backs.map PyData.int), .n, .n, .n] [] l0_reached (p0_reached pairs partners waiting found backs) (Ks 𝔅 (fun (st : ((List Int) × (List Int) × (List Int))) => [.n, .v ((eT (eP2 PyData.int PyData.int)) pairs), .n, .v ((eK PyData.int PyData.int) partners), .n, .l (st.1.map PyData.int), .l (st.2.1.map PyData.int), .l (st.2.2.map PyData.int), .n, .n, .n]) (eP2 (eL PyData.int) (eL PyData.int))) := by
  unfold p0_reached l0_reached
  exact (js_seq (JS.ca (f' := lf (popL waiting)) (js_asg2 (𝔅 := 𝔅) (Γ := [.n, .v ((eT (eP2 PyData.int PyData.int)) pairs), .n, .v ((eK PyData.int PyData.int) partners), .n, .l (waiting.map PyData.int), .l (found.map PyData.int), .l (backs.map PyData.int), .n, .n, .n]) (i := 8) (jx_pop0 (i := 5) (y := PyData.int) waiting rfl) xo_ne)) (fun here_9 => (js_seq (JS.ca (f' := lf (psh found here_9.1)) (js_append (i := 6) found (jx_var (i := 8) (x := PyData.int) here_9.1 rfl) rfl xo_ne)) (fun found_10 => (js_go (y := (eP2 (eL PyData.int) (eL PyData.int))) (Γσ := (fun (st : ((List Int) × (List Int) × (List Int))) => [.n, .v ((eT (eP2 PyData.int PyData.int)) pairs), .n, .v ((eK PyData.int PyData.int) partners), .n, .l (st.1.map PyData.int), .l (st.2.1.map PyData.int), .l (st.2.2.map PyData.int), .n, .n, .n])) (fun s19 => (s19.1, found_10, s19.2)) (JS.ca (f' := bd (lf (lim ((List.filter (fun (y11 : (Int × Int)) => ((decide (y11.1 = here_9.1)) && (!mem y11.2 backs))) pairs).map (fun (y11 : (Int × Int)) => y11.2)))) fun x18 => forM' (fun (st16 : ((List Int) × (List Int))) (y17 : Int) => p1_reached pairs partners st16.1 found_10 st16.2 y17) x18 (here_9.2, backs)) (js_for (enc := PyData.int) (Γσ := (fun (st16 : ((List Int) × (List Int))) => [.n, .v ((eT (eP2 PyData.int PyData.int)) pairs), .n, .v ((eK PyData.int PyData.int) partners), .n, .l (st16.1.map PyData.int), .l (found_10.map PyData.int), .l (st16.2.map PyData.int), .n, .n, .n]))  (fb := fun (st16 : ((List Int) × (List Int))) (y17 : Int) => p1_reached pairs partners st16.1 found_10 st16.2 y17) (here_9.2, backs) (JI.ca (f' := lf (lim ((List.filter (fun (y11 : (Int × Int)) => ((decide (y11.1 = here_9.1)) && (!mem y11.2 backs))) pairs).map (fun (y11 : (Int × Int)) => y11.2)))) (ji_list (enc := PyData.int) (JX.ca (jx_comp (enc := (eP2 PyData.int PyData.int)) (y := PyData.int) (ft := fun (y11 : (Int × Int)) => pu ((decide (y11.1 = here_9.1)) && (!mem y11.2 backs))) (fe := fun (y11 : (Int × Int)) => pu y11.2) (ji_tup (enc := (eP2 PyData.int PyData.int)) (jx_var (i := 1) (x := (eT (eP2 PyData.int PyData.int))) pairs rfl)) (fun y11 => (jg_tup (n := 2) (jgs_cons jg_name (jgs_cons jg_name jgs_nil)))) (fun y11 => (JT.ca (f' := pu ((decide (y11.1 = here_9.1)) && (!mem y11.2 backs))) (JT.ca (JT.ca (f' := (if (decide (y11.1 = here_9.1)) = true then pu (!mem y11.2 backs) else pu false)) (jt_and (jt_of (jx_op (xc := PyData.bool) (fun (p : Int) (q : Int) => decide (p = q)) (JX.ro (jx_var (i := 10) (x := PyData.int) y11.1 rfl)) (JX.ro (jx_var (i := 8) (x := PyData.int) here_9.1 rfl)) (fun p q => o2_eqI p q))) (jt_of (jx_op (xc := PyData.bool) (fun (p : Int) (q : (List Int)) => !mem p q) (JX.ro (jx_var (i := 9) (x := PyData.int) y11.2 rfl)) (jo_list (i := 7) (x := (eL PyData.int)) backs rfl) (fun p q => o2_ni eqe_I (by decide) p q)))) rfl) (and_pu _ _)))) (fun y11 => (JX.ca (f' := pu y11.2) (jx_var (i := 9) (x := PyData.int) y11.2 rfl)))) (comp_pu (fun (y11 : (Int × Int)) => ((decide (y11.1 = here_9.1)) && (!mem y11.2 backs))) (fun (y11 : (Int × Int)) => y11.2))))) xo_ne (wkm [false, true, false, true, false, true, true, true, false, false, false] rfl) (fun st16 y17 => jg_name) (fun st16 y17 => q1_reached _ pairs partners st16.1 found_10 st16.2 y17))) (fun s19 => wkm [false, true, false, true, false, true, true, true, false, false, false] rfl))))))
noncomputable def p_reached (cutters : (List Int)) (pairs : (List (Int × Int))) (kept : (List (Int × Int))) : Option ((List Int) × (List Int)) :=
  bd (bd (lf (lim (List.map (fun (y2 : (Int × Int)) => ((y2.2, y2.1))) kept))) fun x3 => pu (dOfP x3)) fun partners_1 => bd (lf (lim (List.map (fun (y5 : (Int × Int)) => y5.1) kept))) fun bound_4 => bd (bd (lf (lim ((List.filter (fun (y6 : Int) => (!mem y6 bound_4)) cutters).map (fun (y6 : Int) => y6)))) fun x8 => pu (x8, (([] : (List Int))), (([] : (List Int))), ())) fun a7 => bd (WH.wh fun n => whM (ρ := ((List Int) × (List Int))) (fun (st20 : ((List Int) × (List Int) × (List Int))) => c0_reachedP pairs partners_1 st20.1 st20.2.1 st20.2.2) (fun (st20 : ((List Int) × (List Int) × (List Int))) => p0_reached pairs partners_1 st20.1 st20.2.1 st20.2.2) n (a7.1, a7.2.1, a7.2.2.1)) (fiE (fun s21 => pu ((s21.2.1, s21.2.2))) fun r22 => pu (r22))
theorem q_reached (𝔅 : Bas) (cutters : (List Int)) (pairs : (List (Int × Int))) (kept : (List (Int × Int))) : JS (μ := Option) 𝔅 [.v ((eT PyData.int) cutters), .v ((eT (eP2 PyData.int PyData.int)) pairs), .v ((eT (eP2 PyData.int PyData.int)) kept), .n, .n, .n, .n, .n, .n, .n, .n] [] b_reached (p_reached cutters pairs kept) (Kr _ (eP2 (eL PyData.int) (eL PyData.int))) := by
  unfold p_reached b_reached
  exact (js_seq (js_asg (i := 3) (sp := fun q => .v ((eK PyData.int PyData.int) q)) (JX.ca (f' := bd (lf (lim (List.map (fun (y2 : (Int × Int)) => ((y2.2, y2.1))) kept))) fun x3 => pu (dOfP x3)) (jx_read (y := (eK PyData.int PyData.int)) (fun a : (List (Int × Int)) => dOfP a) (JX.ro (JX.ca (jx_comp (enc := (eP2 PyData.int PyData.int)) (y := (eP2 PyData.int PyData.int)) (ft := fun (y2 : (Int × Int)) => pu true) (fe := fun (y2 : (Int × Int)) => pu ((y2.2, y2.1))) (ji_tup (enc := (eP2 PyData.int PyData.int)) (jx_var (i := 2) (x := (eT (eP2 PyData.int PyData.int))) kept rfl)) (fun y2 => (jg_tup (n := 2) (jgs_cons jg_name (jgs_cons jg_name jgs_nil)))) (fun y2 => (JT.ca (f' := pu true) jt_yes)) (fun y2 => (JX.ca (f' := pu ((y2.2, y2.1))) (JX.map (sp' := fun q => .v ((eP2 PyData.int PyData.int) q)) (jx_tup (xs := fun a : Int × Int × Unit => [PyData.int a.1, PyData.int a.2.1]) (ja_cons (jx_var (i := 9) (x := PyData.int) y2.2 rfl) (ja_cons (jx_var (i := 10) (x := PyData.int) y2.1 rfl) ja_nil))) (fun a : Int × Int × Unit => (a.1, a.2.1)) (fun _ => rfl))))) (comp_pu1 (fun (y2 : (Int × Int)) => ((y2.2, y2.1)))))) (fun a v M r => cz_dictK key_int a v M r))) xo_ne) (fun partners_1 => (js_seq (js_asg (i := 4) (sp := fun q => .v ((eL PyData.int) q)) (JX.ca (f' := lf (lim (List.map (fun (y5 : (Int × Int)) => y5.1) kept))) (JX.ca (jx_comp (enc := (eP2 PyData.int PyData.int)) (y := PyData.int) (ft := fun (y5 : (Int × Int)) => pu true) (fe := fun (y5 : (Int × Int)) => pu y5.1) (ji_tup (enc := (eP2 PyData.int PyData.int)) (jx_var (i := 2) (x := (eT (eP2 PyData.int PyData.int))) kept rfl)) (fun y5 => (jg_tup (n := 2) (jgs_cons jg_name (jgs_cons jg_name jgs_nil)))) (fun y5 => (JT.ca (f' := pu true) jt_yes)) (fun y5 => (JX.ca (f' := pu y5.1) (jx_var (i := 10) (x := PyData.int) y5.1 rfl)))) (comp_pu1 (fun (y5 : (Int × Int)) => y5.1)))) xo_ne) (fun bound_4 => (js_seq (js_tup (α := (List Int) × (List Int) × (List Int) × Unit) [5, 6, 7] (sps := (fun a => [.l (a.1.map PyData.int), .l (a.2.1.map PyData.int), .l (a.2.2.1.map PyData.int)])) (JA.ca (f' := bd (lf (lim ((List.filter (fun (y6 : Int) => (!mem y6 bound_4)) cutters).map (fun (y6 : Int) => y6)))) fun x8 => pu (x8, (([] : (List Int))), (([] : (List Int))), ())) (ja_cons (JX.ca (jx_compN (enc := PyData.int) (y := PyData.int) (ft := fun (y6 : Int) => pu (!mem y6 bound_4)) (fe := fun (y6 : Int) => pu y6) (ji_tup (enc := PyData.int) (jx_var (i := 0) (x := (eT PyData.int)) cutters rfl)) (fun y6 => jg_name) (fun y6 => (JT.ca (f' := pu (!mem y6 bound_4)) (jt_of (jx_op (xc := PyData.bool) (fun (p : Int) (q : (List Int)) => !mem p q) (JX.ro (jx_var (i := 10) (x := PyData.int) y6 rfl)) (JX.ro (jx_var (i := 4) (x := (eL PyData.int)) bound_4 rfl)) (fun p q => o2_ni eqe_I (by decide) p q))))) (fun y6 => (JX.ca (f' := pu y6) (jx_var (i := 10) (x := PyData.int) y6 rfl)))) (comp_pu (fun (y6 : Int) => (!mem y6 bound_4)) (fun (y6 : Int) => y6))) (ja_cons (JX.map (sp' := fun q => .l (List.map PyData.int q)) (jx_new (xs := fun a : Unit => []) ja_nil) (fun a : Unit => ([] : (List Int))) (fun _ => rfl)) (ja_cons (JX.map (sp' := fun q => .l (List.map PyData.int q)) (jx_new (xs := fun a : Unit => []) ja_nil) (fun a : Unit => ([] : (List Int))) (fun _ => rfl)) ja_nil)))) xo_ne) (fun a7 => (js_seqF id kt_kr (js_while (Γσ := (fun (st20 : ((List Int) × (List Int) × (List Int))) => [.n, .v ((eT (eP2 PyData.int PyData.int)) pairs), .n, .v ((eK PyData.int PyData.int) partners_1), .n, .l (st20.1.map PyData.int), .l (st20.2.1.map PyData.int), .l (st20.2.2.map PyData.int), .n, .n, .n])) (y := (eP2 (eL PyData.int) (eL PyData.int))) (fc := fun (st20 : ((List Int) × (List Int) × (List Int))) => c0_reachedP pairs partners_1 st20.1 st20.2.1 st20.2.2) (fb := fun (st20 : ((List Int) × (List Int) × (List Int))) => p0_reached pairs partners_1 st20.1 st20.2.1 st20.2.2) (a7.1, a7.2.1, a7.2.2.1) (fun st20 => cq0_reached _ pairs partners_1 st20.1 st20.2.1 st20.2.2) (fun _ => xo_ne) (wkm [false, true, false, true, false, true, true, true, false, false, false] rfl) (fun st20 => q0_reached _ pairs partners_1 st20.1 st20.2.1 st20.2.2)) (fun s21 => (js_ghL (i := 6) rfl (js_ghL (i := 7) rfl (JS.ret (js_ret (y := (eP2 (eL PyData.int) (eL PyData.int))) (JX.ca (f' := pu ((s21.2.1, s21.2.2))) (JX.map (sp' := fun q => .v ((eP2 (eL PyData.int) (eL PyData.int)) q)) (jx_tup (xs := fun a : (List Int) × (List Int) × Unit => [(eL PyData.int) a.1, (eL PyData.int) a.2.1]) (ja_cons (jx_fix (i := 6) (x := (eL PyData.int)) s21.2.1 rfl) (ja_cons (jx_fix (i := 7) (x := (eL PyData.int)) s21.2.2 rfl) ja_nil))) (fun a : (List Int) × (List Int) × Unit => (a.1, a.2.1)) (fun _ => rfl))) xo_ne))))))))))))
theorem fp_reached : FnP d_reached (fun a : (List Int) × (List (Int × Int)) × (List (Int × Int)) × Unit => p_reached a.1 a.2.1 a.2.2.1) (fun a => [(eT PyData.int) a.1, (eT (eP2 PyData.int PyData.int)) a.2.1, (eT (eP2 PyData.int PyData.int)) a.2.2.1]) (eP2 (eL PyData.int) (eL PyData.int)) :=
  fnP_of (fun a => [.v ((eT PyData.int) a.1), .v ((eT (eP2 PyData.int PyData.int)) a.2.1), .v ((eT (eP2 PyData.int PyData.int)) a.2.2.1), .n, .n, .n, .n, .n, .n, .n, .n]) (fun a M hM => q_reached _ a.1 a.2.1 a.2.2.1)
noncomputable def p3_lgreatest (pairs : (List (Int × Int))) (mates : (List (Int × Int))) (seen' : (List (Int × Bool))) (here : Int) (steps : (List (Int × Int))) (mine : Int) (goal : Int) : Option ((List (Int × Int))) :=
  bd (lf (dputO mates goal mine)) fun mates_12 => pu (mates_12)
theorem q3_lgreatest (𝔅 : Bas) (pairs : (List (Int × Int))) (mates : (List (Int × Int))) (seen' : (List (Int × Bool))) (here : Int) (steps : (List (Int × Int))) (mine : Int) (goal : Int) : JS (μ := Option) 𝔅 [.v ((eT (eP2 PyData.int PyData.int)) pairs), .k (eKs PyData.int PyData.int mates), .n, .n, .k (eKs PyData.int PyData.bool seen'), .n, .v (PyData.int here), .v ((eL (eP2 PyData.int PyData.int)) steps), .n, .n, .v (PyData.int mine), .v (PyData.int goal), .n] [] l3_lgreatest (p3_lgreatest pairs mates seen' here steps mine goal) (Kg 𝔅 (fun (st : ((List (Int × Int)))) => [.v ((eT (eP2 PyData.int PyData.int)) pairs), .k (eKs PyData.int PyData.int st), .n, .n, .k (eKs PyData.int PyData.bool seen'), .n, .v (PyData.int here), .v ((eL (eP2 PyData.int PyData.int)) steps), .n, .n, .n, .n, .n])) := by
  unfold p3_lgreatest l3_lgreatest
  exact (js_goG (Γσ := (fun (st : ((List (Int × Int)))) => [.v ((eT (eP2 PyData.int PyData.int)) pairs), .k (eKs PyData.int PyData.int st), .n, .n, .k (eKs PyData.int PyData.bool seen'), .n, .v (PyData.int here), .v ((eL (eP2 PyData.int PyData.int)) steps), .n, .n, .n, .n, .n])) (fun mates_12 => mates_12) (JS.ca (f' := lf (dputO mates goal mine)) (js_put key_int (ev := PyData.int) (i := 1) mates (jx_var (i := 10) (x := PyData.int) mine rfl) (JX.ca (μ := Option) (f' := pu goal) (jx_var (i := 11) (x := PyData.int) goal rfl)) rfl xo_ne)) (fun mates_12 => wkm [true, true, false, false, true, false, true, true, false, false, false, false, false] rfl))
noncomputable def p2_lgreatest (pairs : (List (Int × Int))) (mates : (List (Int × Int))) (seen' : (List (Int × Bool))) (rows : (List (Int × (List (Int × Int))))) (here : Int) (steps : (List (Int × Int))) (left' : Int) (right' : Int) : Option (Tn ((List (Int × Int)) × (List (Int × Bool)) × (List (Int × (List (Int × Int))))) Int) :=
  bd (pu ((decide (left' = here)) && (!(dget seen' right').isSome))) fun k23 => if k23 = true then bd (lf (dputO seen' right' true)) fun seen'_11 => bd (pu (!(dget mates right').isSome)) fun k22 => if k22 = true then bd (bd (lf (catO steps ([((here, right'))]))) fun x15 => forM' (fun (st13 : ((List (Int × Int)))) (y14 : (Int × Int)) => p3_lgreatest pairs st13 seen'_11 here steps y14.1 y14.2) x15 mates) fun s16 => bd (pu (([] : (List (Int × (List (Int × Int))))))) fun rows_17 => pu (Tn.br (s16, seen'_11, rows_17)) else bd (bd (bd (lf (dget mates right')) fun x19 => bd (lf (catO steps ([((here, right'))]))) fun x20 => pu ((x19, x20))) fun x21 => lf (psh rows x21)) fun rows_18 => pu (Tn.go (mates, seen'_11, rows_18)) else bd (pu ()) fun _ => pu (Tn.go (mates, seen', rows))
set_option maxHeartbeats 8000000 in
theorem q2_lgreatest (𝔅 : Bas) (pairs : (List (Int × Int))) (mates : (List (Int × Int))) (seen' : (List (Int × Bool))) (rows : (List (Int × (List (Int × Int))))) (here : Int) (steps : (List (Int × Int))) (left' : Int) (right' : Int) : JS (μ := Option) 𝔅 [.v ((eT (eP2 PyData.int PyData.int)) pairs), .k (eKs PyData.int PyData.int mates), .n, .n, .k (eKs PyData.int PyData.bool seen'), .l (rows.map (eP2 PyData.int (eL (eP2 PyData.int PyData.int)))), .v (PyData.int here), .v ((eL (eP2 PyData.int PyData.int)) steps), .v (PyData.int left'), .v (PyData.int right'), .n, .n, .n] [] l2_lgreatest (p2_lgreatest pairs mates seen' rows here steps left' right') (Ks 𝔅 (fun (st : ((List (Int × Int)) × (List (Int × Bool)) × (List (Int × (List (Int × Int)))))) => [.v ((eT (eP2 PyData.int PyData.int)) pairs), .k (eKs PyData.int PyData.int st.1), .n, .n, .k (eKs PyData.int PyData.bool st.2.1), .l (st.2.2.map (eP2 PyData.int (eL (eP2 PyData.int PyData.int)))), .v (PyData.int here), .v ((eL (eP2 PyData.int PyData.int)) steps), .n, .n, .n, .n, .n]) PyData.int) := by
  unfold p2_lgreatest l2_lgreatest
  exact (js_if (JT.ca (f' := pu ((decide (left' = here)) && (!(dget seen' right').isSome))) (JT.ca (JT.ca (f' := (if (decide (left' = here)) = true then pu (!(dget seen' right').isSome) else pu false)) (jt_and (jt_of (jx_op (xc := PyData.bool) (fun (p : Int) (q : Int) => decide (p = q)) (JX.ro (jx_var (i := 8) (x := PyData.int) left' rfl)) (JX.ro (jx_var (i := 6) (x := PyData.int) here rfl)) (fun p q => o2_eqI p q))) (jt_of (jx_op (xc := PyData.bool) (fun (p : Int) (q : (List (Int × Bool))) => !(dget q p).isSome) (JX.ro (jx_var (i := 9) (x := PyData.int) right' rfl)) (jo_dict (i := 4) (x := (eK PyData.int PyData.bool)) seen' rfl) (fun p q => o2_niK key_int p q)))) rfl) (and_pu _ _))) xo_ne (js_seq (JS.ca (f' := lf (dputO seen' right' true)) (js_put key_int (ev := PyData.bool) (i := 4) seen' (jx_c (x := PyData.bool) true) (JX.ca (μ := Option) (f' := pu right') (jx_var (i := 9) (x := PyData.int) right' rfl)) rfl xo_ne)) (fun seen'_11 => (js_ifS (JT.ca (f' := pu (!(dget mates right').isSome)) (jt_of (jx_op (xc := PyData.bool) (fun (p : Int) (q : (List (Int × Int))) => !(dget q p).isSome) (JX.ro (jx_var (i := 9) (x := PyData.int) right' rfl)) (jo_dict (i := 1) (x := (eK PyData.int PyData.int)) mates rfl) (fun p q => o2_niK key_int p q)))) xo_ne (JS.turn (js_end (js_seq (JS.ca (f' := bd (lf (catO steps ([((here, right'))]))) fun x15 => forM' (fun (st13 : ((List (Int × Int)))) (y14 : (Int × Int)) => p3_lgreatest pairs st13 seen'_11 here steps y14.1 y14.2) x15 mates) (js_for (enc := (eP2 PyData.int PyData.int)) (Γσ := (fun (st13 : ((List (Int × Int)))) => [.v ((eT (eP2 PyData.int PyData.int)) pairs), .k (eKs PyData.int PyData.int st13), .n, .n, .k (eKs PyData.int PyData.bool seen'_11), .n, .v (PyData.int here), .v ((eL (eP2 PyData.int PyData.int)) steps), .n, .n, .n, .n, .n]))  (fb := fun (st13 : ((List (Int × Int)))) (y14 : (Int × Int)) => p3_lgreatest pairs st13 seen'_11 here steps y14.1 y14.2) mates (JI.ca (f' := lf (catO steps ([((here, right'))]))) (ji_list (enc := (eP2 PyData.int PyData.int)) (jx_opM (xc := (eL (eP2 PyData.int PyData.int))) (fun (p : (List (Int × Int))) (q : (List (Int × Int))) => catO p q) (JX.ro (jx_var (i := 7) (x := (eL (eP2 PyData.int PyData.int))) steps rfl)) (JX.ro (JX.map (sp' := fun q => .v ((eL (eP2 PyData.int PyData.int)) q)) (jx_lst (xs := fun a : (Int × Int) × Unit => [(eP2 PyData.int PyData.int) a.1]) (ja_cons (JX.map (sp' := fun q => .v ((eP2 PyData.int PyData.int) q)) (jx_tup (xs := fun a : Int × Int × Unit => [PyData.int a.1, PyData.int a.2.1]) (ja_cons (jx_var (i := 6) (x := PyData.int) here rfl) (ja_cons (jx_var (i := 9) (x := PyData.int) right' rfl) ja_nil))) (fun a : Int × Int × Unit => (a.1, a.2.1)) (fun _ => rfl)) ja_nil)) (fun a : (Int × Int) × Unit => [a.1]) (fun _ => rfl))) (fun p q r h => o2_catL p q r h)))) xo_ne (wkm [true, true, false, false, true, false, true, true, false, false, false, false, false] rfl) (fun st13 y14 => (jg_tup (n := 2) (jgs_cons jg_name (jgs_cons jg_name jgs_nil)))) (fun st13 y14 => q3_lgreatest _ pairs st13 seen'_11 here steps y14.1 y14.2))) (fun s16 => (js_seq (js_asg (i := 5) (sp := fun q => .l (List.map (eP2 PyData.int (eL (eP2 PyData.int PyData.int))) q)) (JX.ca (f' := pu (([] : (List (Int × (List (Int × Int))))))) (JX.map (sp' := fun q => .l (List.map (eP2 PyData.int (eL (eP2 PyData.int PyData.int))) q)) (jx_new (xs := fun a : Unit => []) ja_nil) (fun a : Unit => ([] : (List (Int × (List (Int × Int)))))) (fun _ => rfl))) xo_ne) (fun rows_17 => (js_break (y := PyData.int) (Γσ := (fun (st : ((List (Int × Int)) × (List (Int × Bool)) × (List (Int × (List (Int × Int)))))) => [.v ((eT (eP2 PyData.int PyData.int)) pairs), .k (eKs PyData.int PyData.int st.1), .n, .n, .k (eKs PyData.int PyData.bool st.2.1), .l (st.2.2.map (eP2 PyData.int (eL (eP2 PyData.int PyData.int)))), .v (PyData.int here), .v ((eL (eP2 PyData.int PyData.int)) steps), .n, .n, .n, .n, .n])) (s16, seen'_11, rows_17) (wkm [true, true, false, false, true, true, true, true, false, false, false, false, false] rfl)))))) ends_ktt)) (js_nilS (js_go (y := PyData.int) (Γσ := (fun (st : ((List (Int × Int)) × (List (Int × Bool)) × (List (Int × (List (Int × Int)))))) => [.v ((eT (eP2 PyData.int PyData.int)) pairs), .k (eKs PyData.int PyData.int st.1), .n, .n, .k (eKs PyData.int PyData.bool st.2.1), .l (st.2.2.map (eP2 PyData.int (eL (eP2 PyData.int PyData.int)))), .v (PyData.int here), .v ((eL (eP2 PyData.int PyData.int)) steps), .n, .n, .n, .n, .n])) (fun rows_18 => (mates, seen'_11, rows_18)) (JS.ca (f' := bd (bd (lf (dget mates right')) fun x19 => bd (lf (catO steps ([((here, right'))]))) fun x20 => pu ((x19, x20))) fun x21 => lf (psh rows x21)) (js_append (i := 5) rows (JX.map (sp' := fun q => .v ((eP2 PyData.int (eL (eP2 PyData.int PyData.int))) q)) (jx_tup (xs := fun a : Int × (List (Int × Int)) × Unit => [PyData.int a.1, (eL (eP2 PyData.int PyData.int)) a.2.1]) (ja_cons (jx_opM (xc := PyData.int) (fun (p : (List (Int × Int))) (q : Int) => dget p q) (jo_dict (i := 1) (x := (eK PyData.int PyData.int)) mates rfl) (JX.ro (jx_var (i := 9) (x := PyData.int) right' rfl)) (fun p q r h => o2_ixK key_int p q r h)) (ja_cons (jx_opM (xc := (eL (eP2 PyData.int PyData.int))) (fun (p : (List (Int × Int))) (q : (List (Int × Int))) => catO p q) (JX.ro (jx_var (i := 7) (x := (eL (eP2 PyData.int PyData.int))) steps rfl)) (JX.ro (JX.map (sp' := fun q => .v ((eL (eP2 PyData.int PyData.int)) q)) (jx_lst (xs := fun a : (Int × Int) × Unit => [(eP2 PyData.int PyData.int) a.1]) (ja_cons (JX.map (sp' := fun q => .v ((eP2 PyData.int PyData.int) q)) (jx_tup (xs := fun a : Int × Int × Unit => [PyData.int a.1, PyData.int a.2.1]) (ja_cons (jx_var (i := 6) (x := PyData.int) here rfl) (ja_cons (jx_var (i := 9) (x := PyData.int) right' rfl) ja_nil))) (fun a : Int × Int × Unit => (a.1, a.2.1)) (fun _ => rfl)) ja_nil)) (fun a : (Int × Int) × Unit => [a.1]) (fun _ => rfl))) (fun p q r h => o2_catL p q r h)) ja_nil))) (fun a : Int × (List (Int × Int)) × Unit => (a.1, a.2.1)) (fun _ => rfl)) rfl xo_ne)) (fun rows_18 => wkm [true, true, false, false, true, true, true, true, false, false, false, false, false] rfl)))))) (js_go (y := PyData.int) (Γσ := (fun (st : ((List (Int × Int)) × (List (Int × Bool)) × (List (Int × (List (Int × Int)))))) => [.v ((eT (eP2 PyData.int PyData.int)) pairs), .k (eKs PyData.int PyData.int st.1), .n, .n, .k (eKs PyData.int PyData.bool st.2.1), .l (st.2.2.map (eP2 PyData.int (eL (eP2 PyData.int PyData.int)))), .v (PyData.int here), .v ((eL (eP2 PyData.int PyData.int)) steps), .n, .n, .n, .n, .n])) (fun _ => (mates, seen', rows)) (js_nil (Γ1 := fun _ => [.v ((eT (eP2 PyData.int PyData.int)) pairs), .k (eKs PyData.int PyData.int mates), .n, .n, .k (eKs PyData.int PyData.bool seen'), .l (rows.map (eP2 PyData.int (eL (eP2 PyData.int PyData.int)))), .v (PyData.int here), .v ((eL (eP2 PyData.int PyData.int)) steps), .v (PyData.int left'), .v (PyData.int right'), .n, .n, .n]) () .refl) (fun _ => wkm [true, true, false, false, true, true, true, true, false, false, false, false, false] rfl)))
noncomputable def c1_lgreatestP (pairs : (List (Int × Int))) (mates : (List (Int × Int))) (seen' : (List (Int × Bool))) (rows : (List (Int × (List (Int × Int))))) : Option Bool :=
  pu (!decide (rows = ([] : (List (Int × (List (Int × Int)))))))
theorem cq1_lgreatest (𝔅 : Bas) (pairs : (List (Int × Int))) (mates : (List (Int × Int))) (seen' : (List (Int × Bool))) (rows : (List (Int × (List (Int × Int))))) : JT (μ := Option) 𝔅 [.v ((eT (eP2 PyData.int PyData.int)) pairs), .k (eKs PyData.int PyData.int mates), .n, .n, .k (eKs PyData.int PyData.bool seen'), .l (rows.map (eP2 PyData.int (eL (eP2 PyData.int PyData.int)))), .n, .n, .n, .n, .n, .n, .n] c1_lgreatest (c1_lgreatestP pairs mates seen' rows) := by
  unfold c1_lgreatestP c1_lgreatest
  exact (JT.ca (f' := pu (!decide (rows = ([] : (List (Int × (List (Int × Int)))))))) (jt_of (jx_op (xc := PyData.bool) (fun (p : (List (Int × (List (Int × Int))))) (q : (List (Int × (List (Int × Int))))) => !decide (p = q)) (jo_list (i := 5) (x := (eL (eP2 PyData.int (eL (eP2 PyData.int PyData.int))))) rows rfl) (JX.ro (JX.mapV (y := (eL (eP2 PyData.int (eL (eP2 PyData.int PyData.int))))) (jx_lst (xs := fun _ => []) ja_nil) (fun _ => ([] : (List (Int × (List (Int × Int)))))) (fun _ => rfl))) (fun p q => o2_neE (eqe_L (eqe_P2 eqe_I (eqe_L (eqe_P2 eqe_I eqe_I)))) (by decide) p q))))
noncomputable def p1_lgreatest (pairs : (List (Int × Int))) (mates : (List (Int × Int))) (seen' : (List (Int × Bool))) (rows : (List (Int × (List (Int × Int))))) : Option (Tn ((List (Int × Int)) × (List (Int × Bool)) × (List (Int × (List (Int × Int))))) Int) :=
  bd (lf (popL rows)) fun a10 => bd (forT (fun (st24 : ((List (Int × Int)) × (List (Int × Bool)) × (List (Int × (List (Int × Int)))))) (y25 : (Int × Int)) => p2_lgreatest pairs st24.1 st24.2.1 st24.2.2 a10.1.1 a10.1.2 y25.1 y25.2) pairs (mates, seen', a10.2)) (fiE (fun s26 => pu (Tn.go (s26.1, s26.2.1, s26.2.2))) fun r27 => pu (Tn.rt r27))
theorem q1_lgreatest (𝔅 : Bas) (pairs : (List (Int × Int))) (mates : (List (Int × Int))) (seen' : (List (Int × Bool))) (rows : (List (Int × (List (Int × Int))))) : JS (μ := Option) 𝔅 [.v ((eT (eP2 PyData.int PyData.int)) pairs), .k (eKs PyData.int PyData.int mates), .n, .n, .k (eKs PyData.int PyData.bool seen'), .l (rows.map (eP2 PyData.int (eL (eP2 PyData.int PyData.int)))), .n, .n, .n, .n, .n, .n, .n] [] l1_lgreatest (p1_lgreatest pairs mates seen' rows) (Ks 𝔅 (fun (st : ((List (Int × Int)) × (List (Int × Bool)) × (List (Int × (List (Int × Int)))))) => [.v ((eT (eP2 PyData.int PyData.int)) pairs), .k (eKs PyData.int PyData.int st.1), .n, .n, .k (eKs PyData.int PyData.bool st.2.1), .l (st.2.2.map (eP2 PyData.int (eL (eP2 PyData.int PyData.int)))), .n, .n, .n, .n, .n, .n, .n]) PyData.int) := by
  unfold p1_lgreatest l1_lgreatest
  exact (js_seq (JS.ca (f' := lf (popL rows)) (js_asgT2 (𝔅 := 𝔅) (Γ := [.v ((eT (eP2 PyData.int PyData.int)) pairs), .k (eKs PyData.int PyData.int mates), .n, .n, .k (eKs PyData.int PyData.bool seen'), .l (rows.map (eP2 PyData.int (eL (eP2 PyData.int PyData.int)))), .n, .n, .n, .n, .n, .n, .n]) (jx_pop0 (i := 5) (y := (eP2 PyData.int (eL (eP2 PyData.int PyData.int)))) rows rfl) (fun a10 => (jg_tup (n := 2) (jgs_cons jg_name (jgs_cons jg_name jgs_nil)))) xo_ne)) (fun a10 => (js_lastF Tn.rt kt_ks (fun s26 => Tn.go (s26.1, s26.2.1, s26.2.2)) (kn_ks (Γσ := (fun (st24 : ((List (Int × Int)) × (List (Int × Bool)) × (List (Int × (List (Int × Int)))))) => [.v ((eT (eP2 PyData.int PyData.int)) pairs), .k (eKs PyData.int PyData.int st24.1), .n, .n, .k (eKs PyData.int PyData.bool st24.2.1), .l (st24.2.2.map (eP2 PyData.int (eL (eP2 PyData.int PyData.int)))), .v (PyData.int a10.1.1), .v ((eL (eP2 PyData.int PyData.int)) a10.1.2), .n, .n, .n, .n, .n])) (Γτ := (fun (st : ((List (Int × Int)) × (List (Int × Bool)) × (List (Int × (List (Int × Int)))))) => [.v ((eT (eP2 PyData.int PyData.int)) pairs), .k (eKs PyData.int PyData.int st.1), .n, .n, .k (eKs PyData.int PyData.bool st.2.1), .l (st.2.2.map (eP2 PyData.int (eL (eP2 PyData.int PyData.int)))), .n, .n, .n, .n, .n, .n, .n])) (y := PyData.int) (fun (s26 : ((List (Int × Int)) × (List (Int × Bool)) × (List (Int × (List (Int × Int)))))) => (s26.1, s26.2.1, s26.2.2)) (fun s26 => wkm [true, true, false, false, true, true, false, false, false, false, false, false, false] rfl)) (JS.ca (f' := forT (fun (st24 : ((List (Int × Int)) × (List (Int × Bool)) × (List (Int × (List (Int × Int)))))) (y25 : (Int × Int)) => p2_lgreatest pairs st24.1 st24.2.1 st24.2.2 a10.1.1 a10.1.2 y25.1 y25.2) pairs (mates, seen', a10.2)) (js_forT (enc := (eP2 PyData.int PyData.int)) (Γσ := (fun (st24 : ((List (Int × Int)) × (List (Int × Bool)) × (List (Int × (List (Int × Int)))))) => [.v ((eT (eP2 PyData.int PyData.int)) pairs), .k (eKs PyData.int PyData.int st24.1), .n, .n, .k (eKs PyData.int PyData.bool st24.2.1), .l (st24.2.2.map (eP2 PyData.int (eL (eP2 PyData.int PyData.int)))), .v (PyData.int a10.1.1), .v ((eL (eP2 PyData.int PyData.int)) a10.1.2), .n, .n, .n, .n, .n])) (y := PyData.int) (fb := fun (st24 : ((List (Int × Int)) × (List (Int × Bool)) × (List (Int × (List (Int × Int)))))) (y25 : (Int × Int)) => p2_lgreatest pairs st24.1 st24.2.1 st24.2.2 a10.1.1 a10.1.2 y25.1 y25.2) (mates, seen', a10.2) (JI.ca (f' := pu pairs) (ji_tup (enc := (eP2 PyData.int PyData.int)) (jx_var (i := 0) (x := (eT (eP2 PyData.int PyData.int))) pairs rfl))) xo_ne (wkm [true, true, false, false, true, true, true, true, false, false, false, false, false] rfl) (fun st24 y25 => (jg_tup (n := 2) (jgs_cons jg_name (jgs_cons jg_name jgs_nil)))) (fun st24 y25 => q2_lgreatest _ pairs st24.1 st24.2.1 st24.2.2 a10.1.1 a10.1.2 y25.1 y25.2))))))
noncomputable def p0_lgreatest (pairs : (List (Int × Int))) (mates : (List (Int × Int))) (one : Int) : Option (Tn ((List (Int × Int))) Int) :=
  bd (bd (bd (lf ((toP2 toI (toLd (toP2 toI toI))) ((eP2 PyData.int (eL eD)) ((one, ([] : (List PyData))))))) fun x7 => pu (([x7] : (List (Int × (List (Int × Int))))))) fun x9 => pu (([] : (List (Int × Bool))), x9, ())) fun a8 => bd (WH.wh fun n => whM (ρ := Int) (fun (st28 : ((List (Int × Int)) × (List (Int × Bool)) × (List (Int × (List (Int × Int)))))) => c1_lgreatestP pairs st28.1 st28.2.1 st28.2.2) (fun (st28 : ((List (Int × Int)) × (List (Int × Bool)) × (List (Int × (List (Int × Int)))))) => p1_lgreatest pairs st28.1 st28.2.1 st28.2.2) n (mates, a8.1, a8.2.1)) (fiE (fun s29 => pu (Tn.go s29.1)) fun r30 => pu (Tn.rt r30))
theorem q0_lgreatest (𝔅 : Bas) (pairs : (List (Int × Int))) (mates : (List (Int × Int))) (one : Int) : JS (μ := Option) 𝔅 [.v ((eT (eP2 PyData.int PyData.int)) pairs), .k (eKs PyData.int PyData.int mates), .n, .v (PyData.int one), .n, .n, .n, .n, .n, .n, .n, .n, .n] [] l0_lgreatest (p0_lgreatest pairs mates one) (Ks 𝔅 (fun (st : ((List (Int × Int)))) => [.v ((eT (eP2 PyData.int PyData.int)) pairs), .k (eKs PyData.int PyData.int st), .n, .n, .n, .n, .n, .n, .n, .n, .n, .n, .n]) PyData.int) := by
  unfold p0_lgreatest l0_lgreatest
  exact (js_seq (js_par (α := (List (Int × Bool)) × (List (Int × (List (Int × Int)))) × Unit) (is := [4, 5]) (sps := (fun a => [.k (eKs PyData.int PyData.bool a.1), .l (a.2.1.map (eP2 PyData.int (eL (eP2 PyData.int PyData.int))))])) (JA.ca (f' := bd (bd (lf ((toP2 toI (toLd (toP2 toI toI))) ((eP2 PyData.int (eL eD)) ((one, ([] : (List PyData))))))) fun x7 => pu (([x7] : (List (Int × (List (Int × Int))))))) fun x9 => pu (([] : (List (Int × Bool))), x9, ())) (ja_cons (JX.map (sp' := fun q => .k (eKs PyData.int PyData.bool q)) jx_dctN (fun _ => ([] : (List (Int × Bool)))) (fun _ => rfl)) (ja_cons (JX.map (sp' := fun q => .l (List.map (eP2 PyData.int (eL (eP2 PyData.int PyData.int))) q)) (jx_new (xs := fun a : (Int × (List (Int × Int))) × Unit => [(eP2 PyData.int (eL (eP2 PyData.int PyData.int))) a.1]) (ja_cons (JX.down (y := (eP2 PyData.int (eL (eP2 PyData.int PyData.int)))) (JX.mapV (y := eD) (JX.map (sp' := fun q => .v ((eP2 PyData.int (eL eD)) q)) (jx_tup (xs := fun a : Int × (List PyData) × Unit => [PyData.int a.1, (eL eD) a.2.1]) (ja_cons (jx_var (i := 3) (x := PyData.int) one rfl) (ja_cons (JX.mapV (y := (eL eD)) (jx_lst (xs := fun _ => []) ja_nil) (fun _ => ([] : (List PyData))) (fun _ => rfl)) ja_nil))) (fun a : Int × (List PyData) × Unit => (a.1, a.2.1)) (fun _ => rfl)) (eP2 PyData.int (eL eD)) (fun _ => rfl)) (toP2 toI (toLd (toP2 toI toI))) (dec_P2 dec_I (dec_L (dec_P2 dec_I dec_I)))) ja_nil)) (fun a : (Int × (List (Int × Int))) × Unit => ([a.1] : (List (Int × (List (Int × Int)))))) (fun _ => rfl)) ja_nil))) xo_ne) (fun a8 => (js_lastF Tn.rt kt_ks (fun s29 => Tn.go s29.1) (kn_ks (Γσ := (fun (st28 : ((List (Int × Int)) × (List (Int × Bool)) × (List (Int × (List (Int × Int)))))) => [.v ((eT (eP2 PyData.int PyData.int)) pairs), .k (eKs PyData.int PyData.int st28.1), .n, .n, .k (eKs PyData.int PyData.bool st28.2.1), .l (st28.2.2.map (eP2 PyData.int (eL (eP2 PyData.int PyData.int)))), .n, .n, .n, .n, .n, .n, .n])) (Γτ := (fun (st : ((List (Int × Int)))) => [.v ((eT (eP2 PyData.int PyData.int)) pairs), .k (eKs PyData.int PyData.int st), .n, .n, .n, .n, .n, .n, .n, .n, .n, .n, .n])) (y := PyData.int) (fun (s29 : ((List (Int × Int)) × (List (Int × Bool)) × (List (Int × (List (Int × Int)))))) => s29.1) (fun s29 => wkm [true, true, false, false, false, false, false, false, false, false, false, false, false] rfl)) (js_while (Γσ := (fun (st28 : ((List (Int × Int)) × (List (Int × Bool)) × (List (Int × (List (Int × Int)))))) => [.v ((eT (eP2 PyData.int PyData.int)) pairs), .k (eKs PyData.int PyData.int st28.1), .n, .n, .k (eKs PyData.int PyData.bool st28.2.1), .l (st28.2.2.map (eP2 PyData.int (eL (eP2 PyData.int PyData.int)))), .n, .n, .n, .n, .n, .n, .n])) (y := PyData.int) (fc := fun (st28 : ((List (Int × Int)) × (List (Int × Bool)) × (List (Int × (List (Int × Int)))))) => c1_lgreatestP pairs st28.1 st28.2.1 st28.2.2) (fb := fun (st28 : ((List (Int × Int)) × (List (Int × Bool)) × (List (Int × (List (Int × Int)))))) => p1_lgreatest pairs st28.1 st28.2.1 st28.2.2) (mates, a8.1, a8.2.1) (fun st28 => cq1_lgreatest _ pairs st28.1 st28.2.1 st28.2.2) (fun _ => xo_ne) (wkm [true, true, false, false, true, true, false, false, false, false, false, false, false] rfl) (fun st28 => q1_lgreatest _ pairs st28.1 st28.2.1 st28.2.2)))))
noncomputable def p_lgreatest (pairs : (List (Int × Int))) : Option Int :=
  bd (bd (bd (bd (bd (lf (lim (List.map (fun (y1 : (Int × Int)) => ((y1.1, true))) pairs))) fun x2 => pu (dOfP x2)) fun x3 => pu ((List.map (fun p : Int × Bool => p.1) x3))) fun x4 => pu (sortI x4)) fun x6 => pu (([] : (List (Int × Int))), x6, ())) fun a5 => bd (forT (fun (st31 : ((List (Int × Int)))) (y32 : Int) => p0_lgreatest pairs st31 y32) a5.2.1 a5.1) (fiE (fun s33 => pu ((s33.length : Int))) fun r34 => pu (r34))
theorem q_lgreatest (𝔅 : Bas) (pairs : (List (Int × Int))) : JS (μ := Option) 𝔅 [.v ((eT (eP2 PyData.int PyData.int)) pairs), .n, .n, .n, .n, .n, .n, .n, .n, .n, .n, .n, .n] [] b_lgreatest (p_lgreatest pairs) (Kr _ PyData.int) := by
  unfold p_lgreatest b_lgreatest
  exact (js_seq (js_par (α := (List (Int × Int)) × (List Int) × Unit) (is := [1, 2]) (sps := (fun a => [.k (eKs PyData.int PyData.int a.1), .v ((eL PyData.int) a.2.1)])) (JA.ca (f' := bd (bd (bd (bd (lf (lim (List.map (fun (y1 : (Int × Int)) => ((y1.1, true))) pairs))) fun x2 => pu (dOfP x2)) fun x3 => pu ((List.map (fun p : Int × Bool => p.1) x3))) fun x4 => pu (sortI x4)) fun x6 => pu (([] : (List (Int × Int))), x6, ())) (ja_cons (JX.map (sp' := fun q => .k (eKs PyData.int PyData.int q)) jx_dctN (fun _ => ([] : (List (Int × Int)))) (fun _ => rfl)) (ja_cons (jx_read (y := (eL PyData.int)) (fun a : (List Int) => sortI a) (JX.ro (jx_read (y := (eL PyData.int)) (fun a : (List (Int × Bool)) => a.map (·.1)) (JX.ro (jx_read (y := (eK PyData.int PyData.bool)) (fun a : (List (Int × Bool)) => dOfP a) (JX.ro (JX.ca (jx_comp (enc := (eP2 PyData.int PyData.int)) (y := (eP2 PyData.int PyData.bool)) (ft := fun (y1 : (Int × Int)) => pu true) (fe := fun (y1 : (Int × Int)) => pu ((y1.1, true))) (ji_tup (enc := (eP2 PyData.int PyData.int)) (jx_var (i := 0) (x := (eT (eP2 PyData.int PyData.int))) pairs rfl)) (fun y1 => (jg_tup (n := 2) (jgs_cons jg_name (jgs_cons jg_name jgs_nil)))) (fun y1 => (JT.ca (f' := pu true) jt_yes)) (fun y1 => (JX.ca (f' := pu ((y1.1, true))) (JX.map (sp' := fun q => .v ((eP2 PyData.int PyData.bool) q)) (jx_tup (xs := fun a : Int × Bool × Unit => [PyData.int a.1, PyData.bool a.2.1]) (ja_cons (jx_var (i := 3) (x := PyData.int) y1.1 rfl) (ja_cons (jx_c (x := PyData.bool) true) ja_nil))) (fun a : Int × Bool × Unit => (a.1, a.2.1)) (fun _ => rfl))))) (comp_pu1 (fun (y1 : (Int × Int)) => ((y1.1, true)))))) (fun a v M r => cz_dictK key_int a v M r))) (fun a v M r => cz_keysI a v M r))) (fun a v M r => cz_sortI a v M r)) ja_nil))) xo_ne) (fun a5 => (js_seqF id kt_kr (JS.ca (f' := forT (fun (st31 : ((List (Int × Int)))) (y32 : Int) => p0_lgreatest pairs st31 y32) a5.2.1 a5.1) (js_forT (enc := PyData.int) (Γσ := (fun (st31 : ((List (Int × Int)))) => [.v ((eT (eP2 PyData.int PyData.int)) pairs), .k (eKs PyData.int PyData.int st31), .n, .n, .n, .n, .n, .n, .n, .n, .n, .n, .n])) (y := PyData.int) (fb := fun (st31 : ((List (Int × Int)))) (y32 : Int) => p0_lgreatest pairs st31 y32) a5.1 (JI.ca (f' := pu a5.2.1) (ji_list (enc := PyData.int) (jx_var (i := 2) (x := (eL PyData.int)) a5.2.1 rfl))) xo_ne (wkm [true, true, false, false, false, false, false, false, false, false, false, false, false] rfl) (fun st31 y32 => jg_name) (fun st31 y32 => q0_lgreatest _ pairs st31 y32))) (fun s33 => (JS.ret (js_ret (y := PyData.int) (JX.ca (f' := pu ((s33.length : Int))) (jx_read (y := PyData.int) (fun a : (List (Int × Int)) => (a.length : Int)) (jo_dict (i := 1) (x := (eK PyData.int PyData.int)) s33 rfl) (fun a v M r => cz_lenK a v M r))) xo_ne))))))
theorem fp_lgreatest : FnP d_lgreatest (fun a : (List (Int × Int)) × Unit => p_lgreatest a.1) (fun a => [(eT (eP2 PyData.int PyData.int)) a.1]) PyData.int :=
  fnP_of (fun a => [.v ((eT (eP2 PyData.int PyData.int)) a.1), .n, .n, .n, .n, .n, .n, .n, .n, .n, .n, .n, .n]) (fun a M hM => q_lgreatest _ a.1)
noncomputable def p0_lis_row (value : PyData) (menu : (List Int)) (spot : Int) (item : PyData) : Option (Tn Unit Bool) :=
  bd (if (!(isD "int" (eD item))) = true then pu true else if (isD "bool" (eD item)) = true then pu true else lf (inO true (eD item) (List.map PyData.int menu))) fun k5 => if k5 = true then bd (pu false) fun r => pu (Tn.rt r) else bd (if (decide ((0 : Int) < spot)) = true then bd (bd (lf (ixD value (spot - (1 : Int)))) fun x1 => lf (toI x1)) fun x2 => bd (lf (toI item)) fun x3 => pu (decide (x3 ≤ x2)) else pu false) fun k4 => if k4 = true then bd (pu false) fun r => pu (Tn.rt r) else bd (pu ()) fun _ => pu (Tn.go ())
theorem q0_lis_row (𝔅 : Bas) (value : PyData) (menu : (List Int)) (spot : Int) (item : PyData) : JS (μ := Option) 𝔅 [.v (eD value), .v ((eT PyData.int) menu), .v (PyData.int spot), .v (eD item)] [] l0_lis_row (p0_lis_row value menu spot item) (Ks 𝔅 (fun (st : Unit) => [.v (eD value), .v ((eT PyData.int) menu), .n, .n]) PyData.bool) := by
  unfold p0_lis_row l0_lis_row
  exact (js_ifS (JT.ca (f' := if (!(isD "int" (eD item))) = true then pu true else if (isD "bool" (eD item)) = true then pu true else lf (inO true (eD item) (List.map PyData.int menu))) (JT.ca (f' := if (!(isD "int" (eD item))) = true then pu true else if (isD "bool" (eD item)) = true then pu true else lf (inO true (eD item) (List.map PyData.int menu))) (jt_or (jt_not (jt_of (jx_isI (T := "int") (jx_var (i := 3) (x := eD) item rfl)))) (JT.ca (f' := if (isD "bool" (eD item)) = true then pu true else lf (inO true (eD item) (List.map PyData.int menu))) (jt_or (jt_of (jx_isI (T := "bool") (jx_var (i := 3) (x := eD) item rfl))) (jt_of (jx_opM (xc := PyData.bool) (fun (p : PyData) (q : (List Int)) => inO true (eD p) (q.map PyData.int)) (JX.ro (jx_var (i := 3) (x := eD) item rfl)) (JX.ro (jx_var (i := 1) (x := (eT PyData.int)) menu rfl)) (fun p q r h => o2_inDT _ _ r h)))))))) xo_ne (JS.turn (js_end (js_retL (y := PyData.bool) (Γσ := (fun (st : Unit) => [.v (eD value), .v ((eT PyData.int) menu), .n, .n])) (JX.ca (f' := pu false) (jx_c (x := PyData.bool) false)) xo_ne) ends_ktt)) (js_nilS (js_if (JT.ca (f' := if (decide ((0 : Int) < spot)) = true then bd (bd (lf (ixD value (spot - (1 : Int)))) fun x1 => lf (toI x1)) fun x2 => bd (lf (toI item)) fun x3 => pu (decide (x3 ≤ x2)) else pu false) (JT.ca (f' := if (decide ((0 : Int) < spot)) = true then bd (bd (lf (ixD value (spot - (1 : Int)))) fun x1 => lf (toI x1)) fun x2 => bd (lf (toI item)) fun x3 => pu (decide (x3 ≤ x2)) else pu false) (jt_and (jt_of (jx_op (xc := PyData.bool) (fun (p q : Int) => decide (q < p)) (JX.ro (jx_var (i := 2) (x := PyData.int) spot rfl)) (JX.ro (jx_c (x := PyData.int) (0 : Int))) (fun p q => o2_gt p q))) (jt_of (jx_op (xc := PyData.bool) (fun (p q : Int) => decide (q ≤ p)) (JX.ro (JX.down (y := PyData.int) (jx_opM (xc := eD) (fun (p : PyData) (q : Int) => ixD p q) (JX.ro (jx_var (i := 0) (x := eD) value rfl)) (JX.ro (jx_op (xc := PyData.int) (fun (p : Int) (q : Int) => p - q) (JX.ro (jx_var (i := 2) (x := PyData.int) spot rfl)) (JX.ro (jx_c (x := PyData.int) (1 : Int))) (fun p q => o2_sub p q))) (fun p q r h => o2_ixD p q r h)) toI dec_I)) (JX.ro (JX.down (y := PyData.int) (jx_var (i := 3) (x := eD) item rfl) toI dec_I)) (fun p q => o2_ge p q)))))) xo_ne (JS.turn (js_retL (y := PyData.bool) (Γσ := (fun (st : Unit) => [.v (eD value), .v ((eT PyData.int) menu), .n, .n])) (JX.ca (f' := pu false) (jx_c (x := PyData.bool) false)) xo_ne)) (js_go (y := PyData.bool) (Γσ := (fun (st : Unit) => [.v (eD value), .v ((eT PyData.int) menu), .n, .n])) (fun _ => ()) (js_nil (Γ1 := fun _ => [.v (eD value), .v ((eT PyData.int) menu), .v (PyData.int spot), .v (eD item)]) () .refl) (fun _ => wkm [true, true, false, false] rfl)))))
noncomputable def p_lis_row (value : PyData) (menu : (List Int)) : Option Bool :=
  bd (pu (!(isD "tuple" (eD value)))) fun k11 => if k11 = true then pu false else bd (bd (bd (lf (seqO value)) fun z => pu (enu z)) fun x8 => forT (fun (st6 : Unit) (y7 : (Int × PyData)) => p0_lis_row value menu y7.1 y7.2) x8 ()) (fiE (fun s9 => pu true) fun r10 => pu (r10))
theorem q_lis_row (𝔅 : Bas) (value : PyData) (menu : (List Int)) : JS (μ := Option) 𝔅 [.v (eD value), .v ((eT PyData.int) menu), .n, .n] [] b_lis_row (p_lis_row value menu) (Kr _ PyData.bool) := by
  unfold p_lis_row b_lis_row
  exact (js_ifS (JT.ca (f' := pu (!(isD "tuple" (eD value)))) (jt_not (jt_of (jx_isI (T := "tuple") (jx_var (i := 0) (x := eD) value rfl))))) xo_ne (JS.ret (js_end (js_ret (y := PyData.bool) (JX.ca (f' := pu false) (jx_c (x := PyData.bool) false)) xo_ne) ends_kt)) (js_nilS (js_seqF id kt_kr (JS.ca (f' := bd (bd (lf (seqO value)) fun z => pu (enu z)) fun x8 => forT (fun (st6 : Unit) (y7 : (Int × PyData)) => p0_lis_row value menu y7.1 y7.2) x8 ()) (js_forT (enc := (eP2 PyData.int eD)) (Γσ := (fun (st6 : Unit) => [.v (eD value), .v ((eT PyData.int) menu), .n, .n])) (y := PyData.bool) (fb := fun (st6 : Unit) (y7 : (Int × PyData)) => p0_lis_row value menu y7.1 y7.2) () (JI.ca (f' := bd (lf (seqO value)) fun z => pu (enu z)) (ji_enuD (jx_var (i := 0) (x := eD) value rfl))) xo_ne (wkm [true, true, false, false] rfl) (fun st6 y7 => (jg_tup (n := 2) (jgs_cons jg_name (jgs_cons jg_name jgs_nil)))) (fun st6 y7 => q0_lis_row _ value menu y7.1 y7.2))) (fun s9 => (JS.ret (js_ret (y := PyData.bool) (JX.ca (f' := pu true) (jx_c (x := PyData.bool) true)) xo_ne))))))
theorem fp_lis_row : FnP d_lis_row (fun a : PyData × (List Int) × Unit => p_lis_row a.1 a.2.1) (fun a => [eD a.1, (eT PyData.int) a.2.1]) PyData.bool :=
  fnP_of (fun a => [.v (eD a.1), .v ((eT PyData.int) a.2.1), .n, .n]) (fun a M hM => q_lis_row _ a.1 a.2.1)
noncomputable def p0_lleast (pairs : (List (Int × Int))) (found : Int) (rows : (List (List Int))) (one : Int) : Option ((List (List Int))) :=
  bd (bd (bd (cmpM (fun (y4 : (List Int)) => pu true) (fun (y4 : (List Int)) => lf (catO y4 ((fun p : (Int) => [p]) (one)))) rows) fun r5 => lf (lim r5)) fun x6 => lf (catO rows x6)) fun rows_3 => pu (rows_3)
theorem q0_lleast (𝔅 : Bas) (pairs : (List (Int × Int))) (found : Int) (rows : (List (List Int))) (one : Int) : JS (μ := Option) 𝔅 [.n, .v ((eT (eP2 PyData.int PyData.int)) pairs), .v (PyData.int found), .v ((eL (eT PyData.int)) rows), .v (PyData.int one), .n, .n, .n] [] l2_lleast (p0_lleast pairs found rows one) (Kg 𝔅 (fun (st : ((List (List Int)))) => [.n, .v ((eT (eP2 PyData.int PyData.int)) pairs), .v (PyData.int found), .v ((eL (eT PyData.int)) st), .n, .n, .n, .n])) := by
  unfold p0_lleast l2_lleast
  exact (js_goG (Γσ := (fun (st : ((List (List Int)))) => [.n, .v ((eT (eP2 PyData.int PyData.int)) pairs), .v (PyData.int found), .v ((eL (eT PyData.int)) st), .n, .n, .n, .n])) (fun rows_3 => rows_3) (js_asg (i := 3) (sp := fun q => .v ((eL (eT PyData.int)) q)) (JX.ca (f' := bd (bd (cmpM (fun (y4 : (List Int)) => pu true) (fun (y4 : (List Int)) => lf (catO y4 ((fun p : (Int) => [p]) (one)))) rows) fun r5 => lf (lim r5)) fun x6 => lf (catO rows x6)) (jx_opM (xc := (eL (eT PyData.int))) (fun (p : (List (List Int))) (q : (List (List Int))) => catO p q) (JX.ro (jx_var (i := 3) (x := (eL (eT PyData.int))) rows rfl)) (JX.ro (jx_comp (enc := (eT PyData.int)) (y := (eT PyData.int)) (ft := fun (y4 : (List Int)) => pu true) (fe := fun (y4 : (List Int)) => lf (catO y4 ((fun p : (Int) => [p]) (one)))) (ji_list (enc := (eT PyData.int)) (jx_var (i := 3) (x := (eL (eT PyData.int))) rows rfl)) (fun y4 => jg_name) (fun y4 => (JT.ca (f' := pu true) jt_yes)) (fun y4 => (JX.ca (f' := lf (catO y4 ((fun p : (Int) => [p]) (one)))) (jx_opM (xc := (eT PyData.int)) (fun (p : (List Int)) (q : (List Int)) => catO p q) (JX.ro (jx_var (i := 5) (x := (eT PyData.int)) y4 rfl)) (JX.ro (JX.mapV (y := (eT PyData.int)) (JX.map (sp' := fun q => .v ((eP1 PyData.int) q)) (jx_tup (xs := fun a : Int × Unit => [PyData.int a.1]) (ja_cons (jx_var (i := 4) (x := PyData.int) one rfl) ja_nil)) (fun a : Int × Unit => (a.1)) (fun _ => rfl)) (fun p : (Int) => [p]) (fun _ => rfl))) (fun p q r h => o2_catT p q r h)))))) (fun p q r h => o2_catL p q r h))) xo_ne) (fun rows_3 => wkm [false, true, true, true, false, false, false, false] rfl))
noncomputable def p1_lleast (pairs : (List (Int × Int))) (found : Int) (row : (List Int)) : Option (Int) :=
  bd (bd (lf (lim ((List.filter (fun (y11 : (Int × Int)) => (!mem y11.1 row)) pairs).map (fun (y11 : (Int × Int)) => ((y11.2, true)))))) fun x12 => pu (dOfP x12)) fun rest'_10 => bd (pu ((if (((row.length : Int)) + ((rest'_10.length : Int))) < found then (((row.length : Int)) + ((rest'_10.length : Int))) else found))) fun found_13 => pu (found_13)
theorem q1_lleast (𝔅 : Bas) (pairs : (List (Int × Int))) (found : Int) (row : (List Int)) : JS (μ := Option) 𝔅 [.n, .v ((eT (eP2 PyData.int PyData.int)) pairs), .v (PyData.int found), .n, .n, .v ((eT PyData.int) row), .n, .n] [] l0_lleast (p1_lleast pairs found row) (Kg 𝔅 (fun (st : (Int)) => [.n, .v ((eT (eP2 PyData.int PyData.int)) pairs), .v (PyData.int st), .n, .n, .n, .n, .n])) := by
  unfold p1_lleast l0_lleast
  exact (js_seq (js_asg (i := 6) (sp := fun q => .v ((eK PyData.int PyData.bool) q)) (JX.ca (f' := bd (lf (lim ((List.filter (fun (y11 : (Int × Int)) => (!mem y11.1 row)) pairs).map (fun (y11 : (Int × Int)) => ((y11.2, true)))))) fun x12 => pu (dOfP x12)) (jx_read (y := (eK PyData.int PyData.bool)) (fun a : (List (Int × Bool)) => dOfP a) (JX.ro (JX.ca (jx_comp (enc := (eP2 PyData.int PyData.int)) (y := (eP2 PyData.int PyData.bool)) (ft := fun (y11 : (Int × Int)) => pu (!mem y11.1 row)) (fe := fun (y11 : (Int × Int)) => pu ((y11.2, true))) (ji_tup (enc := (eP2 PyData.int PyData.int)) (jx_var (i := 1) (x := (eT (eP2 PyData.int PyData.int))) pairs rfl)) (fun y11 => (jg_tup (n := 2) (jgs_cons jg_name (jgs_cons jg_name jgs_nil)))) (fun y11 => (JT.ca (f' := pu (!mem y11.1 row)) (jt_of (jx_op (xc := PyData.bool) (fun (p : Int) (q : (List Int)) => !mem p q) (JX.ro (jx_var (i := 4) (x := PyData.int) y11.1 rfl)) (JX.ro (jx_var (i := 5) (x := (eT PyData.int)) row rfl)) (fun p q => o2_niT eqe_I (by decide) p q))))) (fun y11 => (JX.ca (f' := pu ((y11.2, true))) (JX.map (sp' := fun q => .v ((eP2 PyData.int PyData.bool) q)) (jx_tup (xs := fun a : Int × Bool × Unit => [PyData.int a.1, PyData.bool a.2.1]) (ja_cons (jx_var (i := 7) (x := PyData.int) y11.2 rfl) (ja_cons (jx_c (x := PyData.bool) true) ja_nil))) (fun a : Int × Bool × Unit => (a.1, a.2.1)) (fun _ => rfl))))) (comp_pu (fun (y11 : (Int × Int)) => (!mem y11.1 row)) (fun (y11 : (Int × Int)) => ((y11.2, true)))))) (fun a v M r => cz_dictK key_int a v M r))) xo_ne) (fun rest'_10 => (js_goG (Γσ := (fun (st : (Int)) => [.n, .v ((eT (eP2 PyData.int PyData.int)) pairs), .v (PyData.int st), .n, .n, .n, .n, .n])) (fun found_13 => found_13) (js_asg (i := 2) (sp := fun q => .v (PyData.int q)) (JX.ca (f' := pu ((if (((row.length : Int)) + ((rest'_10.length : Int))) < found then (((row.length : Int)) + ((rest'_10.length : Int))) else found))) (jx_data (xs := fun a : Int × Int × Unit => [PyData.int a.1, PyData.int a.2.1]) (y := PyData.int) (fun a => (if a.2.1 < a.1 then a.2.1 else a.1)) (ja_cons (jx_var (i := 2) (x := PyData.int) found rfl) (ja_cons (jx_op (xc := PyData.int) (fun (p : Int) (q : Int) => p + q) (JX.ro (jx_read (y := PyData.int) (fun a : (List Int) => (a.length : Int)) (JX.ro (jx_var (i := 5) (x := (eT PyData.int)) row rfl)) (fun a v M r => cz_lenT a v M r))) (JX.ro (jx_read (y := PyData.int) (fun a : (List (Int × Bool)) => (a.length : Int)) (JX.ro (jx_var (i := 6) (x := (eK PyData.int PyData.bool)) rest'_10 rfl)) (fun a v M r => cz_lenK a v M r))) (fun p q => o2_add p q)) ja_nil)) (fun _ _ => rfl))) xo_ne) (fun found_13 => wkm [false, true, true, false, false, false, false, false] rfl))))
noncomputable def p_lleast (cutters : (List Int)) (pairs : (List (Int × Int))) : Option Int :=
  bd (bd (lf ((toLd (toTd toI)) ((eL (eT eD)) ([[]])))) fun x2 => pu (((pairs.length : Int)), x2, ())) fun a1 => bd (forM' (fun (st7 : ((List (List Int)))) (y8 : Int) => p0_lleast pairs a1.1 st7 y8) cutters a1.2.1) fun s9 => bd (forM' (fun (st14 : (Int)) (y15 : (List Int)) => p1_lleast pairs st14 y15) s9 a1.1) fun s16 => pu s16
theorem q_lleast (𝔅 : Bas) (cutters : (List Int)) (pairs : (List (Int × Int))) : JS (μ := Option) 𝔅 [.v ((eT PyData.int) cutters), .v ((eT (eP2 PyData.int PyData.int)) pairs), .n, .n, .n, .n, .n, .n] [] b_lleast (p_lleast cutters pairs) (Kr _ PyData.int) := by
  unfold p_lleast b_lleast
  exact (js_seq (js_par (α := Int × (List (List Int)) × Unit) (is := [2, 3]) (sps := (fun a => [.v (PyData.int a.1), .v ((eL (eT PyData.int)) a.2.1)])) (JA.ca (f' := bd (lf ((toLd (toTd toI)) ((eL (eT eD)) ([[]])))) fun x2 => pu (((pairs.length : Int)), x2, ())) (ja_cons (jx_read (y := PyData.int) (fun a : (List (Int × Int)) => (a.length : Int)) (JX.ro (jx_var (i := 1) (x := (eT (eP2 PyData.int PyData.int))) pairs rfl)) (fun a v M r => cz_lenT a v M r)) (ja_cons (JX.down (y := (eL (eT PyData.int))) (JX.mapV (y := eD) (JX.map (sp' := fun q => .v ((eL (eT eD)) q)) (jx_lst (xs := fun a : (List PyData) × Unit => [(eT eD) a.1]) (ja_cons (JX.map (sp' := fun q => .v (eT eD q)) (jx_tup (xs := fun _ => []) ja_nil) (fun _ => ([] : List PyData)) (fun _ => rfl)) ja_nil)) (fun a : (List PyData) × Unit => [a.1]) (fun _ => rfl)) (eL (eT eD)) (fun _ => rfl)) (toLd (toTd toI)) (dec_L (dec_T dec_I))) ja_nil))) xo_ne) (fun a1 => (js_seq (JS.ca (f' := forM' (fun (st7 : ((List (List Int)))) (y8 : Int) => p0_lleast pairs a1.1 st7 y8) cutters a1.2.1) (js_for (enc := PyData.int) (Γσ := (fun (st7 : ((List (List Int)))) => [.n, .v ((eT (eP2 PyData.int PyData.int)) pairs), .v (PyData.int a1.1), .v ((eL (eT PyData.int)) st7), .n, .n, .n, .n]))  (fb := fun (st7 : ((List (List Int)))) (y8 : Int) => p0_lleast pairs a1.1 st7 y8) a1.2.1 (JI.ca (f' := pu cutters) (ji_tup (enc := PyData.int) (jx_var (i := 0) (x := (eT PyData.int)) cutters rfl))) xo_ne (wkm [false, true, true, true, false, false, false, false] rfl) (fun st7 y8 => jg_name) (fun st7 y8 => q0_lleast _ pairs a1.1 st7 y8))) (fun s9 => (js_seq (JS.ca (f' := forM' (fun (st14 : (Int)) (y15 : (List Int)) => p1_lleast pairs st14 y15) s9 a1.1) (js_for (enc := (eT PyData.int)) (Γσ := (fun (st14 : (Int)) => [.n, .v ((eT (eP2 PyData.int PyData.int)) pairs), .v (PyData.int st14), .n, .n, .n, .n, .n]))  (fb := fun (st14 : (Int)) (y15 : (List Int)) => p1_lleast pairs st14 y15) a1.1 (JI.ca (f' := pu s9) (ji_list (enc := (eT PyData.int)) (jx_var (i := 3) (x := (eL (eT PyData.int))) s9 rfl))) xo_ne (wkm [false, true, true, false, false, false, false, false] rfl) (fun st14 y15 => jg_name) (fun st14 y15 => q1_lleast _ pairs st14 y15))) (fun s16 => (JS.ret (js_ret (y := PyData.int) (JX.ca (f' := pu s16) (jx_var (i := 2) (x := PyData.int) s16 rfl)) xo_ne))))))))
theorem fp_lleast : FnP d_lleast (fun a : (List Int) × (List (Int × Int)) × Unit => p_lleast a.1 a.2.1) (fun a => [(eT PyData.int) a.1, (eT (eP2 PyData.int PyData.int)) a.2.1]) PyData.int :=
  fnP_of (fun a => [.v ((eT PyData.int) a.1), .v ((eT (eP2 PyData.int PyData.int)) a.2.1), .n, .n, .n, .n, .n, .n]) (fun a M hM => q_lleast _ a.1 a.2.1)
noncomputable def p_lis_cover (value : PyData) (cutters : (List Int)) (backs : (List Int)) (pairs : (List (Int × Int))) : Option Bool :=
  bd (if (!(isD "tuple" (eD value))) = true then pu true else bd (lf (lenD value)) fun x1 => pu (!decide (x1 = (2 : Int)))) fun k14 => if k14 = true then pu false else bd (bd (bd (bd (lf (ixD value (0 : Int))) fun x2 => lf (p_lis_row x2 cutters)) fun k3 => pu (!k3)) fun k6 => if k6 = true then pu true else bd (bd (lf (ixD value (1 : Int))) fun x4 => lf (p_lis_row x4 backs)) fun k5 => pu (!k5)) fun k13 => if k13 = true then pu false else bd (bd (cmpM (fun (y7 : (Int × Int)) => bd (bd (lf (ixD value (0 : Int))) fun x8 => lf (inOD true (PyData.int y7.1) x8)) fun k10 => if k10 = true then bd (lf (ixD value (1 : Int))) fun x9 => lf (inOD true (PyData.int y7.2) x9) else pu false) (fun (y7 : (Int × Int)) => pu (1 : Int)) pairs) fun r11 => lf (lim r11)) fun x12 => pu (decide (x12 = ([] : (List Int))))
theorem q_lis_cover (𝔅 : Bas) (value : PyData) (cutters : (List Int)) (backs : (List Int)) (pairs : (List (Int × Int))) : JS (μ := Option) 𝔅 [.v (eD value), .v ((eT PyData.int) cutters), .v ((eT PyData.int) backs), .v ((eT (eP2 PyData.int PyData.int)) pairs), .n, .n] [] b_lis_cover (p_lis_cover value cutters backs pairs) (Kr _ PyData.bool) := by
  unfold p_lis_cover b_lis_cover
  exact (js_ifS (JT.ca (f' := if (!(isD "tuple" (eD value))) = true then pu true else bd (lf (lenD value)) fun x1 => pu (!decide (x1 = (2 : Int)))) (JT.ca (f' := if (!(isD "tuple" (eD value))) = true then pu true else bd (lf (lenD value)) fun x1 => pu (!decide (x1 = (2 : Int)))) (jt_or (jt_not (jt_of (jx_isI (T := "tuple") (jx_var (i := 0) (x := eD) value rfl)))) (jt_of (jx_op (xc := PyData.bool) (fun (p : Int) (q : Int) => !decide (p = q)) (JX.ro (jx_readM (y := PyData.int) (fun a : PyData => lenD a) (JX.ro (jx_var (i := 0) (x := eD) value rfl)) (fun a c v M h r => cz_lenD a c v M h r))) (JX.ro (jx_c (x := PyData.int) (2 : Int))) (fun p q => o2_neI p q)))))) xo_ne (JS.ret (js_end (js_ret (y := PyData.bool) (JX.ca (f' := pu false) (jx_c (x := PyData.bool) false)) xo_ne) ends_kt)) (js_nilS (js_ifS (JT.ca (f' := bd (bd (bd (lf (ixD value (0 : Int))) fun x2 => lf (p_lis_row x2 cutters)) fun k3 => pu (!k3)) fun k6 => if k6 = true then pu true else bd (bd (lf (ixD value (1 : Int))) fun x4 => lf (p_lis_row x4 backs)) fun k5 => pu (!k5)) (JT.ca (f' := bd (bd (bd (lf (ixD value (0 : Int))) fun x2 => lf (p_lis_row x2 cutters)) fun k3 => pu (!k3)) fun k6 => if k6 = true then pu true else bd (bd (lf (ixD value (1 : Int))) fun x4 => lf (p_lis_row x4 backs)) fun k5 => pu (!k5)) (jt_or (jt_not (jt_of (jx_call (fun a => a) fp_lis_row (ja_cons (jx_opM (xc := eD) (fun (p : PyData) (q : Int) => ixD p q) (JX.ro (jx_var (i := 0) (x := eD) value rfl)) (JX.ro (jx_c (x := PyData.int) (0 : Int))) (fun p q r h => o2_ixD p q r h)) (ja_cons (jx_var (i := 1) (x := (eT PyData.int)) cutters rfl) ja_nil))))) (jt_not (jt_of (jx_call (fun a => a) fp_lis_row (ja_cons (jx_opM (xc := eD) (fun (p : PyData) (q : Int) => ixD p q) (JX.ro (jx_var (i := 0) (x := eD) value rfl)) (JX.ro (jx_c (x := PyData.int) (1 : Int))) (fun p q r h => o2_ixD p q r h)) (ja_cons (jx_var (i := 2) (x := (eT PyData.int)) backs rfl) ja_nil)))))))) xo_ne (JS.ret (js_end (js_ret (y := PyData.bool) (JX.ca (f' := pu false) (jx_c (x := PyData.bool) false)) xo_ne) ends_kt)) (js_nilS (JS.ret (js_ret (y := PyData.bool) (JX.ca (f' := bd (bd (cmpM (fun (y7 : (Int × Int)) => bd (bd (lf (ixD value (0 : Int))) fun x8 => lf (inOD true (PyData.int y7.1) x8)) fun k10 => if k10 = true then bd (lf (ixD value (1 : Int))) fun x9 => lf (inOD true (PyData.int y7.2) x9) else pu false) (fun (y7 : (Int × Int)) => pu (1 : Int)) pairs) fun r11 => lf (lim r11)) fun x12 => pu (decide (x12 = ([] : (List Int))))) (jx_op (xc := PyData.bool) (fun (p : (List Int)) (q : (List Int)) => decide (p = q)) (JX.ro (jx_comp (enc := (eP2 PyData.int PyData.int)) (y := PyData.int) (ft := fun (y7 : (Int × Int)) => bd (bd (lf (ixD value (0 : Int))) fun x8 => lf (inOD true (PyData.int y7.1) x8)) fun k10 => if k10 = true then bd (lf (ixD value (1 : Int))) fun x9 => lf (inOD true (PyData.int y7.2) x9) else pu false) (fe := fun (y7 : (Int × Int)) => pu (1 : Int)) (ji_tup (enc := (eP2 PyData.int PyData.int)) (jx_var (i := 3) (x := (eT (eP2 PyData.int PyData.int))) pairs rfl)) (fun y7 => (jg_tup (n := 2) (jgs_cons jg_name (jgs_cons jg_name jgs_nil)))) (fun y7 => (JT.ca (f' := bd (bd (lf (ixD value (0 : Int))) fun x8 => lf (inOD true (PyData.int y7.1) x8)) fun k10 => if k10 = true then bd (lf (ixD value (1 : Int))) fun x9 => lf (inOD true (PyData.int y7.2) x9) else pu false) (JT.ca (f' := bd (bd (lf (ixD value (0 : Int))) fun x8 => lf (inOD true (PyData.int y7.1) x8)) fun k10 => if k10 = true then bd (lf (ixD value (1 : Int))) fun x9 => lf (inOD true (PyData.int y7.2) x9) else pu false) (jt_and (jt_of (jx_opM (xc := PyData.bool) (fun (p : Int) (q : PyData) => inOD true (PyData.int p) q) (JX.ro (jx_var (i := 4) (x := PyData.int) y7.1 rfl)) (JX.ro (jx_opM (xc := eD) (fun (p : PyData) (q : Int) => ixD p q) (JX.ro (jx_var (i := 0) (x := eD) value rfl)) (JX.ro (jx_c (x := PyData.int) (0 : Int))) (fun p q r h => o2_ixD p q r h))) (fun p q r h => o2_inOD _ _ r h))) (jt_of (jx_opM (xc := PyData.bool) (fun (p : Int) (q : PyData) => inOD true (PyData.int p) q) (JX.ro (jx_var (i := 5) (x := PyData.int) y7.2 rfl)) (JX.ro (jx_opM (xc := eD) (fun (p : PyData) (q : Int) => ixD p q) (JX.ro (jx_var (i := 0) (x := eD) value rfl)) (JX.ro (jx_c (x := PyData.int) (1 : Int))) (fun p q r h => o2_ixD p q r h))) (fun p q r h => o2_inOD _ _ r h))))))) (fun y7 => (JX.ca (f' := pu (1 : Int)) (jx_c (x := PyData.int) (1 : Int)))))) (JX.ro (JX.mapV (y := (eL PyData.int)) (jx_lst (xs := fun _ => []) ja_nil) (fun _ => ([] : (List Int))) (fun _ => rfl))) (fun p q => o2_eqE (eqe_L eqe_I) (by decide) p q))) xo_ne))))))
theorem fp_lis_cover : FnP d_lis_cover (fun a : PyData × (List Int) × (List Int) × (List (Int × Int)) × Unit => p_lis_cover a.1 a.2.1 a.2.2.1 a.2.2.2.1) (fun a => [eD a.1, (eT PyData.int) a.2.1, (eT PyData.int) a.2.2.1, (eT (eP2 PyData.int PyData.int)) a.2.2.2.1]) PyData.bool :=
  fnP_of (fun a => [.v (eD a.1), .v ((eT PyData.int) a.2.1), .v ((eT PyData.int) a.2.2.1), .v ((eT (eP2 PyData.int PyData.int)) a.2.2.2.1), .n, .n]) (fun a M hM => q_lis_cover _ a.1 a.2.1 a.2.2.1 a.2.2.2.1)
noncomputable def p1_lgraph (odds : Int) (cutters : (List Int)) (backs : (List Int)) (pairs : (List (Int × Int))) (spot : Int) (one : Int) (rank : Int) (other : Int) : Dn ((List (Int × Int))) :=
  bd (pu ((decide (odds = (8 : Int))) && ((decide (rank = spot)) || (decide (rank = (spot + (1 : Int))))))) fun is_beside_9 => bd (if is_beside_9 = true then pu true else if (decide (odds < (8 : Int))) = true then bd (drawN odds) fun x10 => pu (decide (x10 = (0 : Int))) else pu false) fun k12 => if k12 = true then bd (lf (psh pairs ((one, other)))) fun pairs_11 => pu (pairs_11) else bd (pu ()) fun _ => pu (pairs)
theorem q1_lgraph (R0 : Mm) (h0 : ∀ q, (DkQ.m0 q ++ R0).all (MO.below (DkQ.n + R0.length)) = true) (odds : Int) (cutters : (List Int)) (backs : (List Int)) (pairs : (List (Int × Int))) (spot : Int) (one : Int) (rank : Int) (other : Int) : JS (μ := Dn) (DkQ.B R0 h0) [.o 2, .n, .v (PyData.int odds), .n, .n, .v ((eL PyData.int) cutters), .v ((eL PyData.int) backs), .l (pairs.map (eP2 PyData.int PyData.int)), .v (PyData.int spot), .v (PyData.int one), .v (PyData.int rank), .v (PyData.int other), .n] [] l1_lgraph (p1_lgraph odds cutters backs pairs spot one rank other) (Kg (DkQ.B R0 h0) (fun (st : ((List (Int × Int)))) => [.o 2, .n, .v (PyData.int odds), .n, .n, .v ((eL PyData.int) cutters), .v ((eL PyData.int) backs), .l (st.map (eP2 PyData.int PyData.int)), .v (PyData.int spot), .v (PyData.int one), .n, .n, .n])) := by
  unfold p1_lgraph l1_lgraph
  exact (js_seq (js_asg (i := 12) (sp := fun q => .v (PyData.bool q)) (JX.ca (f' := pu ((decide (odds = (8 : Int))) && ((decide (rank = spot)) || (decide (rank = (spot + (1 : Int))))))) (JX.ca (JX.ca (f' := (if (decide (odds = (8 : Int))) = true then pu ((decide (rank = spot)) || (decide (rank = (spot + (1 : Int))))) else pu false)) (jx_and (jx_op (xc := PyData.bool) (fun (p : Int) (q : Int) => decide (p = q)) (JX.ro (jx_var (i := 2) (x := PyData.int) odds rfl)) (JX.ro (jx_c (x := PyData.int) (8 : Int))) (fun p q => o2_eqI p q)) (JX.ca (JX.ca (f' := (if (decide (rank = spot)) = true then pu true else pu (decide (rank = (spot + (1 : Int)))))) (jx_or (jx_op (xc := PyData.bool) (fun (p : Int) (q : Int) => decide (p = q)) (JX.ro (jx_var (i := 10) (x := PyData.int) rank rfl)) (JX.ro (jx_var (i := 8) (x := PyData.int) spot rfl)) (fun p q => o2_eqI p q)) (jx_op (xc := PyData.bool) (fun (p : Int) (q : Int) => decide (p = q)) (JX.ro (jx_var (i := 10) (x := PyData.int) rank rfl)) (JX.ro (jx_op (xc := PyData.int) (fun (p : Int) (q : Int) => p + q) (JX.ro (jx_var (i := 8) (x := PyData.int) spot rfl)) (JX.ro (jx_c (x := PyData.int) (1 : Int))) (fun p q => o2_add p q))) (fun p q => o2_eqI p q))) rfl) (or_pu _ _))) rfl) (and_pu _ _))) xo_ne) (fun is_beside_9 => (js_if (JT.ca (f' := if is_beside_9 = true then pu true else if (decide (odds < (8 : Int))) = true then bd (drawN odds) fun x10 => pu (decide (x10 = (0 : Int))) else pu false) (JT.ca (f' := if is_beside_9 = true then pu true else if (decide (odds < (8 : Int))) = true then bd (drawN odds) fun x10 => pu (decide (x10 = (0 : Int))) else pu false) (jt_or (jt_of (jx_var (i := 12) (x := PyData.bool) is_beside_9 rfl)) (JT.ca (f' := if (decide (odds < (8 : Int))) = true then bd (drawN odds) fun x10 => pu (decide (x10 = (0 : Int))) else pu false) (jt_and (jt_of (jx_op (xc := PyData.bool) (fun (p : Int) (q : Int) => decide (p < q)) (JX.ro (jx_var (i := 2) (x := PyData.int) odds rfl)) (JX.ro (jx_c (x := PyData.int) (8 : Int))) (fun p q => o2_lt p q))) (jt_of (jx_op (xc := PyData.bool) (fun (p : Int) (q : Int) => decide (p = q)) (JX.ro (jx_callN (n := 2) (fun a : Unit × Int × Unit => a.2) fd_ldraw (ja_cons (jx_obj (j := 2) (i := 0) rfl jq_nf) (ja_cons (jx_var (i := 2) (x := PyData.int) odds rfl) ja_nil)))) (JX.ro (jx_c (x := PyData.int) (0 : Int))) (fun p q => o2_eqI p q)))))))) xo_ne (js_goG (Γσ := (fun (st : ((List (Int × Int)))) => [.o 2, .n, .v (PyData.int odds), .n, .n, .v ((eL PyData.int) cutters), .v ((eL PyData.int) backs), .l (st.map (eP2 PyData.int PyData.int)), .v (PyData.int spot), .v (PyData.int one), .n, .n, .n])) (fun pairs_11 => pairs_11) (JS.ca (f' := lf (psh pairs ((one, other)))) (js_append (i := 7) pairs (JX.map (sp' := fun q => .v ((eP2 PyData.int PyData.int) q)) (jx_tup (xs := fun a : Int × Int × Unit => [PyData.int a.1, PyData.int a.2.1]) (ja_cons (jx_var (i := 9) (x := PyData.int) one rfl) (ja_cons (jx_var (i := 11) (x := PyData.int) other rfl) ja_nil))) (fun a : Int × Int × Unit => (a.1, a.2.1)) (fun _ => rfl)) rfl xo_ne)) (fun pairs_11 => wkm [true, false, true, false, false, true, true, true, true, true, false, false, false] rfl)) (js_goG (Γσ := (fun (st : ((List (Int × Int)))) => [.o 2, .n, .v (PyData.int odds), .n, .n, .v ((eL PyData.int) cutters), .v ((eL PyData.int) backs), .l (st.map (eP2 PyData.int PyData.int)), .v (PyData.int spot), .v (PyData.int one), .n, .n, .n])) (fun _ => pairs) (js_nil (Γ1 := fun _ => [.o 2, .n, .v (PyData.int odds), .n, .n, .v ((eL PyData.int) cutters), .v ((eL PyData.int) backs), .l (pairs.map (eP2 PyData.int PyData.int)), .v (PyData.int spot), .v (PyData.int one), .v (PyData.int rank), .v (PyData.int other), .v (PyData.bool is_beside_9)]) () .refl) (fun _ => wkm [true, false, true, false, false, true, true, true, true, true, false, false, false] rfl)))))
noncomputable def p0_lgraph (odds : Int) (cutters : (List Int)) (backs : (List Int)) (pairs : (List (Int × Int))) (spot : Int) (one : Int) : Dn ((List (Int × Int))) :=
  bd (forM' (fun (st13 : ((List (Int × Int)))) (y14 : (Int × Int)) => p1_lgraph odds cutters backs st13 spot one y14.1 y14.2) (enu backs) pairs) fun s15 => pu (s15)
theorem q0_lgraph (R0 : Mm) (h0 : ∀ q, (DkQ.m0 q ++ R0).all (MO.below (DkQ.n + R0.length)) = true) (odds : Int) (cutters : (List Int)) (backs : (List Int)) (pairs : (List (Int × Int))) (spot : Int) (one : Int) : JS (μ := Dn) (DkQ.B R0 h0) [.o 2, .n, .v (PyData.int odds), .n, .n, .v ((eL PyData.int) cutters), .v ((eL PyData.int) backs), .l (pairs.map (eP2 PyData.int PyData.int)), .v (PyData.int spot), .v (PyData.int one), .n, .n, .n] [] l0_lgraph (p0_lgraph odds cutters backs pairs spot one) (Kg (DkQ.B R0 h0) (fun (st : ((List (Int × Int)))) => [.o 2, .n, .v (PyData.int odds), .n, .n, .v ((eL PyData.int) cutters), .v ((eL PyData.int) backs), .l (st.map (eP2 PyData.int PyData.int)), .n, .n, .n, .n, .n])) := by
  unfold p0_lgraph l0_lgraph
  exact (js_goG (Γσ := (fun (st : ((List (Int × Int)))) => [.o 2, .n, .v (PyData.int odds), .n, .n, .v ((eL PyData.int) cutters), .v ((eL PyData.int) backs), .l (st.map (eP2 PyData.int PyData.int)), .n, .n, .n, .n, .n])) (fun s15 => s15) (JS.ca (f' := forM' (fun (st13 : ((List (Int × Int)))) (y14 : (Int × Int)) => p1_lgraph odds cutters backs st13 spot one y14.1 y14.2) (enu backs) pairs) (js_for (enc := (eP2 PyData.int PyData.int)) (Γσ := (fun (st13 : ((List (Int × Int)))) => [.o 2, .n, .v (PyData.int odds), .n, .n, .v ((eL PyData.int) cutters), .v ((eL PyData.int) backs), .l (st13.map (eP2 PyData.int PyData.int)), .v (PyData.int spot), .v (PyData.int one), .n, .n, .n]))  (fb := fun (st13 : ((List (Int × Int)))) (y14 : (Int × Int)) => p1_lgraph odds cutters backs st13 spot one y14.1 y14.2) pairs (JI.ca (f' := pu (enu backs)) (ji_enu (enc := PyData.int) (x := (eL PyData.int)) (jx_var (i := 6) (x := (eL PyData.int)) backs rfl) (fun _ => .inl rfl))) xo_ne (wkm [true, false, true, false, false, true, true, true, true, true, false, false, false] rfl) (fun st13 y14 => (jg_tup (n := 2) (jgs_cons jg_name (jgs_cons jg_name jgs_nil)))) (fun st13 y14 => q1_lgraph R0 h0 odds cutters backs st13 spot one y14.1 y14.2))) (fun s15 => wkm [true, false, true, false, false, true, true, true, false, false, false, false, false] rfl))
noncomputable def p_lgraph  : Dn ((List Int) × (List Int) × (List (Int × Int))) :=
  bd (bd (drawN (11 : Int)) fun x2 => bd (pickN ([(1 : Int), (2 : Int), (3 : Int), (4 : Int), (8 : Int)])) fun x3 => pu (x2, x3, ())) fun a1 => bd (bd (drawN (10 : Int)) fun x5 => pu ((if ((16 : Int) - a1.1) < x5 then ((16 : Int) - a1.1) else x5))) fun right'_4 => bd (bd (lf (rg1 (16 : Int))) fun x7 => mixN PyData.int x7) fun numbers_6 => bd (pu ((sortI (cutL numbers_6 none (some a1.1))), (sortI (cutL numbers_6 (some a1.1) (some (a1.1 + right'_4)))), (([] : (List (Int × Int)))), ())) fun a8 => bd (forM' (fun (st16 : ((List (Int × Int)))) (y17 : (Int × Int)) => p0_lgraph a1.2.1 a8.1 a8.2.1 st16 y17.1 y17.2) (enu a8.1) a8.2.2.1) fun s18 => pu (((a8.1), (a8.2.1), (s18)))
theorem q_lgraph (R0 : Mm) (h0 : ∀ q, (DkQ.m0 q ++ R0).all (MO.below (DkQ.n + R0.length)) = true)  : JS (μ := Dn) (DkQ.B R0 h0) [.o 2, .n, .n, .n, .n, .n, .n, .n, .n, .n, .n, .n, .n] [] b_lgraph (p_lgraph ) (Kr _ (eP3 (eT PyData.int) (eT PyData.int) (eT (eP2 PyData.int PyData.int)))) := by
  unfold p_lgraph b_lgraph
  exact (js_seq (js_par (α := Int × Int × Unit) (is := [1, 2]) (sps := (fun a => [.v (PyData.int a.1), .v (PyData.int a.2.1)])) (JA.ca (f' := bd (drawN (11 : Int)) fun x2 => bd (pickN ([(1 : Int), (2 : Int), (3 : Int), (4 : Int), (8 : Int)])) fun x3 => pu (x2, x3, ())) (ja_cons (jx_callN (n := 2) (fun a : Unit × Int × Unit => a.2) fd_ldraw (ja_cons (jx_obj (j := 2) (i := 0) rfl jq_nf) (ja_cons (jx_c (x := PyData.int) (11 : Int)) ja_nil))) (ja_cons (jx_callN (fun a : Unit × (List Int) × Unit => a.2) (fd_lpick PyData.int) (ja_cons (jx_obj (j := 2) (i := 0) rfl jq_nf) (ja_cons (JX.map (sp' := fun q => .v ((eL PyData.int) q)) (jx_lst (xs := fun a : Int × Int × Int × Int × Int × Unit => [PyData.int a.1, PyData.int a.2.1, PyData.int a.2.2.1, PyData.int a.2.2.2.1, PyData.int a.2.2.2.2.1]) (ja_cons (jx_c (x := PyData.int) (1 : Int)) (ja_cons (jx_c (x := PyData.int) (2 : Int)) (ja_cons (jx_c (x := PyData.int) (3 : Int)) (ja_cons (jx_c (x := PyData.int) (4 : Int)) (ja_cons (jx_c (x := PyData.int) (8 : Int)) ja_nil)))))) (fun a : Int × Int × Int × Int × Int × Unit => [a.1, a.2.1, a.2.2.1, a.2.2.2.1, a.2.2.2.2.1]) (fun _ => rfl)) ja_nil))) ja_nil))) xo_ne) (fun a1 => (js_seq (js_asg (i := 3) (sp := fun q => .v (PyData.int q)) (JX.ca (f' := bd (drawN (10 : Int)) fun x5 => pu ((if ((16 : Int) - a1.1) < x5 then ((16 : Int) - a1.1) else x5))) (jx_data (xs := fun a : Int × Int × Unit => [PyData.int a.1, PyData.int a.2.1]) (y := PyData.int) (fun a => (if a.2.1 < a.1 then a.2.1 else a.1)) (ja_cons (jx_callN (n := 2) (fun a : Unit × Int × Unit => a.2) fd_ldraw (ja_cons (jx_obj (j := 2) (i := 0) rfl jq_nf) (ja_cons (jx_c (x := PyData.int) (10 : Int)) ja_nil))) (ja_cons (jx_op (xc := PyData.int) (fun (p : Int) (q : Int) => p - q) (JX.ro (jx_c (x := PyData.int) (16 : Int))) (JX.ro (jx_var (i := 1) (x := PyData.int) a1.1 rfl)) (fun p q => o2_sub p q)) ja_nil)) (fun _ _ => rfl))) xo_ne) (fun right'_4 => (js_seq (js_asg (i := 4) (sp := fun q => .v ((eL PyData.int) q)) (JX.ca (f' := bd (lf (rg1 (16 : Int))) fun x7 => mixN PyData.int x7) (jx_callN (fun a : Unit × (List Int) × Unit => a.2) (fd_lmixed PyData.int) (ja_cons (jx_obj (j := 2) (i := 0) rfl jq_nf) (ja_cons (jx_lr1 (jx_c (x := PyData.int) (16 : Int))) ja_nil)))) xo_ne) (fun numbers_6 => (js_seq (js_par (α := (List Int) × (List Int) × (List (Int × Int)) × Unit) (is := [5, 6, 7]) (sps := (fun a => [.v ((eL PyData.int) a.1), .v ((eL PyData.int) a.2.1), .l (a.2.2.1.map (eP2 PyData.int PyData.int))])) (JA.ca (f' := pu ((sortI (cutL numbers_6 none (some a1.1))), (sortI (cutL numbers_6 (some a1.1) (some (a1.1 + right'_4)))), (([] : (List (Int × Int)))), ())) (ja_cons (jx_read (y := (eL PyData.int)) (fun a : (List Int) => sortI a) (JX.ro (jx_sliceT (y := (eL PyData.int)) cutL (JX.ro (jx_var (i := 4) (x := (eL PyData.int)) numbers_6 rfl)) jn_none (jn_some (jx_var (i := 1) (x := PyData.int) a1.1 rfl)) (fun a lo hi v M r => sl_L a lo hi v M r))) (fun a v M r => cz_sortI a v M r)) (ja_cons (jx_read (y := (eL PyData.int)) (fun a : (List Int) => sortI a) (JX.ro (jx_sliceT (y := (eL PyData.int)) cutL (JX.ro (jx_var (i := 4) (x := (eL PyData.int)) numbers_6 rfl)) (jn_some (jx_var (i := 1) (x := PyData.int) a1.1 rfl)) (jn_some (jx_op (xc := PyData.int) (fun (p : Int) (q : Int) => p + q) (JX.ro (jx_var (i := 1) (x := PyData.int) a1.1 rfl)) (JX.ro (jx_var (i := 3) (x := PyData.int) right'_4 rfl)) (fun p q => o2_add p q))) (fun a lo hi v M r => sl_L a lo hi v M r))) (fun a v M r => cz_sortI a v M r)) (ja_cons (JX.map (sp' := fun q => .l (List.map (eP2 PyData.int PyData.int) q)) (jx_new (xs := fun a : Unit => []) ja_nil) (fun a : Unit => ([] : (List (Int × Int)))) (fun _ => rfl)) ja_nil)))) xo_ne) (fun a8 => (js_seq (JS.ca (f' := forM' (fun (st16 : ((List (Int × Int)))) (y17 : (Int × Int)) => p0_lgraph a1.2.1 a8.1 a8.2.1 st16 y17.1 y17.2) (enu a8.1) a8.2.2.1) (js_for (enc := (eP2 PyData.int PyData.int)) (Γσ := (fun (st16 : ((List (Int × Int)))) => [.o 2, .n, .v (PyData.int a1.2.1), .n, .n, .v ((eL PyData.int) a8.1), .v ((eL PyData.int) a8.2.1), .l (st16.map (eP2 PyData.int PyData.int)), .n, .n, .n, .n, .n]))  (fb := fun (st16 : ((List (Int × Int)))) (y17 : (Int × Int)) => p0_lgraph a1.2.1 a8.1 a8.2.1 st16 y17.1 y17.2) a8.2.2.1 (JI.ca (f' := pu (enu a8.1)) (ji_enu (enc := PyData.int) (x := (eL PyData.int)) (jx_var (i := 5) (x := (eL PyData.int)) a8.1 rfl) (fun _ => .inl rfl))) xo_ne (wkm [true, false, true, false, false, true, true, true, false, false, false, false, false] rfl) (fun st16 y17 => (jg_tup (n := 2) (jgs_cons jg_name (jgs_cons jg_name jgs_nil)))) (fun st16 y17 => q0_lgraph R0 h0 a1.2.1 a8.1 a8.2.1 st16 y17.1 y17.2))) (fun s18 => (JS.ret (js_ret (y := (eP3 (eT PyData.int) (eT PyData.int) (eT (eP2 PyData.int PyData.int)))) (JX.ca (f' := pu (((a8.1), (a8.2.1), (s18)))) (JX.map (sp' := fun q => .v ((eP3 (eT PyData.int) (eT PyData.int) (eT (eP2 PyData.int PyData.int))) q)) (jx_tup (xs := fun a : (List Int) × (List Int) × (List (Int × Int)) × Unit => [(eT PyData.int) a.1, (eT PyData.int) a.2.1, (eT (eP2 PyData.int PyData.int)) a.2.2.1]) (ja_cons (jx_read (y := (eT PyData.int)) (fun a => a) (JX.ro (jx_var (i := 5) (x := (eL PyData.int)) a8.1 rfl)) (fun a v M r => cz_tupL a v M r)) (ja_cons (jx_read (y := (eT PyData.int)) (fun a => a) (JX.ro (jx_var (i := 6) (x := (eL PyData.int)) a8.2.1 rfl)) (fun a v M r => cz_tupL a v M r)) (ja_cons (jx_read (y := (eT (eP2 PyData.int PyData.int))) (fun a => a) (jo_list (i := 7) (x := (eL (eP2 PyData.int PyData.int))) s18 rfl) (fun a v M r => cz_tupL a v M r)) ja_nil)))) (fun a : (List Int) × (List Int) × (List (Int × Int)) × Unit => (a.1, a.2.1, a.2.2.1)) (fun _ => rfl))) xo_ne))))))))))))
theorem fd_lgraph : FnN DkQ 2 d_lgraph (fun a : Unit => p_lgraph ) (fun a => []) (eP3 (eT PyData.int) (eT PyData.int) (eT (eP2 PyData.int PyData.int))) :=
  fnN_of (fun a => [.o 2, .n, .n, .n, .n, .n, .n, .n, .n, .n, .n, .n, .n]) (fun a R0 h0 => q_lgraph R0 h0 )

section
variable {M0 : Mm} {i j : Nat} {pairs : List (Int × Int)} {U : List Int}
set_option maxHeartbeats 8000000 in
theorem placed_loop (hi : i < M0.length) (hj : j < M0.length) (hij : i ≠ j) (hU : UB pairs U) {B : PyData} {rec : Den} {n : Nat}
    (hrec : ∀ x m s k t, MI pairs U (m, s) → U.length - s.length < n → plc pairs n x (m, s) = some (k, t) → rec [.d (.int x), .d B, .obj i, .obj j] (WW kbM M0 i j m s) = .ok (.d (.bool k)) (WW kbM M0 i j t.1 t.2)) (c : Int) :
    ∀ (ps : List (Int × Int)) (m : List (Int × Int)) (s : List Int) (x4 x5 : Option Val) (k : Bool) (t : MS), (∀ p ∈ ps, p ∈ pairs) → MI pairs U (m, s) → U.length - s.length < n + 1 → plcL (plc pairs n) c ps (m, s) = some (k, t) →
      (k = true → forL (g0_placed rec) (l0_placed rec) (ps.map fun p => .d (Zm.pairD p)) [some (.d (.int c)), some (.d B), some (.obj i), some (.obj j), x4, x5] (WW kbM M0 i j m s) = .rt (.d (.bool true)) (WW kbM M0 i j t.1 t.2)) ∧
      (k = false → ∃ y4 y5 : Option Val, forL (g0_placed rec) (l0_placed rec) (ps.map fun p => .d (Zm.pairD p)) [some (.d (.int c)), some (.d B), some (.obj i), some (.obj j), x4, x5] (WW kbM M0 i j m s) = .nx [some (.d (.int c)), some (.d B), some (.obj i), some (.obj j), y4, y5] (WW kbM M0 i j t.1 t.2))
  | [], m, s, x4, x5, k, t, _, _, _, e => by
    cases e
    exact ⟨(fun z => by cases z), fun _ => ⟨x4, x5, rfl⟩⟩
  | (a, b) :: ps, m, s, x4, x5, k, t, hps, hs, hn, e => by
    have hp := hps (a, b) (List.mem_cons_self ..)
    have hps' := fun q hq => hps q (List.mem_cons_of_mem _ hq)
    have g0 : ∀ M : Mm, g0_placed rec (.d (Zm.pairD (a, b))) [some (.d (.int c)), some (.d B), some (.obj i), some (.obj j), x4, x5] M = some ([some (.d (.int c)), some (.d B), some (.obj i), some (.obj j), some (.d (.int a)), some (.d (.int b))], M) := fun M => rfl
    have rdi : ∀ m s, rd (.obj i) (WW kbM M0 i j m s) = .obj i := fun m s => ww_rdi hi hij
    have rdj : ∀ m s, rd (.obj j) (WW kbM M0 i j m s) = .obj j := fun m s => by
      show (match (WW kbM M0 i j m s)[j]? with | some (.frz x) => Val.d x | _ => .obj j) = _
      rw [ww_j hj]
      rfl
    have ins : ∀ m s, vInX true (.d (.int b)) (.obj j) (WW kbM M0 i j m s) = .ok (.d (.bool (xor true (decide (b ∈ s))))) (WW kbM M0 i j m s) := fun m s => in_kb (ww_j hj)
    have inm : ∀ m s, vInX true (.d (.int b)) (.obj i) (WW kbM M0 i j m s) = .ok (.d (.bool (xor true (dget m b).isSome))) (WW kbM M0 i j m s) := fun m s => in_kv (ww_i hi hij)
    have hml := hs.ml hU
    have hsl := hs.sl hU
    dsimp only at hml hsl

    have next : ∀ (k : Bool) (t : MS) (m2 : List (Int × Int)) (s2 : List Int), MI pairs U (m2, s2) → U.length - s2.length < n + 1 → plcL (plc pairs n) c ps (m2, s2) = some (k, t) → l0_placed rec [some (.d (.int c)), some (.d B), some (.obj i), some (.obj j), some (.d (.int a)), some (.d (.int b))] (WW kbM M0 i j m s) = .nx [some (.d (.int c)), some (.d B), some (.obj i), some (.obj j), some (.d (.int a)), some (.d (.int b))] (WW kbM M0 i j m2 s2) →
        (k = true → forL (g0_placed rec) (l0_placed rec) (((a, b) :: ps).map fun p => .d (Zm.pairD p)) [some (.d (.int c)), some (.d B), some (.obj i), some (.obj j), x4, x5] (WW kbM M0 i j m s) = .rt (.d (.bool true)) (WW kbM M0 i j t.1 t.2)) ∧
        (k = false → ∃ y4 y5 : Option Val, forL (g0_placed rec) (l0_placed rec) (((a, b) :: ps).map fun p => .d (Zm.pairD p)) [some (.d (.int c)), some (.d B), some (.obj i), some (.obj j), x4, x5] (WW kbM M0 i j m s) = .nx [some (.d (.int c)), some (.d B), some (.obj i), some (.obj j), y4, y5] (WW kbM M0 i j t.1 t.2)) := fun k t m2 s2 h1 h2 h3 h4 => by
      obtain ⟨q1, q2⟩ := placed_loop hi hj hij hU hrec c ps m2 s2 (some (.d (.int a))) (some (.d (.int b))) k t hps' h1 h2 h3
      rw [List.map_cons, z_forc (g0 _), h4]
      exact ⟨q1, q2⟩
    have done : ∀ (m2 : List (Int × Int)) (s2 : List Int), l0_placed rec [some (.d (.int c)), some (.d B), some (.obj i), some (.obj j), some (.d (.int a)), some (.d (.int b))] (WW kbM M0 i j m s) = .rt (.d (.bool true)) (WW kbM M0 i j m2 s2) →
        (true = true → forL (g0_placed rec) (l0_placed rec) (((a, b) :: ps).map fun p => .d (Zm.pairD p)) [some (.d (.int c)), some (.d B), some (.obj i), some (.obj j), x4, x5] (WW kbM M0 i j m s) = .rt (.d (.bool true)) (WW kbM M0 i j m2 s2)) ∧
        (true = false → ∃ y4 y5 : Option Val, forL (g0_placed rec) (l0_placed rec) (((a, b) :: ps).map fun p => .d (Zm.pairD p)) [some (.d (.int c)), some (.d B), some (.obj i), some (.obj j), x4, x5] (WW kbM M0 i j m s) = .nx [some (.d (.int c)), some (.d B), some (.obj i), some (.obj j), y4, y5] (WW kbM M0 i j m2 s2)) := fun m2 s2 h4 => by
      rw [List.map_cons, z_forc (g0 _), h4]
      exact ⟨fun _ => rfl, fun z => by cases z⟩
    unfold plcL at e
    by_cases hc : a = c ∧ b ∉ s
    · rw [if_pos hc] at e
      obtain ⟨rfl, hb⟩ := hc
      have hs1 : MI pairs U (m, s ++ [b]) := hs.step hU hp hb
      have dS : decide (b ∈ s) = false := decide_eq_false hb
      have seS : vSetX (.obj j) (.d (.int b)) (.d (.bool true)) (WW kbM M0 i j m s) = some (WW kbM M0 i j m (s ++ [b])) := (set_kb (ww_j hj) hb (by omega)).trans (by rw [ww_sj])
      cases hg : dget m b with
      | none =>
        dsimp only at e
        rw [hg] at e
        cases e
        have setm : vSetX (.obj i) (.d (.int b)) (.d (.int a)) (WW kbM M0 i j m (s ++ [b])) = some (WW kbM M0 i j (dput m b a) (s ++ [b])) := (set_kv (ww_i hi hij) (by omega)).trans (by rw [ww_si hij])
        refine done _ _ ?_
        unfold l0_placed
        simp only [z_bok, z_bsok, z_bbad, z_bsbad, z_seqbad, z_outbad, z_asgbad, small_fmod, small_lit, fits_le, smallR_lit, z_na64, z_bif, z_bsif, z_noer, z_seqn, z_seqr, z_seqif, z_outr, z_outn, z_outif, z_C, z_op, z_T, z_tand, z_tor, z_tnot, z_and, z_or, z_not, z_if, z_nil, z_cons, z_tup, z_lst, z_new, z_allD0, z_allD1, z_map, z_sNil, z_sSeq, z_sIf, z_sDrop, z_sRet, z_sAsg, z_asg, z_asgif, z_sPar, z_gN, z_gT, z_gsNil, z_gsCons, z_obind, z_gSet, z_B, z_It, z_Enum, z_R1, z_R2, z_r1, z_r2, z_Comp, z_For, z_Yes, z_M, z_Sl, z_oN, z_oS, z_Rev, z_Neg, z_IsI, z_call, z_callK, z_chain, z_body, z_rdd, z_rds, z_int, z_vI, z_vB, z_le, z_eqi, z_nei, z_nes, z_eqs, z_vInt, z_vI2, z_isN, z_notN, z_enumt, z_enuml, z_itl, z_itt, z_its, z_ixt0, z_ixt1, z_ixt2, z_lenl, z_lent, z_tyt, z_tyl, z_tyd, z_tyi, z_tyb, z_tys, z_tyn, isT_tt, isT_lt, isT_dt, isT_it, isT_bt, isT_st, isT_nt, isT_ti, isT_li, isT_di, isT_ii, isT_bi, isT_si, isT_ni, isT_tb, isT_lb, isT_db, isT_ib, isT_bb, isT_sb, isT_nb, isT_ts, isT_ls, isT_ds, isT_is, isT_bs, isT_ss, isT_ns, z_forn, z_mulx, z_lr1, z_lr1N, okR_le, dk_get, dk_set, dk_add, dk_ll, z_rdo, z_tyo, z_app, z_ext, z_star, z_lr2, z_listN, z_sqt, z_sql, z_leno, z_frz, fzL_d, z_lens, z_sls, z_sll, z_addl, z_addt, z_na10, z_dct0, z_disp, z_disp1, z_slt, z_revt, dk_rd2, dk_ty2, dk_mem1, dk_len0, z_tupl, z_tupt, z_listt, z_listl, z_in2, slots0, mVar, wipeS, pickBy, dk_rd0, dk_rd1, dk_ix0, dk_ix1, dk_ix2, dk_ne, dk_setn, dk_ty0, dk_ty1, Option.some.injEq, List.map_cons, List.map_nil, List.length_cons, List.length_nil, List.replicate_succ, List.replicate_zero, List.cons_append, List.nil_append, List.append_nil, List.getElem?_cons_zero, List.getElem?_cons_succ, List.set_cons_zero, List.set_cons_succ, List.zip_cons_cons, List.zip_nil_left, List.foldl_cons, List.foldl_nil, List.filterMap_cons, List.filterMap_nil, Nat.reduceSub, Nat.reduceAdd, Nat.reduceLT, Nat.reduceLeDiff, Nat.zero_add, Nat.add_zero, Nat.reduceEqDiff, decide_eq_true_eq, Bool.not_eq_true, Bool.not_true, Bool.not_false, Bool.not_not, ite_true, ite_false, if_true, if_false, reduceIte, Bool.false_eq_true, and_self, and_true, true_and, Int.reduceNeg, Int.reduceLT, Int.reduceLE, Int.reduceSub, Int.reduceAdd, Int.reduceMul, Int.reducePow, Int.reduceEq, Int.reduceNe, decide_true, decide_false, decide_not, Bool.and_true, Bool.true_and, Bool.or_true, Bool.true_or, ne_eq, not_true_eq_false, not_false_eq_true, Bool.and_self, false_and, and_false, reduceCtorEq, eq_self, beq_self_eq_true, List.set_nil, List.getElem?_nil, List.length_append, List.length_map, Bool.false_and, Bool.and_false, Bool.false_or, Bool.or_false, Int.cast_ofNat_Int, Int.reduceToNat, Int.zero_add, Int.add_zero, rdi, rdj, ins, inm, dS, seS, hg, Option.isSome_none, Bool.xor_false, setm, Option.map_some]
      | some x =>
        dsimp only at e
        rw [hg] at e
        dsimp only at e
        have hlen : (s ++ [b]).length ≤ U.length := nd_len hs1.sn hs1.su
        rw [List.length_append, List.length_singleton] at hlen
        have hn1 : U.length - (s ++ [b]).length < n := by rw [List.length_append, List.length_singleton]; omega
        obtain ⟨⟨k1, t1⟩, er, g1, _, g3, _, _⟩ := plc_ok hU n x (m, s ++ [b]) hs1 hn1
        have call := hrec x m (s ++ [b]) k1 t1 hs1 hn1 er
        have ixm : ∀ s, vIxX (.obj i) (.d (.int b)) (WW kbM M0 i j m s) = .ok (.d (.int x)) (WW kbM M0 i j m s) := fun s => ix_kv (ww_i hi hij) hg
        rw [er] at e
        have g3 : (s ++ [b]).length ≤ t1.2.length := g3
        rw [List.length_append, List.length_singleton] at g3
        cases k1 with
        | true =>
          cases e
          have hml1 := g1.ml hU
          dsimp only at hml1
          have setm : vSetX (.obj i) (.d (.int b)) (.d (.int a)) (WW kbM M0 i j t1.1 t1.2) = some (WW kbM M0 i j (dput t1.1 b a) t1.2) := (set_kv (ww_i hi hij) (by omega)).trans (by rw [ww_si hij])
          refine done _ _ ?_
          unfold l0_placed
          simp only [z_bok, z_bsok, z_bbad, z_bsbad, z_seqbad, z_outbad, z_asgbad, small_fmod, small_lit, fits_le, smallR_lit, z_na64, z_bif, z_bsif, z_noer, z_seqn, z_seqr, z_seqif, z_outr, z_outn, z_outif, z_C, z_op, z_T, z_tand, z_tor, z_tnot, z_and, z_or, z_not, z_if, z_nil, z_cons, z_tup, z_lst, z_new, z_allD0, z_allD1, z_map, z_sNil, z_sSeq, z_sIf, z_sDrop, z_sRet, z_sAsg, z_asg, z_asgif, z_sPar, z_gN, z_gT, z_gsNil, z_gsCons, z_obind, z_gSet, z_B, z_It, z_Enum, z_R1, z_R2, z_r1, z_r2, z_Comp, z_For, z_Yes, z_M, z_Sl, z_oN, z_oS, z_Rev, z_Neg, z_IsI, z_call, z_callK, z_chain, z_body, z_rdd, z_rds, z_int, z_vI, z_vB, z_le, z_eqi, z_nei, z_nes, z_eqs, z_vInt, z_vI2, z_isN, z_notN, z_enumt, z_enuml, z_itl, z_itt, z_its, z_ixt0, z_ixt1, z_ixt2, z_lenl, z_lent, z_tyt, z_tyl, z_tyd, z_tyi, z_tyb, z_tys, z_tyn, isT_tt, isT_lt, isT_dt, isT_it, isT_bt, isT_st, isT_nt, isT_ti, isT_li, isT_di, isT_ii, isT_bi, isT_si, isT_ni, isT_tb, isT_lb, isT_db, isT_ib, isT_bb, isT_sb, isT_nb, isT_ts, isT_ls, isT_ds, isT_is, isT_bs, isT_ss, isT_ns, z_forn, z_mulx, z_lr1, z_lr1N, okR_le, dk_get, dk_set, dk_add, dk_ll, z_rdo, z_tyo, z_app, z_ext, z_star, z_lr2, z_listN, z_sqt, z_sql, z_leno, z_frz, fzL_d, z_lens, z_sls, z_sll, z_addl, z_addt, z_na10, z_dct0, z_disp, z_disp1, z_slt, z_revt, dk_rd2, dk_ty2, dk_mem1, dk_len0, z_tupl, z_tupt, z_listt, z_listl, z_in2, slots0, mVar, wipeS, pickBy, dk_rd0, dk_rd1, dk_ix0, dk_ix1, dk_ix2, dk_ne, dk_setn, dk_ty0, dk_ty1, Option.some.injEq, List.map_cons, List.map_nil, List.length_cons, List.length_nil, List.replicate_succ, List.replicate_zero, List.cons_append, List.nil_append, List.append_nil, List.getElem?_cons_zero, List.getElem?_cons_succ, List.set_cons_zero, List.set_cons_succ, List.zip_cons_cons, List.zip_nil_left, List.foldl_cons, List.foldl_nil, List.filterMap_cons, List.filterMap_nil, Nat.reduceSub, Nat.reduceAdd, Nat.reduceLT, Nat.reduceLeDiff, Nat.zero_add, Nat.add_zero, Nat.reduceEqDiff, decide_eq_true_eq, Bool.not_eq_true, Bool.not_true, Bool.not_false, Bool.not_not, ite_true, ite_false, if_true, if_false, reduceIte, Bool.false_eq_true, and_self, and_true, true_and, Int.reduceNeg, Int.reduceLT, Int.reduceLE, Int.reduceSub, Int.reduceAdd, Int.reduceMul, Int.reducePow, Int.reduceEq, Int.reduceNe, decide_true, decide_false, decide_not, Bool.and_true, Bool.true_and, Bool.or_true, Bool.true_or, ne_eq, not_true_eq_false, not_false_eq_true, Bool.and_self, false_and, and_false, reduceCtorEq, eq_self, beq_self_eq_true, List.set_nil, List.getElem?_nil, List.length_append, List.length_map, Bool.false_and, Bool.and_false, Bool.false_or, Bool.or_false, Int.cast_ofNat_Int, Int.reduceToNat, Int.zero_add, Int.add_zero, rdi, rdj, ins, inm, dS, seS, hg, Option.isSome_some, Bool.xor_true, Bool.xor_false, ixm, call, setm, Option.map_some]
        | false =>
          refine next k t t1.1 t1.2 g1 (by omega) e ?_
          unfold l0_placed
          simp only [z_bok, z_bsok, z_bbad, z_bsbad, z_seqbad, z_outbad, z_asgbad, small_fmod, small_lit, fits_le, smallR_lit, z_na64, z_bif, z_bsif, z_noer, z_seqn, z_seqr, z_seqif, z_outr, z_outn, z_outif, z_C, z_op, z_T, z_tand, z_tor, z_tnot, z_and, z_or, z_not, z_if, z_nil, z_cons, z_tup, z_lst, z_new, z_allD0, z_allD1, z_map, z_sNil, z_sSeq, z_sIf, z_sDrop, z_sRet, z_sAsg, z_asg, z_asgif, z_sPar, z_gN, z_gT, z_gsNil, z_gsCons, z_obind, z_gSet, z_B, z_It, z_Enum, z_R1, z_R2, z_r1, z_r2, z_Comp, z_For, z_Yes, z_M, z_Sl, z_oN, z_oS, z_Rev, z_Neg, z_IsI, z_call, z_callK, z_chain, z_body, z_rdd, z_rds, z_int, z_vI, z_vB, z_le, z_eqi, z_nei, z_nes, z_eqs, z_vInt, z_vI2, z_isN, z_notN, z_enumt, z_enuml, z_itl, z_itt, z_its, z_ixt0, z_ixt1, z_ixt2, z_lenl, z_lent, z_tyt, z_tyl, z_tyd, z_tyi, z_tyb, z_tys, z_tyn, isT_tt, isT_lt, isT_dt, isT_it, isT_bt, isT_st, isT_nt, isT_ti, isT_li, isT_di, isT_ii, isT_bi, isT_si, isT_ni, isT_tb, isT_lb, isT_db, isT_ib, isT_bb, isT_sb, isT_nb, isT_ts, isT_ls, isT_ds, isT_is, isT_bs, isT_ss, isT_ns, z_forn, z_mulx, z_lr1, z_lr1N, okR_le, dk_get, dk_set, dk_add, dk_ll, z_rdo, z_tyo, z_app, z_ext, z_star, z_lr2, z_listN, z_sqt, z_sql, z_leno, z_frz, fzL_d, z_lens, z_sls, z_sll, z_addl, z_addt, z_na10, z_dct0, z_disp, z_disp1, z_slt, z_revt, dk_rd2, dk_ty2, dk_mem1, dk_len0, z_tupl, z_tupt, z_listt, z_listl, z_in2, slots0, mVar, wipeS, pickBy, dk_rd0, dk_rd1, dk_ix0, dk_ix1, dk_ix2, dk_ne, dk_setn, dk_ty0, dk_ty1, Option.some.injEq, List.map_cons, List.map_nil, List.length_cons, List.length_nil, List.replicate_succ, List.replicate_zero, List.cons_append, List.nil_append, List.append_nil, List.getElem?_cons_zero, List.getElem?_cons_succ, List.set_cons_zero, List.set_cons_succ, List.zip_cons_cons, List.zip_nil_left, List.foldl_cons, List.foldl_nil, List.filterMap_cons, List.filterMap_nil, Nat.reduceSub, Nat.reduceAdd, Nat.reduceLT, Nat.reduceLeDiff, Nat.zero_add, Nat.add_zero, Nat.reduceEqDiff, decide_eq_true_eq, Bool.not_eq_true, Bool.not_true, Bool.not_false, Bool.not_not, ite_true, ite_false, if_true, if_false, reduceIte, Bool.false_eq_true, and_self, and_true, true_and, Int.reduceNeg, Int.reduceLT, Int.reduceLE, Int.reduceSub, Int.reduceAdd, Int.reduceMul, Int.reducePow, Int.reduceEq, Int.reduceNe, decide_true, decide_false, decide_not, Bool.and_true, Bool.true_and, Bool.or_true, Bool.true_or, ne_eq, not_true_eq_false, not_false_eq_true, Bool.and_self, false_and, and_false, reduceCtorEq, eq_self, beq_self_eq_true, List.set_nil, List.getElem?_nil, List.length_append, List.length_map, Bool.false_and, Bool.and_false, Bool.false_or, Bool.or_false, Int.cast_ofNat_Int, Int.reduceToNat, Int.zero_add, Int.add_zero, rdi, rdj, ins, inm, dS, seS, hg, Option.isSome_some, Bool.xor_true, Bool.xor_false, ixm, call, Option.map_some]
    · rw [if_neg hc] at e
      refine next k t m s hs hn e ?_
      unfold l0_placed
      by_cases h1 : a = c
      · have hb : b ∈ s := by
          by_cases q : b ∈ s
          · exact q
          · exact absurd ⟨h1, q⟩ hc
        have dS : decide (b ∈ s) = true := decide_eq_true hb
        simp only [z_bok, z_bsok, z_bbad, z_bsbad, z_seqbad, z_outbad, z_asgbad, small_fmod, small_lit, fits_le, smallR_lit, z_na64, z_bif, z_bsif, z_noer, z_seqn, z_seqr, z_seqif, z_outr, z_outn, z_outif, z_C, z_op, z_T, z_tand, z_tor, z_tnot, z_and, z_or, z_not, z_if, z_nil, z_cons, z_tup, z_lst, z_new, z_allD0, z_allD1, z_map, z_sNil, z_sSeq, z_sIf, z_sDrop, z_sRet, z_sAsg, z_asg, z_asgif, z_sPar, z_gN, z_gT, z_gsNil, z_gsCons, z_obind, z_gSet, z_B, z_It, z_Enum, z_R1, z_R2, z_r1, z_r2, z_Comp, z_For, z_Yes, z_M, z_Sl, z_oN, z_oS, z_Rev, z_Neg, z_IsI, z_call, z_callK, z_chain, z_body, z_rdd, z_rds, z_int, z_vI, z_vB, z_le, z_eqi, z_nei, z_nes, z_eqs, z_vInt, z_vI2, z_isN, z_notN, z_enumt, z_enuml, z_itl, z_itt, z_its, z_ixt0, z_ixt1, z_ixt2, z_lenl, z_lent, z_tyt, z_tyl, z_tyd, z_tyi, z_tyb, z_tys, z_tyn, isT_tt, isT_lt, isT_dt, isT_it, isT_bt, isT_st, isT_nt, isT_ti, isT_li, isT_di, isT_ii, isT_bi, isT_si, isT_ni, isT_tb, isT_lb, isT_db, isT_ib, isT_bb, isT_sb, isT_nb, isT_ts, isT_ls, isT_ds, isT_is, isT_bs, isT_ss, isT_ns, z_forn, z_mulx, z_lr1, z_lr1N, okR_le, dk_get, dk_set, dk_add, dk_ll, z_rdo, z_tyo, z_app, z_ext, z_star, z_lr2, z_listN, z_sqt, z_sql, z_leno, z_frz, fzL_d, z_lens, z_sls, z_sll, z_addl, z_addt, z_na10, z_dct0, z_disp, z_disp1, z_slt, z_revt, dk_rd2, dk_ty2, dk_mem1, dk_len0, z_tupl, z_tupt, z_listt, z_listl, z_in2, slots0, mVar, wipeS, pickBy, dk_rd0, dk_rd1, dk_ix0, dk_ix1, dk_ix2, dk_ne, dk_setn, dk_ty0, dk_ty1, Option.some.injEq, List.map_cons, List.map_nil, List.length_cons, List.length_nil, List.replicate_succ, List.replicate_zero, List.cons_append, List.nil_append, List.append_nil, List.getElem?_cons_zero, List.getElem?_cons_succ, List.set_cons_zero, List.set_cons_succ, List.zip_cons_cons, List.zip_nil_left, List.foldl_cons, List.foldl_nil, List.filterMap_cons, List.filterMap_nil, Nat.reduceSub, Nat.reduceAdd, Nat.reduceLT, Nat.reduceLeDiff, Nat.zero_add, Nat.add_zero, Nat.reduceEqDiff, decide_eq_true_eq, Bool.not_eq_true, Bool.not_true, Bool.not_false, Bool.not_not, ite_true, ite_false, if_true, if_false, reduceIte, Bool.false_eq_true, and_self, and_true, true_and, Int.reduceNeg, Int.reduceLT, Int.reduceLE, Int.reduceSub, Int.reduceAdd, Int.reduceMul, Int.reducePow, Int.reduceEq, Int.reduceNe, decide_true, decide_false, decide_not, Bool.and_true, Bool.true_and, Bool.or_true, Bool.true_or, ne_eq, not_true_eq_false, not_false_eq_true, Bool.and_self, false_and, and_false, reduceCtorEq, eq_self, beq_self_eq_true, List.set_nil, List.getElem?_nil, List.length_append, List.length_map, Bool.false_and, Bool.and_false, Bool.false_or, Bool.or_false, Int.cast_ofNat_Int, Int.reduceToNat, Int.zero_add, Int.add_zero, rdi, rdj, ins, h1, dS, Bool.xor_true, Bool.xor_false]
      · simp only [z_bok, z_bsok, z_bbad, z_bsbad, z_seqbad, z_outbad, z_asgbad, small_fmod, small_lit, fits_le, smallR_lit, z_na64, z_bif, z_bsif, z_noer, z_seqn, z_seqr, z_seqif, z_outr, z_outn, z_outif, z_C, z_op, z_T, z_tand, z_tor, z_tnot, z_and, z_or, z_not, z_if, z_nil, z_cons, z_tup, z_lst, z_new, z_allD0, z_allD1, z_map, z_sNil, z_sSeq, z_sIf, z_sDrop, z_sRet, z_sAsg, z_asg, z_asgif, z_sPar, z_gN, z_gT, z_gsNil, z_gsCons, z_obind, z_gSet, z_B, z_It, z_Enum, z_R1, z_R2, z_r1, z_r2, z_Comp, z_For, z_Yes, z_M, z_Sl, z_oN, z_oS, z_Rev, z_Neg, z_IsI, z_call, z_callK, z_chain, z_body, z_rdd, z_rds, z_int, z_vI, z_vB, z_le, z_eqi, z_nei, z_nes, z_eqs, z_vInt, z_vI2, z_isN, z_notN, z_enumt, z_enuml, z_itl, z_itt, z_its, z_ixt0, z_ixt1, z_ixt2, z_lenl, z_lent, z_tyt, z_tyl, z_tyd, z_tyi, z_tyb, z_tys, z_tyn, isT_tt, isT_lt, isT_dt, isT_it, isT_bt, isT_st, isT_nt, isT_ti, isT_li, isT_di, isT_ii, isT_bi, isT_si, isT_ni, isT_tb, isT_lb, isT_db, isT_ib, isT_bb, isT_sb, isT_nb, isT_ts, isT_ls, isT_ds, isT_is, isT_bs, isT_ss, isT_ns, z_forn, z_mulx, z_lr1, z_lr1N, okR_le, dk_get, dk_set, dk_add, dk_ll, z_rdo, z_tyo, z_app, z_ext, z_star, z_lr2, z_listN, z_sqt, z_sql, z_leno, z_frz, fzL_d, z_lens, z_sls, z_sll, z_addl, z_addt, z_na10, z_dct0, z_disp, z_disp1, z_slt, z_revt, dk_rd2, dk_ty2, dk_mem1, dk_len0, z_tupl, z_tupt, z_listt, z_listl, z_in2, slots0, mVar, wipeS, pickBy, dk_rd0, dk_rd1, dk_ix0, dk_ix1, dk_ix2, dk_ne, dk_setn, dk_ty0, dk_ty1, Option.some.injEq, List.map_cons, List.map_nil, List.length_cons, List.length_nil, List.replicate_succ, List.replicate_zero, List.cons_append, List.nil_append, List.append_nil, List.getElem?_cons_zero, List.getElem?_cons_succ, List.set_cons_zero, List.set_cons_succ, List.zip_cons_cons, List.zip_nil_left, List.foldl_cons, List.foldl_nil, List.filterMap_cons, List.filterMap_nil, Nat.reduceSub, Nat.reduceAdd, Nat.reduceLT, Nat.reduceLeDiff, Nat.zero_add, Nat.add_zero, Nat.reduceEqDiff, decide_eq_true_eq, Bool.not_eq_true, Bool.not_true, Bool.not_false, Bool.not_not, ite_true, ite_false, if_true, if_false, reduceIte, Bool.false_eq_true, and_self, and_true, true_and, Int.reduceNeg, Int.reduceLT, Int.reduceLE, Int.reduceSub, Int.reduceAdd, Int.reduceMul, Int.reducePow, Int.reduceEq, Int.reduceNe, decide_true, decide_false, decide_not, Bool.and_true, Bool.true_and, Bool.or_true, Bool.true_or, ne_eq, not_true_eq_false, not_false_eq_true, Bool.and_self, false_and, and_false, reduceCtorEq, eq_self, beq_self_eq_true, List.set_nil, List.getElem?_nil, List.length_append, List.length_map, Bool.false_and, Bool.and_false, Bool.false_or, Bool.or_false, Int.cast_ofNat_Int, Int.reduceToNat, Int.zero_add, Int.add_zero, h1]
theorem placed_den (hi : i < M0.length) (hj : j < M0.length) (hij : i ≠ j) (hU : UB pairs U) : ∀ (n : Nat) (c : Int) (m : List (Int × Int)) (s : List Int) (k : Bool) (t : MS), MI pairs U (m, s) → U.length - s.length < n → plc pairs n c (m, s) = some (k, t) →
    d_placed n [.d (.int c), .d (.tuple (pairs.map Zm.pairD)), .obj i, .obj j] (WW kbM M0 i j m s) = .ok (.d (.bool k)) (WW kbM M0 i j t.1 t.2)
  | 0, c, m, s, k, t, _, h, _ => by omega
  | n + 1, c, m, s, k, t, hs, hn, e => by
    have rdi : ∀ m s, rd (.obj i) (WW kbM M0 i j m s) = .obj i := fun m s => ww_rdi hi hij
    obtain ⟨q1, q2⟩ := placed_loop (B := .tuple (pairs.map Zm.pairD)) hi hj hij hU (fun x m s k t a b d => placed_den hi hj hij hU n x m s k t a b d) c pairs m s none none k t (fun _ h => h) hs hn e
    show trim (body 6 (b_placed (d_placed n))) _ _ = _
    refine z_trim ?_ (by rw [ww_len, ww_len])
    rw [z_body]
    unfold b_placed
    have it : mIt (mVar 1) [some (.d (.int c)), some (.d (.tuple (pairs.map Zm.pairD))), some (.obj i), some (.obj j), none, none] (WW kbM M0 i j m s) = .ok (pairs.map fun p => .d (Zm.pairD p)) (WW kbM M0 i j m s) := by
      show Out.ok ((pairs.map Zm.pairD).map Val.d) _ = _
      rw [List.map_map]
      rfl
    cases k with
    | true =>
      have st : (sFor (mIt (mVar 1)) (g0_placed (d_placed n)) (l0_placed (d_placed n))) [some (.d (.int c)), some (.d (.tuple (pairs.map Zm.pairD))), some (.obj i), some (.obj j), none, none] (WW kbM M0 i j m s) = .rt (.d (.bool true)) (WW kbM M0 i j t.1 t.2) := by
        rw [z_For, it]
        exact q1 rfl
      show (SO.seq ((sFor (mIt (mVar 1)) (g0_placed (d_placed n)) (l0_placed (d_placed n))) [some (.d (.int c)), some (.d (.tuple (pairs.map Zm.pairD))), some (.obj i), some (.obj j), none, none] (WW kbM M0 i j m s)) _).out = _
      rw [st]
      rfl
    | false =>
      obtain ⟨y4, y5, q⟩ := q2 rfl
      have st : (sFor (mIt (mVar 1)) (g0_placed (d_placed n)) (l0_placed (d_placed n))) [some (.d (.int c)), some (.d (.tuple (pairs.map Zm.pairD))), some (.obj i), some (.obj j), none, none] (WW kbM M0 i j m s) = .nx [some (.d (.int c)), some (.d (.tuple (pairs.map Zm.pairD))), some (.obj i), some (.obj j), y4, y5] (WW kbM M0 i j t.1 t.2) := by
        rw [z_For, it]
        exact q
      show (SO.seq ((sFor (mIt (mVar 1)) (g0_placed (d_placed n)) (l0_placed (d_placed n))) [some (.d (.int c)), some (.d (.tuple (pairs.map Zm.pairD))), some (.obj i), some (.obj j), none, none] (WW kbM M0 i j m s)) _).out = _
      rw [st]
      rfl
end
/-- the row of cutters -/
theorem matched_run {pairs : List (Int × Int)} {U : List Int} (hU : UB pairs U) {M0 : Mm} {x0 x1 : Option Val} : ∀ (cs : List Int) (m m' : List (Int × Int)) (G : Mm) (x4 : Option Val), MI pairs U (m, []) → runM pairs 18 cs m = some m' →
    ∃ (G' : Mm) (y4 : Option Val), forL g1_matched l1_matched (cs.map fun c => .d (.int c)) [x0, x1, some (.d (.tuple (pairs.map Zm.pairD))), some (.obj M0.length), x4, none] (M0 ++ kvM m :: G) = .nx [x0, x1, some (.d (.tuple (pairs.map Zm.pairD))), some (.obj M0.length), y4, none] (M0 ++ kvM m' :: G')
  | [], m, m', G, x4, _, e => by cases e; exact ⟨G, x4, rfl⟩
  | c :: cs, m, m', G, x4, hm, e => by
    have hl := hU.len
    obtain ⟨⟨k, t⟩, er, g1, _⟩ := plc_ok hU 18 c (m, []) hm (by show U.length - 0 < 18; omega)
    unfold runM at e
    rw [er] at e
    have e : runM pairs 18 cs t.1 = some m' := e
    have ht : MI pairs U (t.1, []) := ⟨g1.kn, g1.ku, .nil, fun _ h => by cases h⟩
    obtain ⟨G', y4, q⟩ := matched_run hU cs t.1 m' (G ++ [kbM t.2]) (some (.d (.int c))) ht e
    refine ⟨G', y4, ?_⟩
    have g0 : ∀ M : Mm, g1_matched (.d (.int c)) [x0, x1, some (.d (.tuple (pairs.map Zm.pairD))), some (.obj M0.length), x4, none] M = some ([x0, x1, some (.d (.tuple (pairs.map Zm.pairD))), some (.obj M0.length), some (.d (.int c)), none], M) := fun M => rfl
    have e0 : ∀ (m : List (Int × Int)) (s : List Int), WW kbM (M0 ++ kvM [] :: (G ++ [kbM []])) M0.length (M0.length + 1 + G.length) m s = M0 ++ kvM m :: (G ++ [kbM s]) := fun m s => by
      unfold WW
      rw [List.set_append_right _ _ (Nat.le_refl _), Nat.sub_self, List.set_cons_zero, List.set_append_right _ _ (by omega), show M0.length + 1 + G.length - M0.length = G.length + 1 by omega, List.set_cons_succ, List.set_append_right _ _ (Nat.le_refl _), Nat.sub_self]
      rfl
    have call := placed_den (M0 := M0 ++ kvM [] :: (G ++ [kbM []])) (i := M0.length) (j := M0.length + 1 + G.length) (by simp) (by simp; omega) (by omega) hU 18 c m [] k t hm (by show U.length - 0 < 18; omega) er
    rw [e0, e0] at call
    have step : l1_matched [x0, x1, some (.d (.tuple (pairs.map Zm.pairD))), some (.obj M0.length), some (.d (.int c)), none] (M0 ++ kvM m :: G) = .nx [x0, x1, some (.d (.tuple (pairs.map Zm.pairD))), some (.obj M0.length), some (.d (.int c)), none] (M0 ++ kvM t.1 :: (G ++ [kbM t.2])) := by
      have rd3 : rd (.obj M0.length) (M0 ++ kvM m :: G) = .obj M0.length := by
        show (match (M0 ++ kvM m :: G)[M0.length]? with | some (.frz x) => Val.d x | _ => .obj M0.length) = _
        rw [List.getElem?_append_right (Nat.le_refl _), Nat.sub_self]
        rfl
      have new : ∀ s : Sl, mDctN s (M0 ++ kvM m :: G) = .ok (.obj (M0.length + 1 + G.length)) (M0 ++ kvM m :: (G ++ [kbM []])) := fun s => by
        show Out.ok (Val.obj (M0 ++ kvM m :: G).length) ((M0 ++ kvM m :: G) ++ [.dct []]) = _
        rw [List.length_append, List.length_cons, List.append_assoc]
        show Out.ok (Val.obj (M0.length + (G.length + 1))) _ = _
        rw [show M0.length + (G.length + 1) = M0.length + 1 + G.length by omega]
        rfl
      unfold l1_matched
      simp only [z_bok, z_bsok, z_bbad, z_bsbad, z_seqbad, z_outbad, z_asgbad, small_fmod, small_lit, fits_le, smallR_lit, z_na64, z_bif, z_bsif, z_noer, z_seqn, z_seqr, z_seqif, z_outr, z_outn, z_outif, z_C, z_op, z_T, z_tand, z_tor, z_tnot, z_and, z_or, z_not, z_if, z_nil, z_cons, z_tup, z_lst, z_new, z_allD0, z_allD1, z_map, z_sNil, z_sSeq, z_sIf, z_sDrop, z_sRet, z_sAsg, z_asg, z_asgif, z_sPar, z_gN, z_gT, z_gsNil, z_gsCons, z_obind, z_gSet, z_B, z_It, z_Enum, z_R1, z_R2, z_r1, z_r2, z_Comp, z_For, z_Yes, z_M, z_Sl, z_oN, z_oS, z_Rev, z_Neg, z_IsI, z_call, z_callK, z_chain, z_body, z_rdd, z_rds, z_int, z_vI, z_vB, z_le, z_eqi, z_nei, z_nes, z_eqs, z_vInt, z_vI2, z_isN, z_notN, z_enumt, z_enuml, z_itl, z_itt, z_its, z_ixt0, z_ixt1, z_ixt2, z_lenl, z_lent, z_tyt, z_tyl, z_tyd, z_tyi, z_tyb, z_tys, z_tyn, isT_tt, isT_lt, isT_dt, isT_it, isT_bt, isT_st, isT_nt, isT_ti, isT_li, isT_di, isT_ii, isT_bi, isT_si, isT_ni, isT_tb, isT_lb, isT_db, isT_ib, isT_bb, isT_sb, isT_nb, isT_ts, isT_ls, isT_ds, isT_is, isT_bs, isT_ss, isT_ns, z_forn, z_mulx, z_lr1, z_lr1N, okR_le, dk_get, dk_set, dk_add, dk_ll, z_rdo, z_tyo, z_app, z_ext, z_star, z_lr2, z_listN, z_sqt, z_sql, z_leno, z_frz, fzL_d, z_lens, z_sls, z_sll, z_addl, z_addt, z_na10, z_dct0, z_disp, z_disp1, z_slt, z_revt, dk_rd2, dk_ty2, dk_mem1, dk_len0, z_tupl, z_tupt, z_listt, z_listl, z_in2, slots0, mVar, wipeS, pickBy, dk_rd0, dk_rd1, dk_ix0, dk_ix1, dk_ix2, dk_ne, dk_setn, dk_ty0, dk_ty1, Option.some.injEq, List.map_cons, List.map_nil, List.length_cons, List.length_nil, List.replicate_succ, List.replicate_zero, List.cons_append, List.nil_append, List.append_nil, List.getElem?_cons_zero, List.getElem?_cons_succ, List.set_cons_zero, List.set_cons_succ, List.zip_cons_cons, List.zip_nil_left, List.foldl_cons, List.foldl_nil, List.filterMap_cons, List.filterMap_nil, Nat.reduceSub, Nat.reduceAdd, Nat.reduceLT, Nat.reduceLeDiff, Nat.zero_add, Nat.add_zero, Nat.reduceEqDiff, decide_eq_true_eq, Bool.not_eq_true, Bool.not_true, Bool.not_false, Bool.not_not, ite_true, ite_false, if_true, if_false, reduceIte, Bool.false_eq_true, and_self, and_true, true_and, Int.reduceNeg, Int.reduceLT, Int.reduceLE, Int.reduceSub, Int.reduceAdd, Int.reduceMul, Int.reducePow, Int.reduceEq, Int.reduceNe, decide_true, decide_false, decide_not, Bool.and_true, Bool.true_and, Bool.or_true, Bool.true_or, ne_eq, not_true_eq_false, not_false_eq_true, Bool.and_self, false_and, and_false, reduceCtorEq, eq_self, beq_self_eq_true, List.set_nil, List.getElem?_nil, List.length_append, List.length_map, Bool.false_and, Bool.and_false, Bool.false_or, Bool.or_false, Int.cast_ofNat_Int, Int.reduceToNat, Int.zero_add, Int.add_zero, rd3, new, call]
    rw [List.map_cons, z_forc (g0 _), step]
    exact q
open Classical in
noncomputable def p_matched (cutters backs : List Int) (pairs : List (Int × Int)) : Option (List (Int × Int)) := if ∃ U, UB pairs U then (runM pairs 18 cutters []).map fun m => sortP (m.map fun p => (p.2, p.1)) else none
theorem fp_matched : FnP d_matched (fun a : List Int × List Int × List (Int × Int) × Unit => p_matched a.1 a.2.1 a.2.2.1) (fun a => [eT PyData.int a.1, eT PyData.int a.2.1, eT (eP2 PyData.int PyData.int) a.2.2.1]) (eT (eP2 PyData.int PyData.int)) := by
  rintro ⟨cs, bs, pairs, ⟨⟩⟩ r M h hM
  have h : p_matched cs bs pairs = some r := h
  unfold p_matched at h
  by_cases hu : ∃ U, UB pairs U
  case neg => rw [if_neg hu] at h; cases h
  rw [if_pos hu] at h
  obtain ⟨U, hU⟩ := hu
  cases e : runM pairs 18 cs [] with
  | none => rw [e] at h; cases h
  | some m =>
    rw [e] at h
    cases h
    obtain ⟨G', y4, q⟩ := matched_run hU (M0 := M) (x0 := some (.d (.tuple (cs.map .int)))) (x1 := some (.d (.tuple (bs.map .int)))) cs [] m [] none MI.nil e
    show trim (body 6 b_matched) [.d (.tuple (cs.map .int)), .d (.tuple (bs.map .int)), .d (.tuple (pairs.map Zm.pairD))] M = _
    refine z_trimc (M1 := M) (R := kvM m :: G') ?_ rfl hM
    rw [z_body]
    unfold b_matched
    have st1 : (sAsg mDctN (gN 3)) (slots0 6 [.d (.tuple (cs.map .int)), .d (.tuple (bs.map .int)), .d (.tuple (pairs.map Zm.pairD))]) M = .nx [some (.d (.tuple (cs.map .int))), some (.d (.tuple (bs.map .int))), some (.d (.tuple (pairs.map Zm.pairD))), some (.obj M.length), none, none] (M ++ [kvM []]) := rfl
    have st2 : (sFor (mIt (mVar 0)) g1_matched l1_matched) [some (.d (.tuple (cs.map .int))), some (.d (.tuple (bs.map .int))), some (.d (.tuple (pairs.map Zm.pairD))), some (.obj M.length), none, none] (M ++ [kvM []]) = .nx [some (.d (.tuple (cs.map .int))), some (.d (.tuple (bs.map .int))), some (.d (.tuple (pairs.map Zm.pairD))), some (.obj M.length), y4, none] (M ++ kvM m :: G') := by
      have it : ∀ s : Sl, mIt (mVar 0) (some (.d (.tuple (cs.map .int))) :: s) (M ++ [kvM []]) = .ok (cs.map fun c => .d (.int c)) (M ++ [kvM []]) := fun s => by
        show Out.ok ((cs.map PyData.int).map Val.d) _ = _
        rw [List.map_map]
        rfl
      rw [z_For, it]
      exact q
    have gm : (M ++ kvM m :: G')[M.length]? = some (kvM m) := by
      rw [List.getElem?_append_right (Nat.le_refl _), Nat.sub_self]
      rfl
    have ml : m.length ≤ 16 := MI.ml hU (runM_MI hU cs [] m MI.nil e)
    have its := itsV_kv m
    have comp : mCompI 3 g0_matched mYes e0_matched [5, 4] [some (.d (.tuple (cs.map .int))), some (.d (.tuple (bs.map .int))), some (.d (.tuple (pairs.map Zm.pairD))), some (.obj M.length), y4, none] (M ++ kvM m :: G') = .ok (.d (.list (m.map fun p => .tuple [.int p.2, .int p.1]))) (M ++ kvM m :: G') := by
      unfold mCompI
      dsimp only [List.getElem?_cons_succ, List.getElem?_cons_zero]
      rw [gm]
      unfold kvM
      dsimp only
      rw [its]
      dsimp only
      have c := compL_map (g := g0_matched) (t := mYes) (e := e0_matched) (s0 := wipeS (datS [some (.d (.tuple (cs.map .int))), some (.d (.tuple (bs.map .int))), some (.d (.tuple (pairs.map Zm.pairD))), some (.obj M.length), y4, none]) [5, 4]) (M := []) (fun p : Int × Int => .tuple [.int p.1, .int p.2]) (fun _ => true) (fun p => PyData.tuple [.int p.2, .int p.1]) m (fun p _ => ⟨_, rfl, rfl, fun _ => rfl⟩)
      rw [List.filter_eq_self.mpr (fun _ _ => rfl)] at c
      rw [c]
      show (match lcK ((m.map fun p => PyData.tuple [.int p.2, .int p.1]).map .d) [] with | .ok (.d x) [] => Out.ok (Val.d x) (M ++ MO.dct _ :: G') | _ => .bad) = _
      rw [z_lcK (by rw [List.length_map]; omega)]
    have st3 : (sRet (mB vTuple (mCons (mB vSortX (mCons (mCompI 3 g0_matched mYes e0_matched [5, 4]) mNil)) mNil))) [some (.d (.tuple (cs.map .int))), some (.d (.tuple (bs.map .int))), some (.d (.tuple (pairs.map Zm.pairD))), some (.obj M.length), y4, none] (M ++ kvM m :: G') = .rt (.d (eT (eP2 PyData.int PyData.int) (sortP (m.map fun p => (p.2, p.1))))) (M ++ kvM m :: G') := by
      have srt : vSortX [.d (.list (m.map fun p => .tuple [.int p.2, .int p.1]))] (M ++ kvM m :: G') = .ok (.d (.list ((sortP (m.map fun p => (p.2, p.1))).map (eP2 PyData.int PyData.int)))) (M ++ kvM m :: G') := by
        have e1 : (m.map fun p => PyData.tuple [.int p.2, .int p.1]) = (m.map fun p => (p.2, p.1)).map (eP2 PyData.int PyData.int) := by rw [List.map_map]; rfl
        rw [e1]
        exact cz_sortP (m.map fun p => (p.2, p.1)) _ _ (.inl rfl)
      rw [z_sRet, z_B, z_cons, z_B, z_cons, comp]
      simp only [z_bok, z_nil]
      rw [srt]
      rfl
    rw [seq_step st1, seq_step st2, st3]
    rfl

noncomputable def p_least_cover (cutters : (List Int)) (backs : (List Int)) (pairs : (List (Int × Int))) : Option ((List Int) × (List Int)) :=
  bd (bd (lf (p_matched cutters backs pairs)) fun x1 => lf (p_reached cutters pairs x1)) fun a2 => bd (bd (lf (lim ((List.filter (fun (y4 : Int) => (!mem y4 a2.1)) cutters).map (fun (y4 : Int) => y4)))) fun x5 => pu (x5)) fun pieces_3 => bd (bd (lf (lim ((List.filter (fun (y6 : Int) => (mem y6 a2.2)) backs).map (fun (y6 : Int) => y6)))) fun x7 => pu (x7)) fun x8 => pu ((pieces_3, x8))
theorem q_least_cover (𝔅 : Bas) (cutters : (List Int)) (backs : (List Int)) (pairs : (List (Int × Int))) : JS (μ := Option) 𝔅 [.v ((eT PyData.int) cutters), .v ((eT PyData.int) backs), .v ((eT (eP2 PyData.int PyData.int)) pairs), .n, .n, .n, .n, .n] [] b_least_cover (p_least_cover cutters backs pairs) (Kr _ (eP2 (eT PyData.int) (eT PyData.int))) := by
  unfold p_least_cover b_least_cover
  exact (js_seq (js_asgT (x := (eP2 (eL PyData.int) (eL PyData.int))) (JX.ca (f' := bd (lf (p_matched cutters backs pairs)) fun x1 => lf (p_reached cutters pairs x1)) (jx_call (fun a => a) fp_reached (ja_cons (jx_var (i := 0) (x := (eT PyData.int)) cutters rfl) (ja_cons (jx_var (i := 2) (x := (eT (eP2 PyData.int PyData.int))) pairs rfl) (ja_cons (jx_call (fun a => a) fp_matched (ja_cons (jx_var (i := 0) (x := (eT PyData.int)) cutters rfl) (ja_cons (jx_var (i := 1) (x := (eT PyData.int)) backs rfl) (ja_cons (jx_var (i := 2) (x := (eT (eP2 PyData.int PyData.int))) pairs rfl) ja_nil)))) ja_nil))))) (fun a2 => (jg_tup (n := 2) (jgs_cons jg_name (jgs_cons jg_name jgs_nil)))) xo_ne) (fun a2 => (js_seq (js_asg (i := 5) (sp := fun q => .v ((eT PyData.int) q)) (JX.ca (f' := bd (lf (lim ((List.filter (fun (y4 : Int) => (!mem y4 a2.1)) cutters).map (fun (y4 : Int) => y4)))) fun x5 => pu (x5)) (jx_read (y := (eT PyData.int)) (fun a => a) (JX.ro (JX.ca (jx_comp (enc := PyData.int) (y := PyData.int) (ft := fun (y4 : Int) => pu (!mem y4 a2.1)) (fe := fun (y4 : Int) => pu y4) (ji_tup (enc := PyData.int) (jx_var (i := 0) (x := (eT PyData.int)) cutters rfl)) (fun y4 => jg_name) (fun y4 => (JT.ca (f' := pu (!mem y4 a2.1)) (jt_of (jx_op (xc := PyData.bool) (fun (p : Int) (q : (List Int)) => !mem p q) (JX.ro (jx_var (i := 6) (x := PyData.int) y4 rfl)) (JX.ro (jx_var (i := 3) (x := (eL PyData.int)) a2.1 rfl)) (fun p q => o2_ni eqe_I (by decide) p q))))) (fun y4 => (JX.ca (f' := pu y4) (jx_var (i := 6) (x := PyData.int) y4 rfl)))) (comp_pu (fun (y4 : Int) => (!mem y4 a2.1)) (fun (y4 : Int) => y4)))) (fun a v M r => cz_tupL a v M r))) xo_ne) (fun pieces_3 => (JS.ret (js_ret (y := (eP2 (eT PyData.int) (eT PyData.int))) (JX.ca (f' := bd (bd (lf (lim ((List.filter (fun (y6 : Int) => (mem y6 a2.2)) backs).map (fun (y6 : Int) => y6)))) fun x7 => pu (x7)) fun x8 => pu ((pieces_3, x8))) (JX.map (sp' := fun q => .v ((eP2 (eT PyData.int) (eT PyData.int)) q)) (jx_tup (xs := fun a : (List Int) × (List Int) × Unit => [(eT PyData.int) a.1, (eT PyData.int) a.2.1]) (ja_cons (jx_var (i := 5) (x := (eT PyData.int)) pieces_3 rfl) (ja_cons (jx_read (y := (eT PyData.int)) (fun a => a) (JX.ro (JX.ca (jx_comp (enc := PyData.int) (y := PyData.int) (ft := fun (y6 : Int) => pu (mem y6 a2.2)) (fe := fun (y6 : Int) => pu y6) (ji_tup (enc := PyData.int) (jx_var (i := 1) (x := (eT PyData.int)) backs rfl)) (fun y6 => jg_name) (fun y6 => (JT.ca (f' := pu (mem y6 a2.2)) (jt_of (jx_op (xc := PyData.bool) (fun (p : Int) (q : (List Int)) => mem p q) (JX.ro (jx_var (i := 7) (x := PyData.int) y6 rfl)) (JX.ro (jx_var (i := 4) (x := (eL PyData.int)) a2.2 rfl)) (fun p q => o2_in eqe_I (by decide) p q))))) (fun y6 => (JX.ca (f' := pu y6) (jx_var (i := 7) (x := PyData.int) y6 rfl)))) (comp_pu (fun (y6 : Int) => (mem y6 a2.2)) (fun (y6 : Int) => y6)))) (fun a v M r => cz_tupL a v M r)) ja_nil))) (fun a : (List Int) × (List Int) × Unit => (a.1, a.2.1)) (fun _ => rfl))) xo_ne))))))
theorem fp_least_cover : FnP d_least_cover (fun a : (List Int) × (List Int) × (List (Int × Int)) × Unit => p_least_cover a.1 a.2.1 a.2.2.1) (fun a => [(eT PyData.int) a.1, (eT PyData.int) a.2.1, (eT (eP2 PyData.int PyData.int)) a.2.2.1]) (eP2 (eT PyData.int) (eT PyData.int)) :=
  fnP_of (fun a => [.v ((eT PyData.int) a.1), .v ((eT PyData.int) a.2.1), .v ((eT (eP2 PyData.int PyData.int)) a.2.2.1), .n, .n, .n, .n, .n]) (fun a M hM => q_least_cover _ a.1 a.2.1 a.2.2.1)
noncomputable def p0_law (turn : Int) : Dn (Tn Unit Bool) :=
  bd (p_lgraph ) fun a1 => bd (bd (lf (reprO ((eL (eT eD)) ([((List.map PyData.int) a1.1), ((List.map PyData.int) a1.2.1), ((List.map (eP2 PyData.int PyData.int)) a1.2.2)])))) fun x3 => bd (lf (p_lgreatest a1.2.2)) fun x4 => pu (x3, x4, ())) fun a2 => bd (lf (p_least_cover a1.1 a1.2.1 a1.2.2)) fun told_5 => bd (bd (pu (decide (turn = (2 : Int)))) fun k7 => if k7 = true then bd (lf (p_least_cover a1.1 a1.2.1 a1.2.2)) fun told_6 => pu told_6 else pu told_5) fun s8 => bd (bd (bd (lf (p_lis_cover ((eP2 (eT PyData.int) (eT PyData.int)) s8) a1.1 a1.2.1 a1.2.2)) fun k9 => pu (!k9)) fun k10 => if k10 = true then pu true else pu (!decide (((((s8.1).length : Int)) + (((s8.2).length : Int))) = a2.2.1))) fun k19 => if k19 = true then bd (pu false) fun r => pu (Tn.rt r) else bd (if (decide (((a1.1.length : Int)) < (6 : Int))) = true then bd (lf (p_lleast a1.1 a1.2.2)) fun x11 => pu (!decide (x11 = a2.2.1)) else pu false) fun k18 => if k18 = true then bd (pu false) fun r => pu (Tn.rt r) else bd (bd (bd (bd (lf (p_least_cover a1.1 a1.2.1 a1.2.2)) fun x12 => lf (reprO ((eP2 (eT PyData.int) (eT PyData.int)) x12))) fun x13 => bd (lf (reprO ((eP2 (eT PyData.int) (eT PyData.int)) s8))) fun x14 => pu (!decide (x13 = x14))) fun k16 => if k16 = true then pu true else bd (lf (reprO ((eL (eT eD)) ([((List.map PyData.int) a1.1), ((List.map PyData.int) a1.2.1), ((List.map (eP2 PyData.int PyData.int)) a1.2.2)])))) fun x15 => pu (!decide (x15 = a2.1))) fun k17 => if k17 = true then bd (pu false) fun r => pu (Tn.rt r) else bd (pu ()) fun _ => pu (Tn.go ())
set_option maxHeartbeats 8000000 in
theorem q0_law (R0 : Mm) (h0 : ∀ q, (DkQ.m0 q ++ R0).all (MO.below (DkQ.n + R0.length)) = true) (turn : Int) : JS (μ := Dn) (DkQ.B R0 h0) [.s ns, .o 2, .v (PyData.int turn), .n, .n, .n, .n, .n, .n] [] l0_law (p0_law turn) (Ks (DkQ.B R0 h0) (fun (st : Unit) => [.s ns, .o 2, .n, .n, .n, .n, .n, .n, .n]) PyData.bool) := by
  unfold p0_law l0_law
  exact (js_seq (js_asgT (x := (eP3 (eT PyData.int) (eT PyData.int) (eT (eP2 PyData.int PyData.int)))) (JX.ca (f' := p_lgraph ) (jx_callN (fun a : Unit × Unit => a.2) fd_lgraph (ja_cons (jx_obj (j := 2) (i := 1) rfl jq_nf) ja_nil))) (fun a1 => (jg_tup (n := 3) (jgs_cons jg_name (jgs_cons jg_name (jgs_cons jg_name jgs_nil))))) xo_ne) (fun a1 => (js_seq (js_par (α := Str × Int × Unit) (is := [6, 7]) (sps := (fun a => [.v (PyData.str a.1), .v (PyData.int a.2.1)])) (JA.ca (f' := bd (lf (reprO ((eL (eT eD)) ([((List.map PyData.int) a1.1), ((List.map PyData.int) a1.2.1), ((List.map (eP2 PyData.int PyData.int)) a1.2.2)])))) fun x3 => bd (lf (p_lgreatest a1.2.2)) fun x4 => pu (x3, x4, ())) (ja_cons (jx_repr (JX.map (sp' := fun q => .v ((eL (eT eD)) q)) (jx_lst (xs := fun a : (List PyData) × (List PyData) × (List PyData) × Unit => [(eT eD) a.1, (eT eD) a.2.1, (eT eD) a.2.2.1]) (ja_cons (JX.mapV (y := (eT eD)) (jx_var (i := 3) (x := (eT PyData.int)) a1.1 rfl) (List.map PyData.int) (coe_T (fun _ => rfl))) (ja_cons (JX.mapV (y := (eT eD)) (jx_var (i := 4) (x := (eT PyData.int)) a1.2.1 rfl) (List.map PyData.int) (coe_T (fun _ => rfl))) (ja_cons (JX.mapV (y := (eT eD)) (jx_var (i := 5) (x := (eT (eP2 PyData.int PyData.int))) a1.2.2 rfl) (List.map (eP2 PyData.int PyData.int)) (coe_T (fun _ => rfl))) ja_nil)))) (fun a : (List PyData) × (List PyData) × (List PyData) × Unit => [a.1, a.2.1, a.2.2.1]) (fun _ => rfl))) (ja_cons (jx_call (fun a => a) fp_lgreatest (ja_cons (jx_var (i := 5) (x := (eT (eP2 PyData.int PyData.int))) a1.2.2 rfl) ja_nil)) ja_nil))) xo_ne) (fun a2 => (js_seq (js_asg (i := 8) (sp := fun q => .v ((eP2 (eT PyData.int) (eT PyData.int)) q)) (JX.ca (f' := lf (p_least_cover a1.1 a1.2.1 a1.2.2)) (jx_call (fun a => a) fp_least_cover (ja_cons (jx_var (i := 3) (x := (eT PyData.int)) a1.1 rfl) (ja_cons (jx_var (i := 4) (x := (eT PyData.int)) a1.2.1 rfl) (ja_cons (jx_var (i := 5) (x := (eT (eP2 PyData.int PyData.int))) a1.2.2 rfl) ja_nil))))) xo_ne) (fun told_5 => (js_seq (js_if (K := Kn _ (fun (st : (((List Int) × (List Int)))) => [.s ns, .o 2, .v (PyData.int turn), .v ((eT PyData.int) a1.1), .v ((eT PyData.int) a1.2.1), .v ((eT (eP2 PyData.int PyData.int)) a1.2.2), .v (PyData.str a2.1), .v (PyData.int a2.2.1), .v ((eP2 (eT PyData.int) (eT PyData.int)) st)])) (JT.ca (f' := pu (decide (turn = (2 : Int)))) (jt_of (jx_op (xc := PyData.bool) (fun (p : Int) (q : Int) => decide (p = q)) (JX.ro (jx_var (i := 2) (x := PyData.int) turn rfl)) (JX.ro (jx_c (x := PyData.int) (2 : Int))) (fun p q => o2_eqI p q)))) xo_ne (js_then (Γ2 := (fun (st : (((List Int) × (List Int)))) => [.s ns, .o 2, .v (PyData.int turn), .v ((eT PyData.int) a1.1), .v ((eT PyData.int) a1.2.1), .v ((eT (eP2 PyData.int PyData.int)) a1.2.2), .v (PyData.str a2.1), .v (PyData.int a2.2.1), .v ((eP2 (eT PyData.int) (eT PyData.int)) st)])) (fun told_6 => told_6) (js_asg (i := 8) (sp := fun q => .v ((eP2 (eT PyData.int) (eT PyData.int)) q)) (JX.ca (f' := lf (p_least_cover a1.1 a1.2.1 a1.2.2)) (jx_callK (α := Unit) (δ := (List (Int × Int)) × (List Int) × (List Int) × Unit) (x1 := (fun a => [])) (x2 := (fun b => [(eT (eP2 PyData.int PyData.int)) b.1, (eT PyData.int) b.2.1, (eT PyData.int) b.2.2.1])) (fun a b => (b.2.2.1, b.2.1, b.1, ())) fp_least_cover ja_nil (ja_cons (jx_var (i := 5) (x := (eT (eP2 PyData.int PyData.int))) a1.2.2 rfl) (ja_cons (jx_var (i := 4) (x := (eT PyData.int)) a1.2.1 rfl) (ja_cons (jx_var (i := 3) (x := (eT PyData.int)) a1.1 rfl) ja_nil))))) xo_ne) (fun told_6 => wkm [true, true, true, true, true, true, true, true, true] rfl)) (js_nil (Γ1 := (fun (st : (((List Int) × (List Int)))) => [.s ns, .o 2, .v (PyData.int turn), .v ((eT PyData.int) a1.1), .v ((eT PyData.int) a1.2.1), .v ((eT (eP2 PyData.int PyData.int)) a1.2.2), .v (PyData.str a2.1), .v (PyData.int a2.2.1), .v ((eP2 (eT PyData.int) (eT PyData.int)) st)])) told_5 (wkm [true, true, true, true, true, true, true, true, true] rfl))) (fun s8 => (js_ifS (JT.ca (f' := bd (bd (lf (p_lis_cover ((eP2 (eT PyData.int) (eT PyData.int)) s8) a1.1 a1.2.1 a1.2.2)) fun k9 => pu (!k9)) fun k10 => if k10 = true then pu true else pu (!decide (((((s8.1).length : Int)) + (((s8.2).length : Int))) = a2.2.1))) (JT.ca (f' := bd (bd (lf (p_lis_cover ((eP2 (eT PyData.int) (eT PyData.int)) s8) a1.1 a1.2.1 a1.2.2)) fun k9 => pu (!k9)) fun k10 => if k10 = true then pu true else pu (!decide (((((s8.1).length : Int)) + (((s8.2).length : Int))) = a2.2.1))) (jt_or (jt_not (jt_of (jx_call (fun a => a) fp_lis_cover (ja_cons (JX.mapV (y := eD) (jx_var (i := 8) (x := (eP2 (eT PyData.int) (eT PyData.int))) s8 rfl) (eP2 (eT PyData.int) (eT PyData.int)) (fun _ => rfl)) (ja_cons (jx_var (i := 3) (x := (eT PyData.int)) a1.1 rfl) (ja_cons (jx_var (i := 4) (x := (eT PyData.int)) a1.2.1 rfl) (ja_cons (jx_var (i := 5) (x := (eT (eP2 PyData.int PyData.int))) a1.2.2 rfl) ja_nil))))))) (jt_of (jx_op (xc := PyData.bool) (fun (p : Int) (q : Int) => !decide (p = q)) (JX.ro (jx_op (xc := PyData.int) (fun (p : Int) (q : Int) => p + q) (JX.ro (jx_read (y := PyData.int) (fun a : (List Int) => (a.length : Int)) (JX.ro (jx_proj (y := (eT PyData.int)) (ys := fun p : ((List Int) × (List Int)) => [(eT PyData.int) p.1, (eT PyData.int) p.2]) 0 (fun p : ((List Int) × (List Int)) => p.1) (JX.ro (jx_var (i := 8) (x := (eP2 (eT PyData.int) (eT PyData.int))) s8 rfl)) (fun _ => rfl) (fun _ => rfl))) (fun a v M r => cz_lenT a v M r))) (JX.ro (jx_read (y := PyData.int) (fun a : (List Int) => (a.length : Int)) (JX.ro (jx_proj (y := (eT PyData.int)) (ys := fun p : ((List Int) × (List Int)) => [(eT PyData.int) p.1, (eT PyData.int) p.2]) 1 (fun p : ((List Int) × (List Int)) => p.2) (JX.ro (jx_var (i := 8) (x := (eP2 (eT PyData.int) (eT PyData.int))) s8 rfl)) (fun _ => rfl) (fun _ => rfl))) (fun a v M r => cz_lenT a v M r))) (fun p q => o2_add p q))) (JX.ro (jx_var (i := 7) (x := PyData.int) a2.2.1 rfl)) (fun p q => o2_neI p q)))))) xo_ne (JS.turn (js_end (js_retL (y := PyData.bool) (Γσ := (fun (st : Unit) => [.s ns, .o 2, .n, .n, .n, .n, .n, .n, .n])) (JX.ca (f' := pu false) (jx_c (x := PyData.bool) false)) xo_ne) ends_ktt)) (js_nilS (js_ifS (JT.ca (f' := if (decide (((a1.1.length : Int)) < (6 : Int))) = true then bd (lf (p_lleast a1.1 a1.2.2)) fun x11 => pu (!decide (x11 = a2.2.1)) else pu false) (JT.ca (f' := if (decide (((a1.1.length : Int)) < (6 : Int))) = true then bd (lf (p_lleast a1.1 a1.2.2)) fun x11 => pu (!decide (x11 = a2.2.1)) else pu false) (jt_and (jt_of (jx_op (xc := PyData.bool) (fun (p : Int) (q : Int) => decide (p < q)) (JX.ro (jx_read (y := PyData.int) (fun a : (List Int) => (a.length : Int)) (JX.ro (jx_var (i := 3) (x := (eT PyData.int)) a1.1 rfl)) (fun a v M r => cz_lenT a v M r))) (JX.ro (jx_c (x := PyData.int) (6 : Int))) (fun p q => o2_lt p q))) (jt_of (jx_op (xc := PyData.bool) (fun (p : Int) (q : Int) => !decide (p = q)) (JX.ro (jx_call (fun a => a) fp_lleast (ja_cons (jx_var (i := 3) (x := (eT PyData.int)) a1.1 rfl) (ja_cons (jx_var (i := 5) (x := (eT (eP2 PyData.int PyData.int))) a1.2.2 rfl) ja_nil)))) (JX.ro (jx_var (i := 7) (x := PyData.int) a2.2.1 rfl)) (fun p q => o2_neI p q)))))) xo_ne (JS.turn (js_end (js_retL (y := PyData.bool) (Γσ := (fun (st : Unit) => [.s ns, .o 2, .n, .n, .n, .n, .n, .n, .n])) (JX.ca (f' := pu false) (jx_c (x := PyData.bool) false)) xo_ne) ends_ktt)) (js_nilS (js_if (JT.ca (f' := bd (bd (bd (lf (p_least_cover a1.1 a1.2.1 a1.2.2)) fun x12 => lf (reprO ((eP2 (eT PyData.int) (eT PyData.int)) x12))) fun x13 => bd (lf (reprO ((eP2 (eT PyData.int) (eT PyData.int)) s8))) fun x14 => pu (!decide (x13 = x14))) fun k16 => if k16 = true then pu true else bd (lf (reprO ((eL (eT eD)) ([((List.map PyData.int) a1.1), ((List.map PyData.int) a1.2.1), ((List.map (eP2 PyData.int PyData.int)) a1.2.2)])))) fun x15 => pu (!decide (x15 = a2.1))) (JT.ca (f' := bd (bd (bd (lf (p_least_cover a1.1 a1.2.1 a1.2.2)) fun x12 => lf (reprO ((eP2 (eT PyData.int) (eT PyData.int)) x12))) fun x13 => bd (lf (reprO ((eP2 (eT PyData.int) (eT PyData.int)) s8))) fun x14 => pu (!decide (x13 = x14))) fun k16 => if k16 = true then pu true else bd (lf (reprO ((eL (eT eD)) ([((List.map PyData.int) a1.1), ((List.map PyData.int) a1.2.1), ((List.map (eP2 PyData.int PyData.int)) a1.2.2)])))) fun x15 => pu (!decide (x15 = a2.1))) (jt_or (jt_of (jx_op (xc := PyData.bool) (fun (p : Str) (q : Str) => !decide (p = q)) (JX.ro (jx_repr (jx_call (fun a => a) fp_least_cover (ja_cons (jx_var (i := 3) (x := (eT PyData.int)) a1.1 rfl) (ja_cons (jx_var (i := 4) (x := (eT PyData.int)) a1.2.1 rfl) (ja_cons (jx_var (i := 5) (x := (eT (eP2 PyData.int PyData.int))) a1.2.2 rfl) ja_nil)))))) (JX.ro (jx_repr (jx_var (i := 8) (x := (eP2 (eT PyData.int) (eT PyData.int))) s8 rfl))) (fun p q => o2_neS p q))) (jt_of (jx_op (xc := PyData.bool) (fun (p : Str) (q : Str) => !decide (p = q)) (JX.ro (jx_repr (JX.map (sp' := fun q => .v ((eL (eT eD)) q)) (jx_lst (xs := fun a : (List PyData) × (List PyData) × (List PyData) × Unit => [(eT eD) a.1, (eT eD) a.2.1, (eT eD) a.2.2.1]) (ja_cons (JX.mapV (y := (eT eD)) (jx_var (i := 3) (x := (eT PyData.int)) a1.1 rfl) (List.map PyData.int) (coe_T (fun _ => rfl))) (ja_cons (JX.mapV (y := (eT eD)) (jx_var (i := 4) (x := (eT PyData.int)) a1.2.1 rfl) (List.map PyData.int) (coe_T (fun _ => rfl))) (ja_cons (JX.mapV (y := (eT eD)) (jx_var (i := 5) (x := (eT (eP2 PyData.int PyData.int))) a1.2.2 rfl) (List.map (eP2 PyData.int PyData.int)) (coe_T (fun _ => rfl))) ja_nil)))) (fun a : (List PyData) × (List PyData) × (List PyData) × Unit => [a.1, a.2.1, a.2.2.1]) (fun _ => rfl)))) (JX.ro (jx_var (i := 6) (x := PyData.str) a2.1 rfl)) (fun p q => o2_neS p q)))))) xo_ne (JS.turn (js_retL (y := PyData.bool) (Γσ := (fun (st : Unit) => [.s ns, .o 2, .n, .n, .n, .n, .n, .n, .n])) (JX.ca (f' := pu false) (jx_c (x := PyData.bool) false)) xo_ne)) (js_go (y := PyData.bool) (Γσ := (fun (st : Unit) => [.s ns, .o 2, .n, .n, .n, .n, .n, .n, .n])) (fun _ => ()) (js_nil (Γ1 := fun _ => [.s ns, .o 2, .v (PyData.int turn), .v ((eT PyData.int) a1.1), .v ((eT PyData.int) a1.2.1), .v ((eT (eP2 PyData.int PyData.int)) a1.2.2), .v (PyData.str a2.1), .v (PyData.int a2.2.1), .v ((eP2 (eT PyData.int) (eT PyData.int)) s8)]) () .refl) (fun _ => wkm [true, true, false, false, false, false, false, false, false] rfl)))))))))))))))
noncomputable def p_law : Dn Bool :=
  bd (bd (lf (ran1 (8 : Int))) fun x22 => forT (fun (st20 : Unit) (y21 : Int) => p0_law y21) x22 ()) (fiE (fun s23 => pu true) fun r24 => pu (r24))

theorem q_law (ns : List Int) (R0 : Mm) (h0 : ∀ q, (DkQ.m0 q ++ R0).all (MO.below (DkQ.n + R0.length)) = true) : JS (μ := Dn) (DkQ.B R0 h0) [.s ns, .o 2, .n, .n, .n, .n, .n, .n, .n] [] r_law p_law (Kr _ PyData.bool) := by
  unfold p_law r_law
  exact (js_seqF id kt_kr (JS.ca (f' := bd (lf (ran1 (8 : Int))) fun x22 => forT (fun (st20 : Unit) (y21 : Int) => p0_law y21) x22 ()) (js_forT (enc := PyData.int) (Γσ := (fun (st20 : Unit) => [.s ns, .o 2, .n, .n, .n, .n, .n, .n, .n])) (y := PyData.bool) (fb := fun (st20 : Unit) (y21 : Int) => p0_law y21) () (JI.ca (f' := lf (ran1 (8 : Int))) (ji_ran1 (jx_c (x := PyData.int) (8 : Int)))) xo_ne (wkm [true, true, false, false, false, false, false, false, false] rfl) (fun st20 y21 => jg_name) (fun st20 y21 => q0_law R0 h0 y21))) (fun s23 => (JS.ret (js_ret (y := PyData.bool) (JX.ca (f' := pu true) (jx_c (x := PyData.bool) true)) xo_ne))))
end Zl
namespace Zl
open PySem PySem.Spec PyProof.Rows L2 Zm
open WM (pu bd)
open LO (lf)
/-! ### what is come to, least covers -/
theorem matched_mx {pairs : List (Int × Int)} {cs bs : List Int} (hU : UB pairs bs) (nc : cs.Nodup) : ∃ kept, p_matched cs bs pairs = some kept ∧ Mx pairs (· ∈ cs) kept ∧ kept.length ≤ 16 := by
  obtain ⟨m, e, hm⟩ := run_ok hU nc
  refine ⟨sortP (m.map fun p => (p.2, p.1)), ?_, hm.mx (sortP_perm _), ?_⟩
  · unfold p_matched
    rw [if_pos ⟨_, hU⟩, e]
    rfl
  · have l1 := hm.mx (sortP_perm _)
    have := nd_len (ys := bs) l1.m.n2 fun x hx => by
      obtain ⟨p, hp, rfl⟩ := List.mem_map.mp hx
      exact hU.sub p (l1.m.sub p hp)
    rw [List.length_map] at this
    have := hU.len
    omega
section
variable {pairs kept : List (Int × Int)} {cs bs : List Int}
theorem par_get (hk : Mx pairs (· ∈ cs) kept) {c b : Int} (h : (c, b) ∈ kept) : dget (kept.map fun p => (p.2, p.1)) b = some c := by
  cases e : dget (kept.map fun p => (p.2, p.1)) b with
  | none =>
    have := dget_none.mp e
    exact absurd (List.mem_map.mpr ⟨(b, c), List.mem_map.mpr ⟨(c, b), h, rfl⟩, rfl⟩) this
  | some x =>
    have := dget_mem e
    obtain ⟨p, hp, e2⟩ := List.mem_map.mp this
    have h1 : p.2 = b := congrArg Prod.fst e2
    have h2 : p.1 = x := congrArg Prod.snd e2
    have := nd_snd hk.m.n2 hp h h1
    rw [← h2, this]
/-- what holds at a turn -/
structure RJ (pairs kept : List (Int × Int)) (cs bs : List Int) (w f k : List Int) : Prop where
  ri : RI pairs kept (· ∈ cs) cs w f k
  cl : ∀ c ∈ f, ∀ b, (c, b) ∈ pairs → b ∈ k
  su : ∀ b ∈ k, b ∈ bs
  ln : w.length + f.length ≤ 16 + k.length
theorem reached_ok (hU : UB pairs bs) (np : pairs.Nodup) (hlp : pairs.length ≤ 1000) (nc : cs.Nodup) (hcl : cs.length ≤ 16) (hk : Mx pairs (· ∈ cs) kept) (hkl : kept.length ≤ 16) : ∃ f k, p_reached cs pairs kept = some (f, k) ∧ RI pairs kept (· ∈ cs) cs [] f k ∧ ∀ c ∈ f, ∀ b, (c, b) ∈ pairs → b ∈ k := by
  have hul := hU.len
  have hd : dOfP (kept.map fun p => (p.2, p.1)) = kept.map fun p => (p.2, p.1) := dOfP_nd (by rw [List.map_map]; exact hk.m.n2)
  have l1 : lim (List.map (fun (y2 : Int × Int) => (y2.2, y2.1)) kept) = some _ := lim_ok (by rw [List.length_map]; omega)
  have l2 : lim (List.map (fun (y5 : Int × Int) => y5.1) kept) = some _ := lim_ok (by rw [List.length_map]; omega)
  have l3 : lim ((List.filter (fun (y6 : Int) => !mem y6 (kept.map fun y5 => y5.1)) cs).map fun (y6 : Int) => y6) = some _ := lim_ok (by rw [List.length_map]; exact Nat.le_trans (List.length_filter_le _ _) (by omega))
  have start : RJ pairs kept cs bs ((List.filter (fun (y6 : Int) => !mem y6 (kept.map fun y5 => y5.1)) cs).map fun (y6 : Int) => y6) [] [] := by
    have hw : ∀ c, c ∈ ((List.filter (fun (y6 : Int) => !mem y6 (kept.map fun y5 => y5.1)) cs).map fun (y6 : Int) => y6) ↔ c ∈ cs ∧ ∀ p ∈ kept, p.1 ≠ c := fun c => by
      rw [List.map_id', List.mem_filter]
      have : (!mem c (kept.map fun y5 => y5.1)) = true ↔ ∀ p ∈ kept, p.1 ≠ c := by
        unfold mem
        rw [Bool.not_eq_true', decide_eq_false_iff_not, List.mem_map]
        exact ⟨fun h p hp e => h ⟨p, hp, e⟩, fun h ⟨p, hp, e⟩ => h p hp e⟩
      rw [this]
    refine ⟨⟨fun c hc => ?_, fun b hb => (by cases hb), fun c hc h => .inl ((hw c).mpr ⟨hc, h⟩), .nil⟩, fun c hc => (by cases hc), fun b hb => (by cases hb), ?_⟩
    · rcases hc with hc | hc
      · obtain ⟨h1, h2⟩ := (hw c).mp hc
        exact ⟨h1, kept, hk.m, rfl, h2, fun _ _ => Iff.rfl⟩
      · cases hc
    · rw [List.length_map]
      have := List.length_filter_le (fun (y6 : Int) => !mem y6 (kept.map fun y5 => y5.1)) cs
      simp only [List.length_nil]
      omega
  obtain ⟨a, ea, hw⟩ := wh_J (ρ := List Int × List Int) (c := fun (st20 : (List Int) × (List Int) × (List Int)) => c0_reachedP pairs (kept.map fun p => (p.2, p.1)) st20.1 st20.2.1 st20.2.2) (b := fun (st20 : (List Int) × (List Int) × (List Int)) => p0_reached pairs (kept.map fun p => (p.2, p.1)) st20.1 st20.2.1 st20.2.2)
    (fun s => RJ pairs kept cs bs s.1 s.2.1 s.2.2) (fun s => s.1.length + 2 * (bs.length - s.2.2.length)) (fun t => ∃ f k, t = .dn ([], f, k) ∧ RJ pairs kept cs bs [] f k) (by
    rintro ⟨w, f, k⟩ h
    have h : RJ pairs kept cs bs w f k := h
    by_cases hw : w = []
    · subst hw
      exact .inl ⟨rfl, f, k, rfl, h⟩
    · refine .inr ⟨by show some (!decide (w = [])) = some true; rw [decide_eq_false hw]; rfl, ?_⟩
      obtain ⟨ws, here, rfl⟩ : ∃ ws here, w = ws ++ [here] := ⟨w.dropLast, w.getLast hw, (List.dropLast_concat_getLast hw).symm⟩
      have hkn := nd_len h.ri.nd h.su
      have hln := h.ln
      rw [List.length_append, List.length_singleton] at hln
      have pop : popL (ws ++ [here]) = some (here, ws) := by
        unfold popL
        simp
      generalize hxs : (List.filter (fun (y11 : Int × Int) => ((decide (y11.1 = here)) && (!mem y11.2 k))) pairs).map (fun (y11 : Int × Int) => y11.2) = xs
      have hxm : ∀ b, b ∈ xs ↔ (here, b) ∈ pairs ∧ b ∉ k := fun b => by
        rw [← hxs, List.mem_map]
        constructor
        · rintro ⟨p, hp, rfl⟩
          obtain ⟨p1, p2⟩ := List.mem_filter.mp hp
          rw [Bool.and_eq_true, decide_eq_true_eq] at p2
          refine ⟨by rw [← p2.1]; exact p1, fun z => ?_⟩
          have := p2.2
          rw [mem_iff.mpr z] at this
          cases this
        · rintro ⟨h1, h2⟩
          refine ⟨(here, b), List.mem_filter.mpr ⟨h1, ?_⟩, rfl⟩
          unfold mem
          rw [decide_eq_false h2]
          simp
      have hxn : xs.Nodup := by
        rw [← hxs]
        have nf : (List.filter (fun (y11 : Int × Int) => ((decide (y11.1 = here)) && (!mem y11.2 k))) pairs).Nodup := np.filter _
        refine List.pairwise_map.mpr (nf.imp_of_mem fun {p q} hp hq hne e => hne ?_)
        have p1 := (Bool.and_eq_true _ _ ▸ (List.mem_filter.mp hp).2).1
        have q1 := (Bool.and_eq_true _ _ ▸ (List.mem_filter.mp hq).2).1
        exact Prod.ext ((of_decide_eq_true p1).trans (of_decide_eq_true q1).symm) e
      have hxl : xs.length ≤ 1000 := by
        rw [← hxs, List.length_map]
        exact Nat.le_trans (List.length_filter_le _ _) hlp
      obtain ⟨s', es, hs⟩ := ev_forI (b := fun (st16 : (List Int) × (List Int)) (y17 : Int) => p1_reached pairs (kept.map fun p => (p.2, p.1)) st16.1 (f ++ [here]) st16.2 y17)
        (fun pre s => RI pairs kept (· ∈ cs) cs s.1 (f ++ [here]) s.2 ∧ s.2 = k ++ pre ∧ (∀ b ∈ s.2, b ∈ bs) ∧ s.1.length = ws.length + pre.length) xs (ws, k)
        ⟨⟨fun c hc => h.ri.rch c (by
          rcases hc with hc | hc
          · exact .inl (List.mem_append_left _ hc)
          · rcases List.mem_append.mp hc with hc | hc
            · exact .inr hc
            · exact .inl (List.mem_append_right _ hc)), fun b hb => (by
          obtain ⟨c, h1, h2⟩ := h.ri.par b hb
          refine ⟨c, h1, ?_⟩
          rcases h2 with h2 | h2
          · rcases List.mem_append.mp h2 with h2 | h2
            · exact .inl h2
            · exact .inr (List.mem_append_right _ h2)
          · exact .inr (List.mem_append_left _ h2)), fun c hc hn => (by
          rcases h.ri.all c hc hn with h2 | h2
          · rcases List.mem_append.mp h2 with h2 | h2
            · exact .inl h2
            · exact .inr (List.mem_append_right _ h2)
          · exact .inr (List.mem_append_left _ h2)), h.ri.nd⟩, (List.append_nil _).symm, h.su, rfl⟩ (by
        rintro pre x post e ⟨w1, k1⟩ ⟨i1, i2, i3, i4⟩
        have i2 : k1 = k ++ pre := i2
        have i4 : w1.length = ws.length + pre.length := i4
        have hx : x ∈ xs := by rw [e]; exact List.mem_append_right _ (List.mem_cons_self ..)
        obtain ⟨hx1, hx2⟩ := (hxm x).mp hx
        have hxk : x ∉ k1 := by
          rw [i2]
          intro z
          rcases List.mem_append.mp z with z | z
          · exact hx2 z
          · rw [e, List.nodup_append] at hxn
            exact hxn.2.2 x z x (List.mem_cons_self ..) rfl
        have hk1 := nd_len i1.nd i3
        dsimp only at hk1
        have hpl : pre.length ≤ 1000 := by
          have := congrArg List.length e
          rw [List.length_append, List.length_cons] at this
          omega
        obtain ⟨c', hc1, hc2⟩ := rch_step hk (i1.rch here (.inr (List.mem_append_right _ (List.mem_singleton_self _)))) hx1 hxk
        have hk2 : k1.length ≤ 16 := by omega
        refine ⟨(w1 ++ [c'], k1 ++ [x]), ?_, ⟨fun c hc => ?_, fun b hb => ?_, fun c hc hn => ?_, ?_⟩, ?_, fun b hb => ?_, ?_⟩
        · unfold p1_reached
          simp only [ev_lf, ev_bd, ev_pu, psh_ok (show k1.length < 16777216 by omega), par_get hk hc1, Option.isSome_some, if_true, psh_ok (show w1.length < 16777216 by omega)]
        · by_cases z : c ∈ w1 ∨ c ∈ f ++ [here]
          · exact (i1.rch c z).more fun b hb => List.mem_append_left _ hb
          · have : c = c' := by
              rcases hc with hc | hc
              · rcases List.mem_append.mp hc with hc | hc
                · exact absurd (.inl hc) z
                · exact List.mem_singleton.mp hc
              · exact absurd (.inr hc) z
            rw [this]
            exact hc2
        · rcases List.mem_append.mp hb with hb | hb
          · obtain ⟨c, h1, h2⟩ := i1.par b hb
            exact ⟨c, h1, h2.imp (List.mem_append_left _) id⟩
          · rw [List.mem_singleton.mp hb]
            exact ⟨c', hc1, .inl (List.mem_append_right _ (List.mem_singleton_self _))⟩
        · exact (i1.all c hc hn).imp (List.mem_append_left _) id
        · show (k1 ++ [x]).Nodup
          rw [List.nodup_append]
          exact ⟨i1.nd, by simp, fun a ha b hb e => hxk (by rw [List.mem_singleton.mp hb] at e; rw [← e]; exact ha)⟩
        · show k1 ++ [x] = k ++ (pre ++ [x])
          rw [i2, List.append_assoc]
        · rcases List.mem_append.mp hb with hb | hb
          · exact i3 b hb
          · rw [List.mem_singleton.mp hb]
            exact hU.sub _ hx1
        · show (w1 ++ [c']).length = _
          rw [List.length_append, List.length_append, i4]
          simp only [List.length_singleton]
          omega)
      obtain ⟨w2, k2⟩ := s'
      obtain ⟨i1, i2, i3, i4⟩ := hs
      have i2 : k2 = k ++ xs := i2
      have i4 : w2.length = ws.length + xs.length := i4
      have i3 : ∀ b ∈ k2, b ∈ bs := i3
      have hk2 := nd_len i1.nd i3
      dsimp only at hk2
      have hl2 : k2.length = k.length + xs.length := by rw [i2, List.length_append]
      refine ⟨(w2, f ++ [here], k2), ?_, ⟨i1, fun c hc b hb => ?_, i3, ?_⟩, ?_⟩
      · show p0_reached pairs (kept.map fun p => (p.2, p.1)) (ws ++ [here]) f k = _
        have lx : lim ((List.filter (fun (y11 : Int × Int) => ((decide (y11.1 = here)) && (!mem y11.2 k))) pairs).map (fun (y11 : Int × Int) => y11.2)) = some xs := by rw [hxs]; exact lim_ok (by omega)
        unfold p0_reached
        simp only [ev_lf, ev_bd, ev_pu, pop, psh_ok (show f.length < 16777216 by omega), lx, es]
      · show b ∈ k2
        rw [i2]
        rcases List.mem_append.mp hc with hc | hc
        · exact List.mem_append_left _ (h.cl c hc b hb)
        · rw [List.mem_singleton.mp hc] at hb
          by_cases z : b ∈ k
          · exact List.mem_append_left _ z
          · exact List.mem_append_right _ ((hxm b).mpr ⟨hb, z⟩)
      · show w2.length + (f ++ [here]).length ≤ 16 + k2.length
        rw [List.length_append, List.length_singleton]
        omega
      · show w2.length + 2 * (bs.length - k2.length) < (ws ++ [here]).length + 2 * (bs.length - k.length)
        rw [List.length_append, List.length_singleton]
        omega) (((List.filter (fun (y6 : Int) => !mem y6 (kept.map fun y5 => y5.1)) cs).map fun (y6 : Int) => y6), [], []) start
  obtain ⟨f, k, rfl, hj⟩ := hw
  refine ⟨f, k, ?_, hj.ri, hj.cl⟩
  unfold p_reached
  simp only [ev_lf, ev_bd, ev_pu, l1, hd, l2, l3]
  rw [ea]
  rfl
/-- a least cover: a cover, as great as a greatest matching -/
theorem least_cover_ok (hU : UB pairs bs) (np : pairs.Nodup) (hlp : pairs.length ≤ 1000) (nc : cs.Nodup) (nb : bs.Nodup) (hcl : cs.length ≤ 16) (hD : ∀ p ∈ pairs, p.1 ∈ cs ∧ p.2 ∈ bs) :
    ∃ kept A B, p_least_cover cs bs pairs = some (A, B) ∧ Mx pairs (· ∈ cs) kept ∧ p_matched cs bs pairs = some kept ∧ CovP pairs A B ∧ A.length + B.length = kept.length ∧ (∃ p, A = cs.filter p) ∧ ∃ p, B = bs.filter p := by
  obtain ⟨kept, e, hk, hkl⟩ := matched_mx hU nc
  obtain ⟨f, k, e2, hri, hcl2⟩ := reached_ok hU np hlp nc hcl hk hkl
  obtain ⟨hc, hl⟩ := hri.cover hk hcl2 hD nc nb
  have hul := hU.len
  have h1 : (cs.filter fun (y4 : Int) => !mem y4 f) = cs.filter fun c => !decide (c ∈ f) := rfl
  have h2 : (bs.filter fun (y6 : Int) => mem y6 k) = bs.filter fun b => decide (b ∈ k) := rfl
  have l1 : lim (cs.filter fun c => !decide (c ∈ f)) = some _ := lim_ok (by exact Nat.le_trans (List.length_filter_le _ _) (by omega))
  have l2 : lim (bs.filter fun b => decide (b ∈ k)) = some _ := lim_ok (by exact Nat.le_trans (List.length_filter_le _ _) (by omega))
  refine ⟨kept, cs.filter fun c => !decide (c ∈ f), bs.filter fun b => decide (b ∈ k), ?_, hk, e, hc, hl, ⟨_, rfl⟩, ⟨_, rfl⟩⟩
  unfold p_least_cover
  simp only [ev_lf, ev_bd, ev_pu, e, e2, List.map_id', h1, h2, l1, l2]
end
end Zl
namespace Zl
open PySem PySem.Spec PyProof.Rows L2 Zm
open WM (pu bd)
open LO (lf)
/-! ### the law's own search of a greatest matching -/
section
variable {pairs : List (Int × Int)} {U : List Int}
theorem flp_loop {sn : List (Int × Bool)} {h : Int} {st0 : List (Int × Int)} (m : List (Int × Int)) (hl : m.length ≤ 1000) (st : List (Int × Int)) (hs : st.length ≤ 1000) : forM' (fun (st13 : List (Int × Int)) (y14 : Int × Int) => p3_lgreatest pairs st13 sn h st0 y14.1 y14.2) st m = some (flp m st) := by
  obtain ⟨s', e, rfl, _⟩ := ev_forI (b := fun (st13 : List (Int × Int)) (y14 : Int × Int) => p3_lgreatest pairs st13 sn h st0 y14.1 y14.2) (fun pre s => s = flp m pre ∧ s.length ≤ m.length + pre.length) st m ⟨rfl, Nat.le_refl _⟩ (by
    rintro pre ⟨a, b⟩ post e s ⟨i1, i2⟩
    have hp : pre.length ≤ 1000 := by
      have := congrArg List.length e
      rw [List.length_append, List.length_cons] at this
      omega
    refine ⟨dput s b a, ?_, by rw [flp_app, i1], ?_⟩
    · unfold p3_lgreatest
      simp only [ev_lf, ev_bd, ev_pu, dputO_ok (show s.length < 16777216 by omega)]
    · have := dput_len (kvs := s) (k := b) (v := a)
      rw [List.length_append, List.length_singleton]
      omega)
  exact e
/-- what holds while the pairs are walked for one cutter -/
structure SJ (pairs : List (Int × Int)) (U : List Int) (m : List (Int × Int)) (c h : Int) (st : List (Int × Int)) (n0 r0 : Nat) (pre : List (Int × Int)) (s : List (Int × Int) × List (Int × Bool) × List (Int × List (Int × Int))) : Prop where
  same : s.1 = m
  si : StI pairs U m c (s.2.1.map (·.1)) s.2.2 fun x => (∀ b, (x, b) ∈ pairs → b ∈ s.2.1.map (·.1)) ∨ x = h
  fl : Flp pairs U m (s.2.1.map (·.1)) c h st
  pt : ∀ b, (h, b) ∈ pre → b ∈ s.2.1.map (·.1)
  ln : ∀ r ∈ s.2.2, r.2.length ≤ s.2.1.length
  ls : st.length ≤ s.2.1.length
  ms : s.2.2.length + n0 ≤ r0 + s.2.1.length
  nn : n0 ≤ s.2.1.length
/-- what holds when a cutter got a back -/
def EndP (pairs : List (Int × Int)) (U : List Int) (m : List (Int × Int)) (c : Int) (s : List (Int × Int) × List (Int × Bool) × List (Int × List (Int × Int))) : Prop := s.2.2 = [] ∧ MI pairs U (s.1, []) ∧ PlT pairs c (m, []) (s.1, [])
theorem keys_new {sn : List (Int × Bool)} {b : Int} (h : b ∉ sn.map (·.1)) : dput sn b true = sn ++ [(b, true)] := dput_new fun p hp e => h (List.mem_map.mpr ⟨p, hp, e⟩)
theorem one_pair (hU : UB pairs U) {m : List (Int × Int)} (hm : MI pairs U (m, [])) {c h : Int} {st : List (Int × Int)} {n0 r0 : Nat} (hr0 : r0 ≤ 100) {pre post : List (Int × Int)} {x : Int × Int} (e : pairs = pre ++ x :: post) {s : List (Int × Int) × List (Int × Bool) × List (Int × List (Int × Int))} (i : SJ pairs U m c h st n0 r0 pre s) :
    ∃ t, p2_lgreatest pairs s.1 s.2.1 s.2.2 h st x.1 x.2 = some t ∧ tnP (SJ pairs U m c h st n0 r0 (pre ++ [x])) (fun s' => EndP pairs U m c s' ∧ n0 ≤ s'.2.1.length) (fun _ => False) t := by
  obtain ⟨m1, sn, rw_⟩ := s
  obtain ⟨a, b⟩ := x
  obtain ⟨i1, i2, i3, i4, i5, i6, i7, i8⟩ := i
  dsimp only at i1 i2 i3 i4 i5 i6 i7 i8
  subst i1
  have hx : (a, b) ∈ pairs := by rw [e]; exact List.mem_append_right _ (List.mem_cons_self ..)
  have hul := hU.len
  have hsl := nd_len i2.nd i2.su
  rw [List.length_map] at hsl
  have hml := MI.ml hU hm
  dsimp only at hml
  unfold p2_lgreatest
  simp only [ev_lf, ev_bd, ev_pu]
  by_cases hc : a = h ∧ b ∉ sn.map (·.1)
  · obtain ⟨rfl, hb⟩ := hc
    have g1 : dget sn b = none := dget_none.mpr hb
    simp only [g1, Option.isSome_none, Bool.not_false, decide_true, Bool.and_self, if_true, dputO_ok (show sn.length < 16777216 by omega), ev_bd, cat_ok (show st.length + [(a, b)].length ≤ 16777216 by rw [List.length_singleton]; omega)]
    cases g2 : dget m1 b with
    | none =>
      simp only [Option.isSome_none, Bool.not_false, if_true, flp_loop m1 (by omega) (st ++ [(a, b)]) (by rw [List.length_append, List.length_singleton]; omega), ev_bd]
      refine ⟨_, rfl, ⟨rfl, i3.last hx hb g2⟩, ?_⟩
      show n0 ≤ (dput sn b true).length
      rw [keys_new hb, List.length_append]
      omega
    | some x =>
      have hrl : rw_.length < 16777216 := by omega
      simp only [Option.isSome_some, Bool.not_true, Bool.false_eq_true, if_false, ev_bd, psh_ok hrl]
      refine ⟨_, rfl, ?_⟩
      have hk : (dput sn b true).map (·.1) = sn.map (·.1) ++ [b] := by rw [keys_new hb, List.map_append]; rfl
      have hkl : (dput sn b true).length = sn.length + 1 := by rw [keys_new hb, List.length_append]; rfl
      have up : ∀ y ∈ sn.map (·.1), y ∈ sn.map (·.1) ++ [b] := fun y hy => List.mem_append_left _ hy
      show SJ pairs U m1 c a st n0 r0 (pre ++ [(a, b)]) (m1, dput sn b true, rw_ ++ [(x, st ++ [(a, b)])])
      refine ⟨rfl, ?_, ?_, ?_, ?_, ?_, ?_, ?_⟩
      · dsimp only
        rw [hk]
        refine ⟨fun r hr => ?_, ?_, fun y hy => ?_, fun y hy => ?_, ?_⟩
        · rcases List.mem_append.mp hr with hr | hr
          · exact (i2.row r hr).more up
          · rw [List.mem_singleton.mp hr]
            exact i3.step hx hb g2
        · rw [List.nodup_append]
          exact ⟨i2.nd, by simp, fun y hy z hz e => hb (by rw [List.mem_singleton.mp hz] at e; rw [← e]; exact hy)⟩
        · rcases List.mem_append.mp hy with hy | hy
          · exact i2.su y hy
          · rw [List.mem_singleton.mp hy]; exact hU.sub _ hx
        · rcases List.mem_append.mp hy with hy | hy
          · obtain ⟨z, k1, k2⟩ := i2.cl y hy
            refine ⟨z, k1, ?_⟩
            rcases k2 with (k2 | k2) | ⟨r, hr, k2⟩
            · exact .inl (.inl fun b' hb' => up _ (k2 b' hb'))
            · exact .inl (.inr k2)
            · exact .inr ⟨r, List.mem_append_left _ hr, k2⟩
          · rw [List.mem_singleton.mp hy]
            exact ⟨x, g2, .inr ⟨_, List.mem_append_right _ (List.mem_singleton_self _), rfl⟩⟩
        · rcases i2.st with (k2 | k2) | ⟨r, hr, k2⟩
          · exact .inl (.inl fun b' hb' => up _ (k2 b' hb'))
          · exact .inl (.inr k2)
          · exact .inr ⟨r, List.mem_append_left _ hr, k2⟩
      · dsimp only
        rw [hk]
        exact i3.more up
      · intro b' hb'
        dsimp only
        rw [hk]
        rcases List.mem_append.mp hb' with hb' | hb'
        · exact up _ (i4 b' hb')
        · have := List.mem_singleton.mp hb'
          exact List.mem_append_right _ (List.mem_singleton.mpr (congrArg Prod.snd this))
      · intro r hr
        dsimp only
        rw [hkl]
        rcases List.mem_append.mp hr with hr | hr
        · have := i5 r hr; omega
        · rw [List.mem_singleton.mp hr]
          show (st ++ [(a, b)]).length ≤ _
          rw [List.length_append, List.length_singleton]
          omega
      · dsimp only
        omega
      · dsimp only
        rw [hkl, List.length_append, List.length_singleton]
        omega
      · dsimp only
        omega
  · have hf : ((decide (a = h)) && !(dget sn b).isSome) = false := by
      by_cases z : a = h
      · have : b ∈ sn.map (·.1) := by
          by_cases q : b ∈ sn.map (·.1)
          · exact q
          · exact absurd ⟨z, q⟩ hc
        cases g : dget sn b with
        | none => exact absurd this (dget_none.mp g)
        | some v => simp
      · simp [z]
    simp only [hf, Bool.false_eq_true, if_false]
    refine ⟨_, rfl, rfl, i2, i3, fun b' hb' => ?_, i5, i6, i7, i8⟩
    rcases List.mem_append.mp hb' with hb' | hb'
    · exact i4 b' hb'
    · have e1 := List.mem_singleton.mp hb'
      have h1 : h = a := congrArg Prod.fst e1
      have h2 : b' = b := congrArg Prod.snd e1
      by_cases q : b ∈ sn.map (·.1)
      · rw [h2]; exact q
      · exact absurd ⟨h1.symm, q⟩ hc
/-- one cutter is served -/
theorem one_cutter (hU : UB pairs U) (hlp : pairs.length ≤ 1000) {D : Int → Prop} {m : List (Int × Int)} (h : MtM pairs D m) {c : Int} (hc : ¬ D c) : ∃ m', p0_lgreatest pairs m c = some (.go m') ∧ MtM pairs (fun x => D x ∨ x = c) m' := by
  have hm : MI pairs U (m, []) := ⟨h.kn, h.ku, .nil, fun _ h => by cases h⟩
  have hul := hU.len
  obtain ⟨a, ea, hw⟩ := wh_J (ρ := Int) (c := fun (st28 : List (Int × Int) × List (Int × Bool) × List (Int × List (Int × Int))) => c1_lgreatestP pairs st28.1 st28.2.1 st28.2.2) (b := fun (st28 : List (Int × Int) × List (Int × Bool) × List (Int × List (Int × Int))) => p1_lgreatest pairs st28.1 st28.2.1 st28.2.2)
    (fun s => (s.1 = m ∧ StI pairs U m c (s.2.1.map (·.1)) s.2.2 (fun x => ∀ b, (x, b) ∈ pairs → b ∈ s.2.1.map (·.1)) ∧ (∀ r ∈ s.2.2, r.2.length ≤ s.2.1.length) ∧ s.2.2.length ≤ 1 + s.2.1.length) ∨ EndP pairs U m c s)
    (fun s => s.2.2.length + 2 * (U.length - s.2.1.length)) (fun t => ∃ m' s, t = .dn (m', s, []) ∧ MtM pairs (fun x => D x ∨ x = c) m') (by
    rintro ⟨m1, sn, rows⟩ hj
    by_cases hr : rows = []
    · subst hr
      refine .inl ⟨rfl, m1, sn, rfl, ?_⟩
      rcases hj with ⟨j1, j2, _⟩ | ⟨_, j2, j3⟩
      · have j1 : m1 = m := j1
        subst j1
        have j2 : StI pairs U m1 c (sn.map (·.1)) [] (fun x => ∀ b, (x, b) ∈ pairs → b ∈ sn.map (·.1)) := j2
        exact mt_of (k := false) (t := (m1, sn.map (·.1))) h hc ⟨h.kn, h.ku, j2.nd, j2.su⟩ (fun z => by cases z) fun _ => j2.plf
      · exact mt_of (k := true) (t := (m1, [])) h hc j2 (fun _ => j3) fun z => by cases z
    · refine .inr ⟨by show some (!decide (rows = [])) = some true; rw [decide_eq_false hr]; rfl, ?_⟩
      rcases hj with ⟨j1, j2, j3, j4⟩ | ⟨j1, _⟩
      case inr => exact absurd j1 hr
      have j1 : m1 = m := j1
      subst j1
      obtain ⟨rs, ⟨hh, st⟩, rfl⟩ : ∃ rs r, rows = rs ++ [r] := ⟨rows.dropLast, rows.getLast hr, (List.dropLast_concat_getLast hr).symm⟩
      have j2 : StI pairs U m1 c (sn.map (·.1)) (rs ++ [(hh, st)]) (fun x => ∀ b, (x, b) ∈ pairs → b ∈ sn.map (·.1)) := j2
      have j3 : ∀ r ∈ rs ++ [(hh, st)], r.2.length ≤ sn.length := j3
      have j4 : (rs ++ [(hh, st)]).length ≤ 1 + sn.length := j4
      rw [List.length_append, List.length_singleton] at j4
      have pop : popL (rs ++ [(hh, st)]) = some ((hh, st), rs) := by
        unfold popL
        simp
      have hsl := nd_len j2.nd j2.su
      rw [List.length_map] at hsl
      obtain ⟨s', e', hs'⟩ := ev_forTJ (ρ := Int) (f := fun (st24 : List (Int × Int) × List (Int × Bool) × List (Int × List (Int × Int))) (y25 : Int × Int) => p2_lgreatest pairs st24.1 st24.2.1 st24.2.2 hh st y25.1 y25.2)
        (fun pre s => SJ pairs U m1 c hh st sn.length rs.length pre s) (fun s => EndP pairs U m1 c s ∧ sn.length ≤ s.2.1.length) pairs (m1, sn, rs) ⟨rfl, ⟨fun r hr => j2.row r (List.mem_append_left _ hr), j2.nd, j2.su, fun b hb => by
          obtain ⟨x, k1, k2⟩ := j2.cl b hb
          refine ⟨x, k1, ?_⟩
          rcases k2 with k2 | ⟨r, hr, k2⟩
          · exact .inl (.inl k2)
          · rcases List.mem_append.mp hr with hr | hr
            · exact .inr ⟨r, hr, k2⟩
            · rw [List.mem_singleton.mp hr] at k2
              exact .inl (.inr k2.symm), by
          rcases j2.st with k2 | ⟨r, hr, k2⟩
          · exact .inl (.inl k2)
          · rcases List.mem_append.mp hr with hr | hr
            · exact .inr ⟨r, hr, k2⟩
            · rw [List.mem_singleton.mp hr] at k2
              exact .inl (.inr k2.symm)⟩, j2.row (hh, st) (List.mem_append_right _ (List.mem_singleton_self _)), fun b hb => (by cases hb), fun r hr => j3 r (List.mem_append_left _ hr), j3 (hh, st) (List.mem_append_right _ (List.mem_singleton_self _)), Nat.le_refl _, Nat.le_refl _⟩ (by
        intro pre x post e s i
        exact one_pair hU hm (by omega) e i)
      obtain ⟨m2, sn2, rows2⟩ := s'
      refine ⟨(m2, sn2, rows2), ?_, ?_, ?_⟩
      · show p1_lgreatest pairs m1 sn (rs ++ [(hh, st)]) = _
        unfold p1_lgreatest
        simp only [ev_lf, ev_bd, ev_pu, pop, e', fiE]
      · rcases hs' with i | i
        · refine .inl ⟨i.same, ⟨i.si.row, i.si.nd, i.si.su, fun b hb => ?_, ?_⟩, i.ln, ?_⟩
          · obtain ⟨x, k1, k2⟩ := i.si.cl b hb
            refine ⟨x, k1, ?_⟩
            rcases k2 with (k2 | k2) | k2
            · exact .inl k2
            · exact .inl (by rw [k2]; exact i.pt)
            · exact .inr k2
          · rcases i.si.st with (k2 | k2) | k2
            · exact .inl k2
            · exact .inl (by rw [k2]; exact i.pt)
            · exact .inr k2
          · have := i.ms
            dsimp only at this
            show rows2.length ≤ 1 + sn2.length
            omega
        · exact .inr i.1
      · show rows2.length + 2 * (U.length - sn2.length) < (rs ++ [(hh, st)]).length + 2 * (U.length - sn.length)
        rw [List.length_append, List.length_singleton]
        rcases hs' with i | i
        · have h1 := i.ms
          have h2 := i.nn
          have h3 := nd_len i.si.nd i.si.su
          rw [List.length_map] at h3
          dsimp only at h1 h2 h3
          omega
        · have h1 : rows2 = [] := i.1.1
          have h2 : sn.length ≤ sn2.length := i.2
          rw [h1]
          simp only [List.length_nil]
          omega) (m, [], [(c, [])]) (.inl ⟨rfl, ⟨fun r hr => by rw [List.mem_singleton.mp hr]; exact Flp.nil hm, .nil, fun b hb => (by cases hb), fun b hb => (by cases hb), .inr ⟨_, List.mem_singleton_self _, rfl⟩⟩, fun r hr => by rw [List.mem_singleton.mp hr]; exact Nat.le_refl _, Nat.le_refl _⟩)
  obtain ⟨m', s, rfl, hm'⟩ := hw
  refine ⟨m', ?_, hm'⟩
  unfold p0_lgreatest
  have e0 : (toP2 toI (toLd (toP2 toI toI))) ((eP2 PyData.int (eL eD)) ((c, ([] : (List PyData))))) = some (c, ([] : List (Int × Int))) := rfl
  simp only [ev_lf, ev_bd, ev_pu, e0]
  rw [ea]
  rfl
/-- the law's own greatest matching -/
theorem lgreatest_ok (hU : UB pairs U) (hlp : pairs.length ≤ 1000) : ∃ m, p_lgreatest pairs = some (m.length : Int) ∧ ∃ D : Int → Prop, MtM pairs D m ∧ ∀ p ∈ pairs, D p.1 := by
  obtain ⟨k1, k2⟩ := dOfP_keys (pairs.map fun (y1 : Int × Int) => (y1.1, true))
  generalize hks : sortI ((dOfP (pairs.map fun (y1 : Int × Int) => (y1.1, true))).map fun p : Int × Bool => p.1) = ks
  have nk : ks.Nodup := by rw [← hks]; exact (sortI_perm _).nodup_iff.mpr k1
  have mk : ∀ p ∈ pairs, p.1 ∈ ks := fun p hp => by
    rw [← hks]
    refine (sortI_perm _).mem_iff.mpr ((k2 p.1).mpr ?_)
    rw [List.map_map]
    exact List.mem_map.mpr ⟨p, hp, rfl⟩
  obtain ⟨s', e, hs⟩ := ev_forTJ (ρ := Int) (f := fun (st31 : List (Int × Int)) (y32 : Int) => p0_lgreatest pairs st31 y32) (fun pre s => MtM pairs (fun x => x ∈ pre) s) (fun _ => False) ks [] ⟨.nil, fun _ h => (by cases h), fun _ => Nat.zero_le _, fun _ h => (by cases h), fun N hN => by
    cases N with
    | nil => exact Nat.le_refl _
    | cons p N => exact absurd (hN.dom p (List.mem_cons_self ..)) (fun z => by cases z)⟩ (by
    intro pre x post e s hs
    have hx : x ∉ pre := fun z => by
      rw [e, List.nodup_append] at nk
      exact nk.2.2 x z x (List.mem_cons_self ..) rfl
    obtain ⟨m', e1, h1⟩ := one_cutter hU hlp hs hx
    refine ⟨_, e1, ?_⟩
    have hh : ∀ y, (y ∈ pre ∨ y = x) ↔ y ∈ pre ++ [x] := fun y => by rw [List.mem_append, List.mem_singleton]
    exact ⟨h1.kn, h1.ku, h1.one, fun p hp => (hh _).mp (h1.dom p hp), fun N hN => h1.max N ⟨hN.sub, fun p hp => (hh _).mpr (hN.dom p hp), hN.n1, hN.n2⟩⟩)
  rcases hs with hs | hs
  case inr => exact hs.elim
  refine ⟨s', ?_, _, hs, mk⟩
  have l1 : lim (pairs.map fun (y1 : Int × Int) => (y1.1, true)) = some _ := lim_ok (by rw [List.length_map]; omega)
  unfold p_lgreatest
  simp only [ev_lf, ev_bd, ev_pu, l1, hks, e, fiE]
end
end Zl
namespace Zl
open PySem PySem.Spec PyProof.Rows L2 Zm
open WM (pu bd)
open LO (lf)
/-! ### judging a cover -/
theorem inO_IT (g : Int) (xs : List Int) : inO true (.int g) (xs.map .int) = some (!decide (g ∈ xs)) := by
  have := inO_E eqe_I (by decide) true g xs
  rw [this]
  unfold mem
  cases decide (g ∈ xs) <;> rfl
theorem ixD_row (A : List Int) {i : Nat} {a : Int} (h : A[i]? = some a) : ixD (.tuple (A.map .int)) (i : Int) = some (.int a) := by
  rw [ixD_tup, List.getElem?_map, h]
  rfl
theorem lis_row_ok {A menu : List Int} (ha : A.Pairwise (· < ·)) (hs : ∀ x ∈ A, x ∈ menu) : p_lis_row (.tuple (A.map .int)) menu = some true := by
  obtain ⟨s', e, _⟩ := ev_forTJ (ρ := Bool) (f := fun (st6 : Unit) (y7 : Int × PyData) => p0_lis_row (.tuple (A.map .int)) menu y7.1 y7.2) (fun _ _ => True) (fun _ => True) (enu (A.map .int)) () trivial (by
    rintro pre ⟨n', v⟩ post eq _ _
    have hm : (n', v) ∈ enu (A.map PyData.int) := by rw [eq]; exact List.mem_append_right _ (List.mem_cons_self ..)
    obtain ⟨n, rfl, hn⟩ := mem_enu.mp hm
    rw [List.getElem?_map] at hn
    cases hA : A[n]? with
    | none => rw [hA] at hn; cases hn
    | some a =>
      rw [hA] at hn
      cases hn
      have hl := (List.getElem?_eq_some_iff.mp hA).1
      refine ⟨.go (), ?_, trivial⟩
      unfold p0_lis_row
      have i1 : isD "int" (eD (PyData.int a)) = true := rfl
      have i2 : isD "bool" (eD (PyData.int a)) = false := rfl
      have i3 : inO true (eD (PyData.int a)) (menu.map PyData.int) = some false := by
        rw [show eD (PyData.int a) = PyData.int a from rfl, inO_IT, decide_eq_true (hs a (List.mem_of_getElem? hA))]
        rfl
      simp only [i1, i2, i3, ev_lf, ev_bd, ev_pu, Bool.not_true, Bool.false_eq_true, if_false]
      cases n with
      | zero => rfl
      | succ n =>
        have h0 : A[n]? = some A[n] := List.getElem?_eq_getElem (by omega)
        have hlt : A[n] < a := by
          obtain ⟨_, q⟩ := List.getElem?_eq_some_iff.mp hA
          rw [← q]
          exact List.pairwise_iff_getElem.mp ha n (n + 1) (by omega) hl (by omega)
        have hx : ((n + 1 : Nat) : Int) - 1 = (n : Int) := by omega
        rw [hx, ixD_row A h0]
        have c1 : decide ((0 : Int) < ((n + 1 : Nat) : Int)) = true := decide_eq_true (by omega)
        have c2 : decide (a ≤ A[n]) = false := decide_eq_false (by omega)
        simp only [c1, if_true, ev_bd, show toI (.int A[n]) = some A[n] from rfl, show toI (.int a) = some a from rfl, c2, Bool.false_eq_true, if_false])
  unfold p_lis_row
  have i1 : isD "tuple" (eD (.tuple (A.map .int))) = true := rfl
  have i2 : seqO (.tuple (A.map PyData.int)) = some (A.map .int) := rfl
  simp only [i1, i2, ev_lf, ev_bd, ev_pu, Bool.not_true, Bool.false_eq_true, if_false, e, fiE]
theorem lis_cover_ok {A B cs bs : List Int} {pairs : List (Int × Int)} (hp : pairs.length ≤ 1000) (ha : A.Pairwise (· < ·)) (hA : ∀ x ∈ A, x ∈ cs) (hb : B.Pairwise (· < ·)) (hB : ∀ x ∈ B, x ∈ bs) (hc : CovP pairs A B) : p_lis_cover (eP2 (eT PyData.int) (eT PyData.int) (A, B)) cs bs pairs = some true := by
  unfold p_lis_cover
  have i1 : isD "tuple" (eD (eP2 (eT PyData.int) (eT PyData.int) (A, B))) = true := rfl
  have i2 : lenD (eP2 (eT PyData.int) (eT PyData.int) (A, B)) = some 2 := rfl
  have i3 : ixD (eP2 (eT PyData.int) (eT PyData.int) (A, B)) 0 = some (.tuple (A.map .int)) := ixD_tup (i := 0)
  have i4 : ixD (eP2 (eT PyData.int) (eT PyData.int) (A, B)) 1 = some (.tuple (B.map .int)) := ixD_tup (i := 1)
  have o1 : ∀ g : Int, inOD true (.int g) (.tuple (A.map .int)) = some (!decide (g ∈ A)) := fun g => inO_IT g A
  have o2 : ∀ g : Int, inOD true (.int g) (.tuple (B.map .int)) = some (!decide (g ∈ B)) := fun g => inO_IT g B
  simp only [i1, i2, i3, i4, ev_lf, ev_bd, ev_pu, Bool.not_true, Bool.false_eq_true, if_false, decide_true, lis_row_ok ha hA, lis_row_ok hb hB, o1, o2]
  have c := ev_cmp (t := fun (y7 : Int × Int) => if (!decide (y7.1 ∈ A)) = true then some (!decide (y7.2 ∈ B)) else some false) (e := fun (y7 : Int × Int) => some (1 : Int)) (fun y => !decide (y.1 ∈ A) && !decide (y.2 ∈ B)) (fun _ => 1) pairs (fun y _ => by cases decide (y.1 ∈ A) <;> rfl) fun _ _ _ => rfl
  have f0 : (pairs.filter fun y => !decide (y.1 ∈ A) && !decide (y.2 ∈ B)) = [] := List.filter_eq_nil_iff.mpr fun y hy => by
    rcases hc y hy with z | z
    · simp [z]
    · simp [z]
  rw [c, f0]
  rfl
/-! ### the fewest, by all ways to take some cutters -/
theorem lleast_ok {cs A B : List Int} {pairs N : List (Int × Int)} {D : Int → Prop} (hc6 : cs.length < 6) (hp : pairs.length ≤ 1000) (hN : Mtc pairs D N) (hc : CovP pairs A B) (hl : A.length + B.length = N.length) {p : Int → Bool} (hA : A = cs.filter p) : p_lleast cs pairs = some (N.length : Int) := by
  have e0 : (toLd (toTd toI)) ((eL (eT eD)) ([[]])) = some [[]] := rfl
  obtain ⟨rows, e1, r1, r2, r3⟩ := ev_forI (b := fun (st7 : List (List Int)) (y8 : Int) => p0_lleast pairs (pairs.length : Int) st7 y8) (fun pre s => (∀ q : Int → Bool, pre.filter q ∈ s) ∧ s.length = 2 ^ pre.length ∧ ∀ r ∈ s, r.length ≤ pre.length) cs [[]] ⟨fun _ => List.mem_singleton_self _, rfl, fun r hr => by rw [List.mem_singleton.mp hr]; exact Nat.le_refl _⟩ (by
    rintro pre x post e s ⟨i1, i2, i3⟩
    have hpl : pre.length ≤ 5 := by
      have := congrArg List.length e
      rw [List.length_append, List.length_cons] at this
      omega
    have h32 : s.length ≤ 32 := by rw [i2]; exact Nat.pow_le_pow_right (by decide) hpl
    have c := ev_cmp (t := fun (y4 : List Int) => some true) (e := fun (y4 : List Int) => catO y4 [x]) (fun _ => true) (fun y4 => y4 ++ [x]) s (fun _ _ => rfl) fun y hy _ => cat_ok (by have := i3 y hy; rw [List.length_singleton]; omega)
    rw [List.filter_eq_self.mpr (fun _ _ => rfl)] at c
    refine ⟨s ++ s.map fun y4 => y4 ++ [x], ?_, fun q => ?_, ?_, fun r hr => ?_⟩
    · unfold p0_lleast
      simp only [ev_lf, ev_pu]
      rw [c]
      simp only [ev_bd, lim_ok (show (s.map fun y4 => y4 ++ [x]).length ≤ 16777216 by rw [List.length_map]; omega), cat_ok (show s.length + (s.map fun y4 => y4 ++ [x]).length ≤ 16777216 by rw [List.length_map]; omega)]
    · rw [List.filter_append]
      cases hq : q x with
      | true =>
        rw [List.filter_cons, if_pos hq]
        exact List.mem_append_right _ (List.mem_map.mpr ⟨_, i1 q, rfl⟩)
      | false =>
        rw [List.filter_cons, if_neg (by rw [hq]; exact Bool.false_ne_true), List.filter_nil, List.append_nil]
        exact List.mem_append_left _ (i1 q)
    · rw [List.length_append, List.length_map, i2, List.length_append, List.length_singleton, Nat.pow_succ]
      omega
    · rw [List.length_append, List.length_singleton]
      rcases List.mem_append.mp hr with hr | hr
      · have := i3 r hr; omega
      · obtain ⟨y, hy, rfl⟩ := List.mem_map.mp hr
        have := i3 y hy
        rw [List.length_append, List.length_singleton]
        omega)
  have val : ∀ row : List Int, ∃ v : Int, (∀ f : Int, p1_lleast pairs f row = some (if v < f then v else f)) ∧ (N.length : Int) ≤ v ∧ ((∀ q ∈ pairs, q.1 ∈ row ∨ q.2 ∈ B) → v ≤ (row.length : Int) + B.length) := fun row => by
    obtain ⟨k1, k2⟩ := dOfP_keys ((pairs.filter fun (y11 : Int × Int) => !mem y11.1 row).map fun (y11 : Int × Int) => (y11.2, true))
    have l1 : lim ((pairs.filter fun (y11 : Int × Int) => !mem y11.1 row).map fun (y11 : Int × Int) => (y11.2, true)) = some _ := lim_ok (by rw [List.length_map]; exact Nat.le_trans (List.length_filter_le _ _) (by omega))
    generalize hr : dOfP ((pairs.filter fun (y11 : Int × Int) => !mem y11.1 row).map fun (y11 : Int × Int) => (y11.2, true)) = rest' at k1 k2
    have km : ∀ b, b ∈ rest'.map (·.1) ↔ ∃ q ∈ pairs, q.1 ∉ row ∧ q.2 = b := fun b => by
      rw [k2, List.map_map, List.mem_map]
      constructor
      · rintro ⟨q, hq, e⟩
        obtain ⟨q1, q2⟩ := List.mem_filter.mp hq
        refine ⟨q, q1, fun z => ?_, e⟩
        rw [mem_iff.mpr z] at q2
        cases q2
      · rintro ⟨q, q1, q2, e⟩
        refine ⟨q, List.mem_filter.mpr ⟨q1, ?_⟩, e⟩
        unfold mem
        rw [decide_eq_false q2]
        rfl
    refine ⟨(row.length : Int) + (rest'.length : Int), fun f => ?_, ?_, fun h => ?_⟩
    · unfold p1_lleast
      simp only [ev_lf, ev_bd, ev_pu, l1, hr]
    · have := cov_ge hN (A := row) (B := rest'.map (·.1)) fun q hq => by
        by_cases z : q.1 ∈ row
        · exact .inl z
        · exact .inr ((km _).mpr ⟨q, hq, z, rfl⟩)
      rw [List.length_map] at this
      omega
    · have := nd_len (ys := B) k1 fun b hb => by
        obtain ⟨q, hq, z, e⟩ := (km b).mp hb
        rcases h q hq with w | w
        · exact absurd w z
        · rw [← e]; exact w
      rw [List.length_map] at this
      omega
  obtain ⟨v, e2, f1, f2⟩ := ev_forI (b := fun (st14 : Int) (y15 : List Int) => p1_lleast pairs st14 y15) (fun pre s => (N.length : Int) ≤ s ∧ (A ∈ pre → s ≤ (N.length : Int))) rows (pairs.length : Int) ⟨by
    have := nd_len (xs := N) (ys := pairs) ((List.pairwise_map.mp hN.n1).imp fun {a b} h e => h (congrArg Prod.fst e)) fun q hq => hN.sub q hq
    omega, fun z => by cases z⟩ (by
    rintro pre row post e s ⟨i1, i2⟩
    obtain ⟨v, v1, v2, v3⟩ := val row
    refine ⟨_, v1 s, ?_, fun hA' => ?_⟩
    · split <;> omega
    · rcases List.mem_append.mp hA' with z | z
      · have := i2 z
        split <;> omega
      · have := v3 (by rw [← List.mem_singleton.mp z]; exact hc)
        rw [← List.mem_singleton.mp z] at this
        split <;> omega)
  have fin : v = (N.length : Int) := by
    have := f2 (by rw [hA]; exact r1 p)
    omega
  unfold p_lleast
  simp only [ev_lf, ev_bd, ev_pu, e0, e1, e2, fin]
/-! ### drawn cutters, backs and pairs -/
structure GrG (g : List Int × List Int × List (Int × Int)) : Prop where
  ca : g.1.Pairwise (· < ·)
  ba : g.2.1.Pairwise (· < ·)
  cl : g.1.length ≤ 16
  bl : g.2.1.length ≤ 16
  cb : ∀ x ∈ g.1, x.natAbs < 256
  bb : ∀ x ∈ g.2.1, x.natAbs < 256
  pd : ∀ p ∈ g.2.2, p.1 ∈ g.1 ∧ p.2 ∈ g.2.1
  pn : g.2.2.Nodup
  pl : g.2.2.length ≤ 256
theorem lgraph_ok {b : Nat} {Q : _ → Nat → Prop} (hb : 1000 ≤ b) (h : ∀ g b', GrG g → b ≤ b' + 1000 → Q g b') : p_lgraph b Q := by
  unfold p_lgraph
  simp only [dn_bd, dn_pu]
  refine dn_draw (by decide) (by decide) (by omega) fun left l1 l2 b1 hb1 => dn_pick (by simp) (by simp) (by omega) fun odds ho b2 hb2 => dn_draw (by decide) (by decide) (by omega) fun r r1 r2 b3 hb3 => ?_
  have ho : 1 ≤ odds ∧ odds ≤ 8 := by
    simp only [List.mem_cons, List.not_mem_nil, or_false] at ho
    omega
  rw [rg1_ok (by decide) (by decide), dn_lfs]
  have hl16 : (ran 0 16).length = 16 := len_ran
  refine dn_mix (lay_intL _) (by rw [hl16]; decide) (by rw [hl16]; omega) fun ys hy b4 hb4 => ?_
  rw [hl16] at hb4
  have hyn : ys.Nodup := hy.nodup_iff.mpr (nodup_ran 0 16)
  have hyl : ys.length = 16 := hy.length_eq.trans hl16
  have hyb : ∀ x ∈ ys, x.natAbs < 256 := fun x hx => by have := mem_ran.mp (hy.mem_iff.mp hx); omega
  have part : ∀ lo hi, (sortI (cutL ys lo hi)).Pairwise (· < ·) ∧ (sortI (cutL ys lo hi)).length ≤ 16 ∧ ∀ x ∈ sortI (cutL ys lo hi), x.natAbs < 256 := fun lo hi =>
    ⟨sortI_asc (hyn.sublist (cutL_sub _ _ _)), by rw [(sortI_perm _).length_eq]; have := cutL_len ys lo hi; omega, fun x hx => hyb x ((cutL_sub _ _ _).mem ((sortI_perm _).mem_iff.mp hx))⟩
  obtain ⟨c1, c2, c3⟩ := part none (some left)
  obtain ⟨k1, k2, k3⟩ := part (some left) (some (left + if (16 : Int) - left < r then (16 : Int) - left else r))
  generalize sortI (cutL ys none (some left)) = cs at c1 c2 c3
  generalize sortI (cutL ys (some left) (some (left + if (16 : Int) - left < r then (16 : Int) - left else r))) = bs at k1 k2 k3
  have cn : cs.Nodup := c1.imp fun {a b} h z => by omega
  have bn : bs.Nodup := k1.imp fun {a b} h z => by omega
  refine dn_for (fun pre s => (∀ p ∈ s, p.1 ∈ pre.map (·.2) ∧ p.2 ∈ bs) ∧ s.Nodup ∧ s.length ≤ 16 * pre.length) 16 (enu cs) [] b4 (by rw [enu_len]; omega) ⟨fun _ h => (by cases h), .nil, Nat.zero_le _⟩ ?_ ?_
  · rintro pre ⟨spot, one⟩ post e s ⟨i1, i2, i3⟩ b5 hb5 Q' hQ'
    have hone : one ∉ pre.map (·.2) := fun z => by
      have ne : ((enu cs).map (·.2)).Nodup := by rw [show (enu cs).map (·.2) = cs from enu_snd cs]; exact cn
      rw [e, List.map_append, List.nodup_append] at ne
      exact ne.2.2 one z one (by rw [List.map_cons]; exact List.mem_cons_self ..) rfl
    have hpl : pre.length ≤ 16 := by
      have := congrArg List.length e
      rw [enu_len, List.length_append, List.length_cons] at this
      omega
    unfold p0_lgraph
    simp only [dn_bd, dn_pu]
    refine dn_for (fun pr s => (∀ p ∈ s, (p.1 ∈ pre.map (·.2) ∨ p.1 = one ∧ p.2 ∈ pr.map (·.2)) ∧ p.2 ∈ bs) ∧ s.Nodup ∧ s.length ≤ 16 * pre.length + pr.length) 1 (enu bs) s b5 (by rw [enu_len]; omega) ⟨fun p hp => ⟨.inl (i1 p hp).1, (i1 p hp).2⟩, i2, i3⟩ ?_ ?_
    · rintro pr ⟨rank, other⟩ po e2 s2 ⟨j1, j2, j3⟩ b6 hb6 Q2 hQ2
      have hoth : other ∉ pr.map (·.2) := fun z => by
        have ne : ((enu bs).map (·.2)).Nodup := by rw [show (enu bs).map (·.2) = bs from enu_snd bs]; exact bn
        rw [e2, List.map_append, List.nodup_append] at ne
        exact ne.2.2 other z other (by rw [List.map_cons]; exact List.mem_cons_self ..) rfl
      have hob : other ∈ bs := by
        have : (rank, other) ∈ enu bs := by rw [e2]; exact List.mem_append_right _ (List.mem_cons_self ..)
        obtain ⟨i, _, hi⟩ := mem_enu.mp this
        exact List.mem_of_getElem? hi
      have hprl : pr.length ≤ 16 := by
        have := congrArg List.length e2
        rw [enu_len, List.length_append, List.length_cons] at this
        omega
      have same : ∀ b', b6 ≤ b' + 1 → Q2 s2 b' := fun b' hb' => hQ2 s2 b' ⟨fun p hp => ⟨(j1 p hp).1.imp id fun z => ⟨z.1, by rw [List.map_append]; exact List.mem_append_left _ z.2⟩, (j1 p hp).2⟩, j2, by rw [List.length_append, List.length_singleton]; omega⟩ hb'
      have more : ∀ b', b6 ≤ b' + 1 → Q2 (s2 ++ [(one, other)]) b' := fun b' hb' => hQ2 _ b' ⟨fun p hp => by
        rcases List.mem_append.mp hp with hp | hp
        · exact ⟨(j1 p hp).1.imp id fun z => ⟨z.1, by rw [List.map_append]; exact List.mem_append_left _ z.2⟩, (j1 p hp).2⟩
        · rw [List.mem_singleton.mp hp]
          exact ⟨.inr ⟨rfl, by rw [List.map_append]; exact List.mem_append_right _ (List.mem_singleton_self _)⟩, hob⟩, by
        rw [List.nodup_append]
        refine ⟨j2, by simp, fun p hp q hq e => ?_⟩
        rw [List.mem_singleton.mp hq] at e
        rw [e] at hp
        rcases (j1 _ hp).1 with z | z
        · exact hone z
        · exact hoth z.2, by rw [List.length_append, List.length_singleton, List.length_append, List.length_singleton]; omega⟩ hb'
      have push : psh s2 (one, other) = some (s2 ++ [(one, other)]) := psh_ok (by omega)
      unfold p1_lgraph
      simp only [dn_bd, dn_pu]
      have tail : ∀ (k : Bool) b', b6 ≤ b' + 1 → (if k = true then bd (lf (psh s2 (one, other))) fun pairs_11 => pu pairs_11 else bd (pu ()) fun _ => pu s2 : Dn _) b' Q2 := fun k b' hb' => by
        cases k with
        | true =>
          show (lf (psh s2 (one, other)) : Dn _) b' fun a b => Q2 a b
          rw [push, dn_lfs]
          exact more b' hb'
        | false => exact same b' hb'
      generalize (decide (odds = 8) && (decide (rank = spot) || decide (rank = spot + 1))) = k0
      cases k0 with
      | true => exact tail true b6 (by omega)
      | false =>
        simp only [Bool.false_eq_true, if_false]
        by_cases hlt : odds < 8
        · simp only [hlt, decide_true, if_true]
          refine dn_draw (by omega) (by omega) (by omega) fun x x1 x2 b7 hb7 => ?_
          exact tail _ b7 (by omega)
        · simp only [hlt, decide_false, Bool.false_eq_true, if_false]
          exact tail false b6 (by omega)
    · rintro s2 b6 ⟨j1, j2, j3⟩ hb6
      rw [enu_len] at j3 hb6
      refine hQ' s2 b6 ⟨fun p hp => ⟨?_, (j1 p hp).2⟩, j2, by rw [List.length_append, List.length_singleton]; omega⟩ (by omega)
      rw [List.map_append]
      rcases (j1 p hp).1 with z | z
      · exact List.mem_append_left _ z
      · rw [z.1]; exact List.mem_append_right _ (List.mem_singleton_self _)
  · rintro s b5 ⟨i1, i2, i3⟩ hb5
    rw [enu_len] at i3 hb5
    exact h (cs, bs, s) b5 ⟨c1, k1, c2, k2, c3, k3, fun p hp => ⟨by have := (i1 p hp).1; rw [enu_snd] at this; exact this, (i1 p hp).2⟩, i2, by show s.length ≤ 256; omega⟩ (by omega)
theorem filter_row {A cs : List Int} (hc : cs.Pairwise (· < ·)) (h : ∃ p : Int → Bool, A = cs.filter p) : A.Pairwise (· < ·) ∧ (∀ x ∈ A, x ∈ cs) ∧ A.length ≤ cs.length := by
  obtain ⟨p, rfl⟩ := h
  exact ⟨hc.filter _, fun x hx => (List.mem_filter.mp hx).1, List.length_filter_le _ _⟩
theorem law_in (ns : List Int) : p_law 4611686018427387904 fun r _ => r = true := by
  unfold p_law
  simp only [dn_bd, ran1_ok (j := 8) (by decide) (by decide), dn_lfs]
  refine dn_forT (fun _ _ => True) (fun _ => False) (fun _ => False) 1000 _ _ _ (by rw [len_ran]; decide) trivial ?_ fun t b' ht _ => ?_
  · intro _ turn _ _ _ _ b hb Q' hQ'
    unfold p0_law
    simp only [dn_bd, dn_pu]
    refine lgraph_ok hb fun g b1 hg hb1 => ?_
    obtain ⟨cs, bs, pairs⟩ := g
    have cn : cs.Nodup := hg.ca.imp fun {a b} h z => by omega
    have bn : bs.Nodup := hg.ba.imp fun {a b} h z => by omega
    have hU : UB pairs bs := ⟨fun p hp => (hg.pd p hp).2, hg.bl⟩
    have hpl : pairs.length ≤ 256 := hg.pl
    have hcl : cs.length ≤ 16 := hg.cl
    have hbl : bs.length ≤ 16 := hg.bl
    obtain ⟨kept, A, B, e1, hk, _, hc, hAB, fA, fB⟩ := least_cover_ok hU hg.pn (by omega) cn bn hcl hg.pd
    obtain ⟨m, e2, D, hm, hD⟩ := lgreatest_ok hU (by omega)
    obtain ⟨a1, a2, a3⟩ := filter_row hg.ca fA
    obtain ⟨b1', b2', b3'⟩ := filter_row hg.ba fB
    dsimp only at a2 a3 b2' b3'
    have same : m.length = kept.length := by
      have h1 := hm.max kept ⟨hk.m.sub, fun p hp => hD p (hk.m.sub p hp), hk.m.n1, hk.m.n2⟩
      have h2 := hk.max _ ⟨hm.mtc.sub, fun p hp => (hg.pd p (hm.mtc.sub p hp)).1, hm.mtc.n1, hm.mtc.n2⟩
      rw [List.length_map] at h2
      omega
    obtain ⟨p, hp⟩ := fA
    have sI : ∀ xs : List Int, xs.length ≤ 16 → (∀ x ∈ xs, x.natAbs < 256) → Sz 1 (16 * 9) (.tuple (xs.map .int)) := fun xs hl hx => Sz.tup (SzL.ofE (sz_map fun x hx' => Sz.i8 (hx x hx')) (by rw [List.length_map]; exact hl))
    have sP : Sz 2 (256 * 19) (.tuple (pairs.map (eP2 PyData.int PyData.int))) := Sz.tup (SzL.ofE (sz_map fun q hq => (Sz.t2 (k := 0) (k1 := 0) (Sz.i8 (hg.cb _ (hg.pd q hq).1)) (Sz.i8 (hg.bb _ (hg.pd q hq).2))).mono) (by rw [List.length_map]; exact hpl))
    have r1 : reprO (eL (eT eD) [cs.map PyData.int, bs.map PyData.int, pairs.map (eP2 PyData.int PyData.int)]) = some _ := reprO_ok (by
      have : Sz 5 40000 (.list [.tuple (cs.map .int), .tuple (bs.map .int), .tuple (pairs.map (eP2 PyData.int PyData.int))]) := (Sz.lst (SzL.c (sI cs hcl hg.cb) (.c (sI bs hbl hg.bb) (.c sP .n0)))).mono
      have e : (eL (eT eD) [cs.map PyData.int, bs.map PyData.int, pairs.map (eP2 PyData.int PyData.int)]) = .list [.tuple (cs.map .int), .tuple (bs.map .int), .tuple (pairs.map (eP2 PyData.int PyData.int))] := by
        show PyData.list [.tuple ((cs.map PyData.int).map id), .tuple ((bs.map PyData.int).map id), .tuple ((pairs.map (eP2 PyData.int PyData.int)).map id)] = _
        rw [List.map_id, List.map_id, List.map_id]
      rw [e]
      exact this)
    have r2 : reprO (eP2 (eT PyData.int) (eT PyData.int) (A, B)) = some _ := reprO_ok (k := 5) (w := 40000) ((Sz.t2 (sI A (by omega) fun x hx => hg.cb x (a2 x hx)) (sI B (by omega) fun x hx => hg.bb x (b2' x hx))).mono)
    have j1 := lis_cover_ok (cs := cs) (bs := bs) (by omega) a1 a2 b1' b2' hc
    have done := hQ' (.go ()) b1 trivial hb1
    have r1' : reprO (eL (eT eD) [List.map PyData.int (cs, bs, pairs).1, List.map PyData.int (cs, bs, pairs).2.1, List.map (eP2 PyData.int PyData.int) (cs, bs, pairs).2.2]) = some _ := r1
    have sel : ∀ (k : Bool) (b' : Nat) (Q : List Int × List Int → Nat → Prop), (if k = true then bd (lf (some (A, B))) fun told_6 => pu told_6 else pu (A, B) : Dn (List Int × List Int)) b' Q = Q (A, B) b' := fun k b' Q => by
      cases k
      · rfl
      · simp only [if_true, dn_bd, dn_lfs, dn_pu]
    have len : ((A.length : Int) + (B.length : Int)) = (m.length : Int) := by omega
    by_cases h6 : cs.length < 6
    · have e3 := lleast_ok (cs := cs) h6 (by omega) hk.m hc hAB hp
      rw [← same] at e3
      have d6 : decide ((cs.length : Int) < 6) = true := decide_eq_true (by omega)
      simp only [r1', e1, e2, sel, dn_lfs, dn_bd, dn_pu, j1, r2, len, e3, d6, ite_self, decide_true, Bool.not_true, Bool.false_eq_true, if_false, if_true]
      exact done
    · have d6 : decide ((cs.length : Int) < 6) = false := decide_eq_false (by omega)
      simp only [r1', e1, e2, sel, dn_lfs, dn_bd, dn_pu, j1, r2, len, d6, ite_self, decide_true, Bool.not_true, Bool.false_eq_true, if_false, if_true]
      exact done
  · cases t with
    | dn _ => rfl
    | rt r => exact ht.elim
theorem law_true (ns : List Int) (hl : ns.length ≤ 63) : ∃ M', d_law [.scr ns] [] = .ok (.d (.bool true)) M' :=
  law_ofQ rfl (jar_ok hl) _ (fun h0 => q_law ns [] h0) (by decide) (law_in ns)
end Zl
open PySem PySem.W PyProof.Rows
set_option maxRecDepth 100000 in
set_option maxHeartbeats 0 in
theorem PySem.Challenge.cw_whateverothers_k53_whole_least_covers_ju_holds : PySem.Challenge.rw_whateverothers_k53_whole_least_covers_ju.Holds := by
  w_on; o_law; k_head; (case hw => w_witness2)
  k_fill
  refine Zm.walkZ (l := PySem.Challenge.rw_whateverothers_k53_whole_least_covers_ju) (n := 63) (k := 21) (x := "script") (den := Zl.d_law) rfl (by decide) rfl ⟨rfl, by decide, by decide⟩ (by decide +kernel) ?S (fun w h Y => PySem.W.kIn_of Y) ?F (fun ns h => Zl.law_true ns h)
  case S => intro w; first | rfl | decide +kernel | k_is
  case F =>
    intro w mg fa h KX G hmg
    refine' (fun (T : Zl.Txt _ mg) => ?zz) (Zl.Txt.mk (Zm.defAt KX G ?a_placed ?l_placed ?c_placed ?k_placed) (Zm.defAt KX G ?a_matched ?l_matched ?c_matched ?k_matched) (Zm.defAt KX G ?a_reached ?l_reached ?c_reached ?k_reached) (Zm.defAt KX G ?a_least_cover ?l_least_cover ?c_least_cover ?k_least_cover) (Zm.defAt KX G ?a_ljar ?l_ljar ?c_ljar ?k_ljar) (Zm.defAt KX G ?a_ldraw ?l_ldraw ?c_ldraw ?k_ldraw) (Zm.defAt KX G ?a_lpick ?l_lpick ?c_lpick ?k_lpick) (Zm.defAt KX G ?a_lmixed ?l_lmixed ?c_lmixed ?k_lmixed) (Zm.defAt KX G ?a_lgreatest ?l_lgreatest ?c_lgreatest ?k_lgreatest) (Zm.defAt KX G ?a_lis_row ?l_lis_row ?c_lis_row ?k_lis_row) (Zm.defAt KX G ?a_lis_cover ?l_lis_cover ?c_lis_cover ?k_lis_cover) (Zm.defAt KX G ?a_lgraph ?l_lgraph ?c_lgraph ?k_lgraph) (Zm.defAt KX G ?a_lleast ?l_lleast ?c_lleast ?k_lleast) (Zm.defAt KX G ?a_law ?l_law ?c_law ?k_law) (PySem.W.mg_none_of KX G ?z_isinstance) (PySem.W.mg_none_of KX G ?z_len) (PySem.W.mg_none_of KX G ?z_int) (PySem.W.mg_none_of KX G ?z_bool) (PySem.W.mg_none_of KX G ?z_tuple) (PySem.W.mg_none_of KX G ?z_list) (PySem.W.mg_none_of KX G ?z_dict) (PySem.W.mg_none_of KX G ?z_min) (PySem.W.mg_none_of KX G ?z_sorted) (PySem.W.mg_none_of KX G ?z_repr) (PySem.W.mg_none_of KX G ?z_range) (PySem.W.mg_none_of KX G ?z_enumerate))
    (case a_placed => k_is); (case l_placed => k_is); (case c_placed => k_is); (case k_placed => k_is); (case a_matched => k_is); (case l_matched => k_is); (case c_matched => k_is); (case k_matched => k_is); (case a_reached => k_is); (case l_reached => k_is); (case c_reached => k_is); (case k_reached => k_is); (case a_least_cover => k_is); (case l_least_cover => k_is); (case c_least_cover => k_is); (case k_least_cover => k_is); (case a_ljar => k_is); (case l_ljar => k_is); (case c_ljar => k_is); (case k_ljar => k_is); (case a_ldraw => k_is); (case l_ldraw => k_is); (case c_ldraw => k_is); (case k_ldraw => k_is); (case a_lpick => k_is); (case l_lpick => k_is); (case c_lpick => k_is); (case k_lpick => k_is); (case a_lmixed => k_is); (case l_lmixed => k_is); (case c_lmixed => k_is); (case k_lmixed => k_is); (case a_lgreatest => k_is); (case l_lgreatest => k_is); (case c_lgreatest => k_is); (case k_lgreatest => k_is); (case a_lis_row => k_is); (case l_lis_row => k_is); (case c_lis_row => k_is); (case k_lis_row => k_is); (case a_lis_cover => k_is); (case l_lis_cover => k_is); (case c_lis_cover => k_is); (case k_lis_cover => k_is); (case a_lgraph => k_is); (case l_lgraph => k_is); (case c_lgraph => k_is); (case k_lgraph => k_is); (case a_lleast => k_is); (case l_lleast => k_is); (case c_lleast => k_is); (case k_lleast => k_is); (case a_law => k_is); (case l_law => k_is); (case c_law => k_is); (case k_law => k_is); (case z_isinstance => k_is); (case z_len => k_is); (case z_int => k_is); (case z_bool => k_is); (case z_tuple => k_is); (case z_list => k_is); (case z_dict => k_is); (case z_min => k_is); (case z_sorted => k_is); (case z_repr => k_is); (case z_range => k_is); (case z_enumerate => k_is)
    case zz =>
      obtain ⟨fd, hb, hF⟩ := Zm.defZ_law (P := (PySem.Challenge.rw_whateverothers_k53_whole_least_covers_ju).prog) (w := w) hmg Zl.bi_law (fun base => Zl.ok_law (base := base) T) T.f_law
      exact ⟨fd, hb, fun base _ _ => hF base⟩
