import PyProof.Rows.All
import Wide.All
import OpenK.AllK
import Wide.FinOn
import HandS.ForMost
import HandS.ForExc
import HandS.Conv
import HandS.More
import HandS.IsInst
import HandS.TupLe
import HandS.TupAny
import HandS.Deep
import HandS.SortInts
import HandS.SortRule
import KE.GoesMore
import KE.GoesEnum
import HandS.Style
import HandS.TupMul
import HandS.Star
import PySem.Challenge.RW_whateverothers_k05_whole_all_orders_of_p
set_option Elab.async false
set_option linter.all false
set_option maxRecDepth 100000
/-! A layer of by-value readings over HandS: every construct is read as a plain function on data. -/
namespace Zm
open PySem PySem.Spec PyProof.Rows L2

/-- a value: data held by value, or the place of a thing that may still change -/
inductive Val where
  | d (x : PyData)
  | obj (i : Nat)
  /-- the law's own script -/
  | scr (ns : List Int)
/-- what stands at a place -/
inductive MO where
  | frz (x : PyData)
  | lst (vs : List Val)
  | dct (kvs : List (PyData × Val))
  | ins (C : Str) (fs : List (Str × Val))
abbrev Mm := List MO
abbrev Sl := List (Option Val)
structure Exc where
  cls : Str
  fs : Option (List (Str × PyData))
inductive Out (α : Type) where
  | ok (x : α) (M : Mm)
  | er (e : Exc) (M : Mm)
  | bad

def keyD : Key → PyData
  | .inl i => .int i
  | .inr x => .str x

/-- a ghost: where the places stand, and which addresses will never be written again -/
structure Gh where
  φ : List Addr
  F : Addr → Prop

mutual
inductive RV (K : PySem.W.Frag) (F : Addr → Prop) (H : Hp) : V → PyData → Prop
  | non : RV K F H .non .none
  | bl (b : Bool) : RV K F H (.bl b) (.bool b)
  | int (i : Int) : RV K F H (.int i) (.int i)
  | str (x : Str) : RV K F H (.str x) (.str x)
  | tup {a : Addr} {xs : List V} {ds : List PyData} : H a = some (.tup xs) → RVs K F H xs ds → RV K F H (.ref a) (.tuple ds)
  | lst {a : Addr} {xs : List V} {ds : List PyData} : F a → H a = some (.lst xs) → RVs K F H xs ds → RV K F H (.ref a) (.list ds)
  | dct {a : Addr} {kvs : List (Key × V)} {ds : List (PyData × PyData)} : F a → H a = some (.dK kvs) → RKs K F H kvs ds → RV K F H (.ref a) (.dict ds)
inductive RVs (K : PySem.W.Frag) (F : Addr → Prop) (H : Hp) : List V → List PyData → Prop
  | nil : RVs K F H [] []
  | cons {v : V} {vs : List V} {d : PyData} {ds : List PyData} : RV K F H v d → RVs K F H vs ds → RVs K F H (v :: vs) (d :: ds)
inductive RKs (K : PySem.W.Frag) (F : Addr → Prop) (H : Hp) : List (Key × V) → List (PyData × PyData) → Prop
  | nil : RKs K F H [] []
  | cons {k : Key} {v : V} {vs : List (Key × V)} {d : PyData} {ds : List (PyData × PyData)} : RV K F H v d → RKs K F H vs ds → RKs K F H ((k, v) :: vs) ((keyD k, d) :: ds)
end

/-- later: more places, nothing that is fixed has changed -/
structure Ext0 (G : Gh) (H : Hp) (G' : Gh) (H' : Hp) : Prop where
  φ : ∃ more, G'.φ = G.φ ++ more
  tup : ∀ a xs, H a = some (.tup xs) → H' a = some (.tup xs)
  frz : ∀ a o u, H a = some (.frz o u) → H' a = some (.frz o u)
  fix : ∀ a, G.F a → G'.F a ∧ H' a = H a
theorem Ext0.refl {G : Gh} {H : Hp} : Ext0 G H G H := ⟨⟨[], by simp⟩, fun _ _ h => h, fun _ _ _ h => h, fun _ h => ⟨h, rfl⟩⟩
theorem Ext0.trans {G G1 G2 : Gh} {H H1 H2 : Hp} (a : Ext0 G H G1 H1) (b : Ext0 G1 H1 G2 H2) : Ext0 G H G2 H2 := by
  obtain ⟨m1, e1⟩ := a.φ
  obtain ⟨m2, e2⟩ := b.φ
  exact ⟨⟨m1 ++ m2, by rw [e2, e1, List.append_assoc]⟩, fun c xs h => b.tup c xs (a.tup c xs h), fun c o u h => b.frz c o u (a.frz c o u h),
    fun c h => ⟨(b.fix c (a.fix c h).1).1, by rw [(b.fix c (a.fix c h).1).2, (a.fix c h).2]⟩⟩
section
variable {K : PySem.W.Frag} {G G' : Gh} {H H' : Hp}
theorem SqT.ext0 (e : Ext0 G H G' H') {a : Addr} {xs : List V} (h : SqT K H a xs) : SqT K H' a xs := by
  rcases h with (h | ⟨o, h⟩) | h
  · exact .inl (.inl (e.tup _ _ h))
  · exact .inl (.inr ⟨o, e.frz _ _ _ h⟩)
  · exact .inr h
mutual
theorem RV.ext0 (e : Ext0 G H G' H') : ∀ (d : PyData) (v : V), RV K G.F H v d → RV K G'.F H' v d
  | .none, _, h => by cases h; exact .non
  | .bool b, _, h => by cases h; exact .bl b
  | .int i, _, h => by cases h; exact .int i
  | .str x, _, h => by cases h; exact .str x
  | .tuple ds, _, h => by cases h with | tup h1 h2 => exact .tup (e.tup _ _ h1) (RVs.ext0 e ds _ h2)
  | .list ds, _, h => by cases h with | lst h0 h1 h2 => exact .lst (e.fix _ h0).1 (by rw [(e.fix _ h0).2]; exact h1) (RVs.ext0 e ds _ h2)
  | .dict ds, _, h => by
    cases h with
    | dct h1 h2 h3 => exact .dct (e.fix _ h1).1 (by rw [(e.fix _ h1).2]; exact h2) (RKs.ext0 e ds _ h3)
theorem RVs.ext0 (e : Ext0 G H G' H') : ∀ (ds : List PyData) (vs : List V), RVs K G.F H vs ds → RVs K G'.F H' vs ds
  | [], _, h => by cases h; exact .nil
  | d :: ds, _, h => by cases h with | cons h1 h2 => exact .cons (RV.ext0 e d _ h1) (RVs.ext0 e ds _ h2)
theorem RKs.ext0 (e : Ext0 G H G' H') : ∀ (ds : List (PyData × PyData)) (vs : List (Key × V)), RKs K G.F H vs ds → RKs K G'.F H' vs ds
  | [], _, h => by cases h; exact .nil
  | (_, d) :: ds, _, h => by cases h with | cons h1 h2 => exact .cons (RV.ext0 e d _ h1) (RKs.ext0 e ds _ h2)
end
theorem RVs.len {F : Addr → Prop} : ∀ {ds : List PyData} {vs : List V}, RVs K F H vs ds → vs.length = ds.length
  | [], _, h => by cases h; rfl
  | d :: ds, _, h => by cases h with | cons h1 h2 => simp [RVs.len h2]
theorem RVs.get {F : Addr → Prop} : ∀ {ds : List PyData} {vs : List V} {i : Nat} {d : PyData}, RVs K F H vs ds → ds[i]? = some d → ∃ v, vs[i]? = some v ∧ RV K F H v d
  | [], _, i, d, h, e => by simp at e
  | d :: ds, _, 0, d', h, e => by cases h with | cons h1 h2 => simp at e; subst e; exact ⟨_, rfl, h1⟩
  | d :: ds, _, i + 1, d', h, e => by
    cases h with
    | cons h1 h2 =>
      obtain ⟨v, e1, e2⟩ := RVs.get h2 (by simpa using e)
      exact ⟨v, by simpa using e1, e2⟩
theorem RVs.append {F : Addr → Prop} : ∀ {ds es : List PyData} {vs ws : List V}, RVs K F H vs ds → RVs K F H ws es → RVs K F H (vs ++ ws) (ds ++ es)
  | [], _, _, _, h, g => by cases h; exact g
  | d :: ds, _, _, _, h, g => by cases h with | cons h1 h2 => exact .cons h1 (RVs.append h2 g)
theorem RVs.take {F : Addr → Prop} : ∀ {ds : List PyData} {vs : List V} (n : Nat), RVs K F H vs ds → RVs K F H (vs.take n) (ds.take n)
  | _, _, 0, h => by simpa using RVs.nil
  | [], _, n + 1, h => by cases h; exact .nil
  | d :: ds, _, n + 1, h => by cases h with | cons h1 h2 => exact .cons h1 (RVs.take n h2)
theorem RVs.drop {F : Addr → Prop} : ∀ {ds : List PyData} {vs : List V} (n : Nat), RVs K F H vs ds → RVs K F H (vs.drop n) (ds.drop n)
  | _, _, 0, h => h
  | [], _, n + 1, h => by cases h; exact .nil
  | d :: ds, _, n + 1, h => by cases h with | cons h1 h2 => exact RVs.drop n h2

/-- the script: it is read, never written -/
def Scr (K : PySem.W.Frag) (H : Hp) (a : Addr) (xs : List V) : Prop :=
  (∃ o, H a = some (.frz o (.lst xs))) ∨
    ∃ (o : Obj) (its : Array Value) (n : Nat), K.lookup a = some o ∧ o.cls = .type "list" ∧ o.dict = none ∧ o.data = .seq its n ∧ its.size ≤ sizeLine ∧ Vals xs its.toList
theorem Scr.ext0 (e : Ext0 G H G' H') {a : Addr} {xs : List V} (h : Scr K H a xs) : Scr K H' a xs := by
  rcases h with ⟨o, h⟩ | h
  · exact .inl ⟨o, e.frz _ _ _ h⟩
  · exact .inr h
theorem Scr.sql {a : Addr} {xs : List V} (h : Scr K H a xs) : SqL K H a xs := by
  rcases h with ⟨o, h⟩ | h
  · exact .inl (.inr ⟨o, h⟩)
  · exact .inr h
/-- values -/
def RW (K : PySem.W.Frag) (G : Gh) (H : Hp) (x : V) : Val → Prop
  | .d y => RV K G.F H x y
  | .obj i => ∃ a, x = .ref a ∧ G.φ[i]? = some a
  | .scr ns => ∃ a, x = .ref a ∧ Scr K H a (ns.map V.int)
theorem RW.ext0 (e : Ext0 G H G' H') {x : V} {v : Val} (h : RW K G H x v) : RW K G' H' x v := by
  cases v with
  | d y => exact RV.ext0 e y x h
  | obj i =>
    obtain ⟨a, h1, h2⟩ := h
    obtain ⟨m, em⟩ := e.φ
    refine ⟨a, h1, ?_⟩
    rw [em, List.getElem?_append_left]
    · exact h2
    · exact (List.getElem?_eq_some_iff.mp h2).1
  | scr ns => exact let ⟨a, h1, h2⟩ := h; ⟨a, h1, Scr.ext0 e h2⟩
abbrev RWs (K : PySem.W.Frag) (G : Gh) (H : Hp) : List V → List Val → Prop := Paired (RW K G H)
theorem RWs.ext0 (e : Ext0 G H G' H') {xs : List V} {vs : List Val} (h : RWs K G H xs vs) : RWs K G' H' xs vs := Paired.mapP h fun _ _ q => RW.ext0 e q
theorem RVs.rws : ∀ {ds : List PyData} {vs : List V}, RVs K G.F H vs ds → RWs K G H vs (ds.map Val.d)
  | [], _, h => by cases h; exact .nil
  | d :: ds, _, h => by cases h with | cons h1 h2 => exact .cons h1 (RVs.rws h2)
theorem RWs.rvs : ∀ {ds : List PyData} {vs : List V}, RWs K G H vs (ds.map Val.d) → RVs K G.F H vs ds
  | [], _, h => by cases h; exact .nil
  | d :: ds, _, h => by cases h with | cons h1 h2 => exact .cons h1 (RWs.rvs h2)
/-- keys of a dict -/
def RKey (k : PyData) (x : Key) : Prop := k = keyD x
/-- an object at a place -/
def RO (K : PySem.W.Frag) (mg : Str → Option Value) (G : Gh) (H : Hp) (a : Addr) : MO → Prop
  | .frz x => RV K G.F H (.ref a) x
  | .lst vs => ¬ G.F a ∧ ∃ xs, H a = some (.lst xs) ∧ RWs K G H xs vs
  | .dct kvs => ¬ G.F a ∧ ((∃ ys, H a = some (.dK ys) ∧ Paired (fun (y : Key × V) (k : PyData × Val) => k.1 = keyD y.1 ∧ RW K G H y.2 k.2) ys kvs) ∨
      ∃ ys, H a = some (.dT ys) ∧ Paired (fun (y : List Key × V) (k : PyData × Val) => k.1 = .tuple (y.1.map keyD) ∧ RW K G H y.2 k.2) ys kvs)
  | .ins C fs => ¬ G.F a ∧ ∃ c dx ys, mg C = some (.ref c) ∧ H a = some (.ins c dx ys) ∧ Paired (fun (y : Str × V) (f : Str × Val) => y.1 = f.1 ∧ RW K G H y.2 f.2) ys fs
/-- the store is held -/
structure SimM (K : PySem.W.Frag) (mg : Str → Option Value) (G : Gh) (M : Mm) (H : Hp) : Prop where
  len : G.φ.length = M.length
  nd : G.φ.Nodup
  obj : ∀ (i : Nat) (a : Addr) (o : MO), G.φ[i]? = some a → (M : List MO)[i]? = some o → RO K mg G H a o
  there : ∀ a ∈ G.φ, H a ≠ none
  fthere : ∀ a, G.F a → H a ≠ none
  sys : ∃ o u, H sysModules = some (.frz o u)
/-- the names are held -/
structure SimS (K : PySem.W.Frag) (G : Gh) (s : Sl) (σ : L2.St) (H : Hp) : Prop where
  len : σ.length = s.length
  at_ : ∀ (i : Nat) (v : Val), s[i]? = some (some v) → ∃ x, σ[i]? = some (some x) ∧ RW K G H x v
theorem SimS.ext0 (e : Ext0 G H G' H') {s : Sl} {σ : L2.St} (h : SimS K G s σ H) : SimS K G' s σ H' :=
  ⟨h.len, fun i v q => let ⟨x, a, b⟩ := h.at_ i v q; ⟨x, a, RW.ext0 e b⟩⟩
theorem SimS.set {s : Sl} {σ : L2.St} {i : Nat} {x : V} {v : Val} (h : SimS K G s σ H) (r : RW K G H x v) : SimS K G (s.set i (some v)) (σ.set i (some x)) H := by
  refine ⟨by simp [h.len], fun j u q => ?_⟩
  by_cases hj : i = j
  · subst hj
    by_cases hl : i < s.length
    · rw [List.getElem?_set_self hl] at q
      cases q
      exact ⟨x, List.getElem?_set_self (by rw [h.len]; exact hl), r⟩
    · have : (s.set i (some v))[i]? = none := List.getElem?_eq_none_iff.mpr (by rw [List.length_set]; omega)
      rw [this] at q; cases q
  · rw [List.getElem?_set_ne hj] at q
    obtain ⟨y, a, b⟩ := h.at_ j u q
    exact ⟨y, by rw [List.getElem?_set_ne hj]; exact a, b⟩
end

/-- later: nothing but the things at places has changed, places and what is fixed are new things or were places -/
structure Ext (G : Gh) (H : Hp) (G' : Gh) (H' : Hp) : Prop extends Ext0 G H G' H' where
  keep : ∀ a, H a ≠ none → a ∉ G.φ → H' a = H a
  φnew : ∀ a, a ∈ G'.φ → a ∈ G.φ ∨ H a = none
  Fnew : ∀ a, G'.F a → G.F a ∨ H a = none ∨ a ∈ G.φ
theorem Ext.refl {G : Gh} {H : Hp} : Ext G H G H := ⟨.refl, fun _ _ _ => rfl, fun _ h => .inl h, fun _ h => .inl h⟩
theorem Ext.trans {G G1 G2 : Gh} {H H1 H2 : Hp} (a : Ext G H G1 H1) (b : Ext G1 H1 G2 H2) : Ext G H G2 H2 := by
  have nn : ∀ c, H1 c = none → H c = none ∨ c ∈ G.φ := fun c h => by
    by_cases hc : c ∈ G.φ
    · exact .inr hc
    · refine .inl ?_
      cases q : H c with
      | none => rfl
      | some o => rw [a.keep c (by rw [q]; simp) hc, q] at h; cases h
  refine ⟨a.toExt0.trans b.toExt0, fun c h1 h2 => ?_, fun c h => ?_, fun c h => ?_⟩
  · have e1 := a.keep c h1 h2
    rw [b.keep c (by rw [e1]; exact h1) (fun h => (a.φnew c h).elim h2 h1), e1]
  · rcases b.φnew c h with h | h
    · exact a.φnew c h
    · exact (nn c h).symm
  · rcases b.Fnew c h with h | h | h
    · exact a.Fnew c h
    · exact .inr (nn c h)
    · exact .inr ((a.φnew c h).symm)
section
variable {K : PySem.W.Frag} {G G' : Gh} {H H' : Hp}
theorem SqT.ext (e : Ext G H G' H') {a : Addr} {xs : List V} (h : SqT K H a xs) : SqT K H' a xs := SqT.ext0 e.toExt0 h
theorem Scr.ext (e : Ext G H G' H') {a : Addr} {xs : List V} (h : Scr K H a xs) : Scr K H' a xs := Scr.ext0 e.toExt0 h
theorem RV.ext (e : Ext G H G' H') (d : PyData) (v : V) (h : RV K G.F H v d) : RV K G'.F H' v d := RV.ext0 e.toExt0 d v h
theorem RVs.ext (e : Ext G H G' H') (d : List PyData) (v : List V) (h : RVs K G.F H v d) : RVs K G'.F H' v d := RVs.ext0 e.toExt0 d v h
theorem RKs.ext (e : Ext G H G' H') (d : List (PyData × PyData)) (v : List (Key × V)) (h : RKs K G.F H v d) : RKs K G'.F H' v d := RKs.ext0 e.toExt0 d v h
theorem RW.ext (e : Ext G H G' H') {x : V} {v : Val} (h : RW K G H x v) : RW K G' H' x v := RW.ext0 e.toExt0 h
theorem RWs.ext (e : Ext G H G' H') {xs : List V} {vs : List Val} (h : RWs K G H xs vs) : RWs K G' H' xs vs := RWs.ext0 e.toExt0 h
theorem SimS.ext (e : Ext G H G' H') {s : Sl} {σ : L2.St} (h : SimS K G s σ H) : SimS K G' s σ H' := SimS.ext0 e.toExt0 h
end
end Zm
namespace Zm
open PySem PySem.Spec PyProof.Rows L2

abbrev EM := Sl → Mm → Out Val
abbrev AM := Sl → Mm → Out (List Val)
abbrev TM := Sl → Mm → Out Bool
/-- what a block comes to -/
inductive SO where
  | nx (s : Sl) (M : Mm)
  | rt (v : Val) (M : Mm)
  | bk (s : Sl) (M : Mm)
  | ct (s : Sl) (M : Mm)
  | er (e : Exc) (s : Sl) (M : Mm)
  | bad
abbrev SM := Sl → Mm → SO

/-- an exception in the air -/
def RX (K : PySem.W.Frag) (mg : Str → Option Value) (G : Gh) (H : Hp) (e : Exc) (c : Value) (d : Option Addr) : Prop :=
  ∃ a, mg e.cls = some (.ref a) ∧ c = .ref a ∧ match e.fs with
    | none => d = none
    | some fs => ∃ da xs, d = some da ∧ H da = some (.xd xs) ∧ Paired (fun (y : Str × V) (f : Str × PyData) => y.1 = f.1 ∧ RV K G.F H y.2 f.2) xs fs
/-- the wish behind an outcome -/
def Post {α β : Type} (K : PySem.W.Frag) (mg : Str → Option Value) (W : WX) (G : Gh) (σ : L2.St) (H : Hp) (R : Gh → Hp → β → α → Prop) (Q : β → Hp → Prop) : Out α → Prop
  | .ok v M' => ∀ G' H' x, Ext G H G' H' → SimM K mg G' M' H' → R G' H' x v → Q x H'
  | .er e M' => ∀ G' H' c d, Ext G H G' H' → SimM K mg G' M' H' → RX K mg G' H' e c d → W c d σ H'
  | .bad => False
section
variable {α β γ δ : Type} {K : PySem.W.Frag} {mg : Str → Option Value} {W : WX} {G G1 : Gh} {σ : L2.St} {H H1 : Hp}
theorem Post.ext {R : Gh → Hp → β → α → Prop} {Q : β → Hp → Prop} {o : Out α} (e : Ext G H G1 H1) (h : Post K mg W G σ H R Q o) : Post K mg W G1 σ H1 R Q o := by
  cases o with
  | ok v M => exact fun G' H' x e' => h G' H' x (e.trans e')
  | er x M => exact fun G' H' c d e' => h G' H' c d (e.trans e')
  | bad => exact h
def Out.bind (o : Out α) (f : α → Mm → Out γ) : Out γ :=
  match o with
  | .ok v M => f v M
  | .er e M => .er e M
  | .bad => .bad
/-- first o, then the rest -/
theorem Post.bind {R : Gh → Hp → β → α → Prop} {R2 : Gh → Hp → δ → γ → Prop} {Q : β → Hp → Prop} {Q2 : δ → Hp → Prop} {o : Out α} {f : α → Mm → Out γ} (h : Post K mg W G σ H R2 Q2 (o.bind f))
    (k : ∀ v M' G' H' x, Ext G H G' H' → SimM K mg G' M' H' → R G' H' x v → Post K mg W G' σ H' R2 Q2 (f v M') → Q x H') : Post K mg W G σ H R Q o := by
  cases o with
  | ok v M => exact fun G' H' x e s r => k v M G' H' x e s r (Post.ext e h)
  | er x M => exact h
  | bad => exact h
end
section
variable (K : PySem.W.Frag) (mg : Str → Option Value) (W : WX)
def TEm (m : EM) : TE := fun σ H Q => ∃ G s M, SimM K mg G M H ∧ SimS K G s σ H ∧ Post K mg W G σ H (fun G' H' x v => RW K G' H' x v) Q (m s M)
def TAm (m : AM) : TA := fun σ H Q => ∃ G s M, SimM K mg G M H ∧ SimS K G s σ H ∧ Post K mg W G σ H (fun G' H' x v => RWs K G' H' x v) Q (m s M)
def TTm (m : TM) : TT := fun σ H Q => ∃ G s M, SimM K mg G M H ∧ SimS K G s σ H ∧ Post K mg W G σ H (fun _ _ x v => x = v) Q (m s M)
def PostS (G : Gh) (H : Hp) (E : Ends) : SO → Prop
  | .nx s M => ∀ G' H' σ', Ext G H G' H' → SimM K mg G' M H' → SimS K G' s σ' H' → E.nx σ' H'
  | .bk s M => ∀ G' H' σ', Ext G H G' H' → SimM K mg G' M H' → SimS K G' s σ' H' → E.bk σ' H'
  | .ct s M => ∀ G' H' σ', Ext G H G' H' → SimM K mg G' M H' → SimS K G' s σ' H' → E.ct σ' H'
  | .rt v M => ∀ G' H' x, Ext G H G' H' → SimM K mg G' M H' → RW K G' H' x v → E.rt x H'
  | .er e s M => ∀ G' H' σ' c d, Ext G H G' H' → SimM K mg G' M H' → SimS K G' s σ' H' → RX K mg G' H' e c d → W c d σ' H'
  | .bad => False
def TSm (m : SM) : TS := fun E σ H => ∃ G s M, SimM K mg G M H ∧ SimS K G s σ H ∧ PostS K mg W G H E (m s M)
end
theorem PostS.ext {K : PySem.W.Frag} {mg : Str → Option Value} {W : WX} {G G1 : Gh} {H H1 : Hp} {E : Ends} {o : SO} (e : Ext G H G1 H1) (h : PostS K mg W G H E o) : PostS K mg W G1 H1 E o := by
  cases o with
  | nx s M => exact fun G' H' σ' e' => h G' H' σ' (e.trans e')
  | bk s M => exact fun G' H' σ' e' => h G' H' σ' (e.trans e')
  | ct s M => exact fun G' H' σ' e' => h G' H' σ' (e.trans e')
  | rt v M => exact fun G' H' x e' => h G' H' x (e.trans e')
  | er x s M => exact fun G' H' σ' c d e' => h G' H' σ' c d (e.trans e')
  | bad => exact h

structure SE (X : Cx) (W : WX) (e : Expr) (m : EM) : Prop where
  pe : PE X e (TEm X.K X.mg W m)
structure SA (X : Cx) (W : WX) (e : List Expr) (m : AM) : Prop where
  pa : PA X e (TAm X.K X.mg W m)
structure ST (X : Cx) (W : WX) (e : Expr) (m : TM) : Prop where
  pt : PT X e (TTm X.K X.mg W m)
structure SW (X : Cx) (W : WX) (e : Expr) (m : TM) : Prop where
  pw : PW X e (TTm X.K X.mg W m)
structure SS (X : Cx) (W : WX) (e : Stmt) (m : SM) : Prop where
  ps : PS X e (TSm X.K X.mg W m)
structure SSs (X : Cx) (W : WX) (e : List Stmt) (m : SM) : Prop where
  pss : PSs X e (TSm X.K X.mg W m)
section
variable {X : Cx} {W : WX}
theorem peImp {e : Expr} {t t' : TE} (h : PE X e t) (i : ∀ σ H Q, t' σ H Q → t σ H Q) : PE X e t' := ⟨fun pins s σ H Q I q => h.run pins s σ H Q I (i _ _ _ q)⟩
theorem paImp {e : List Expr} {t t' : TA} (h : PA X e t) (i : ∀ σ H Q, t' σ H Q → t σ H Q) : PA X e t' := ⟨fun pos pins s σ H Q I q => h.run pos pins s σ H Q I (i _ _ _ q)⟩
theorem ptImp {e : Expr} {t t' : TT} (h : PT X e t) (i : ∀ σ H Q, t' σ H Q → t σ H Q) : PT X e t' := ⟨fun pins s σ H Q I q => h.run pins s σ H Q I (i _ _ _ q)⟩
theorem pwImp {e : Expr} {t t' : TT} (h : PW X e t) (i : ∀ σ H Q, t' σ H Q → t σ H Q) : PW X e t' := ⟨fun wh pins s σ H Q I q => h.run wh pins s σ H Q I (i _ _ _ q)⟩
theorem psImp {e : Stmt} {t t' : TS} (h : PS X e t) (i : ∀ D σ H, t' D σ H → t D σ H) : PS X e t' := ⟨fun pins s σ H D I q => h.run pins s σ H D I (i _ _ _ q)⟩
theorem pssImp {e : List Stmt} {t t' : TS} (h : PSs X e t) (i : ∀ D σ H, t' D σ H → t D σ H) : PSs X e t' := ⟨fun pins s σ H D I q => h.run pins s σ H D I (i _ _ _ q)⟩

/-! ### names and constants -/
/-- a place whose thing is fixed is its data -/
def rd (v : Val) (M : Mm) : Val := match v with
  | .obj i => match M[i]? with
    | some (.frz x) => .d x
    | _ => .obj i
  | v => v
theorem rd_ok {K : PySem.W.Frag} {mg : Str → Option Value} {G : Gh} {H : Hp} {M : Mm} {x : V} {v : Val} (S : SimM K mg G M H) (r : RW K G H x v) : RW K G H x (rd v M) := by
  cases v with
  | d y => exact r
  | scr ns => exact r
  | obj i =>
    show RW K G H x (match M[i]? with | some (.frz x) => Val.d x | _ => Val.obj i)
    split
    · rename_i y e
      obtain ⟨a, rfl, h⟩ := r
      exact S.obj i a _ h e
    · exact r
def mVar (i : Nat) : EM := fun s M => match s[i]? with
  | some (some v) => .ok (rd v M) M
  | _ => .bad
theorem se_var {i : Nat} {e : Expr} (h : PE X e (tVar i)) : SE X W e (mVar i) := by
  refine ⟨peImp h fun σ H Q ⟨G, s, M, S, N, p⟩ => ?_⟩
  unfold mVar at p
  split at p
  · rename_i v e
    obtain ⟨x, a, b⟩ := N.at_ i v e
    exact ⟨x, a, p G H x .refl S (rd_ok S b)⟩
  · exact p.elim
def mC (x : PyData) : EM := fun _ M => .ok (.d x) M
theorem se_c {e : Expr} {v : V} {x : PyData} (h : PE X e (tC v)) (r : ∀ F H, RV X.K F H v x) : SE X W e (mC x) :=
  ⟨peImp h fun σ H Q ⟨G, s, M, S, N, p⟩ => p G H v .refl S (r G.F H)⟩
theorem se_int {i : Int} {j pos} : SE X W (.Constant (.int i) j pos) (mC (.int i)) := se_c pe_int fun _ _ => .int i
theorem se_bl {b j pos} : SE X W (.Constant (.bool b) j pos) (mC (.bool b)) := se_c pe_bl fun _ _ => .bl b
theorem se_non {j pos} : SE X W (.Constant .none j pos) (mC .none) := se_c pe_non fun _ _ => .non
theorem se_str {x j pos} : SE X W (.Constant (.str x) j pos) (mC (.str x)) := se_c pe_str fun _ _ => .str x

/-! ### operators -/
def mOp (f : Val → Val → Mm → Out Val) (a b : EM) : EM := fun s M => (a s M).bind fun x M1 => (b s M1).bind fun y M2 => f x y M2
/-- a plain function of the values, right for the reading r -/
def OpZ (X : Cx) (r : R2) (f : Val → Val → Mm → Out Val) : Prop := ∀ (W : WX) (G : Gh) (M : Mm) (σ : L2.St) (H : Hp) (Q : VK) (x y : V) (v w : Val), SimM X.K X.mg G M H → RW X.K G H x v → RW X.K G H y w →
  Post X.K X.mg W G σ H (fun G' H' x v => RW X.K G' H' x v) Q (f v w M) → r x y H Q
theorem TEm.op {ta tb : EM} {f : Val → Val → Mm → Out Val} {r : R2} (z : OpZ X r f) {σ : L2.St} {H : Hp} {Q : VK} (h : TEm X.K X.mg W (mOp f ta tb) σ H Q) : tOp r (TEm X.K X.mg W ta) (TEm X.K X.mg W tb) σ H Q := by
  obtain ⟨G, s, M, S, N, p⟩ := h
  refine ⟨G, s, M, S, N, Post.bind p fun v M1 G1 H1 x e1 S1 r1 p1 => ?_⟩
  refine ⟨G1, s, M1, S1, N.ext e1, Post.bind p1 fun w M2 G2 H2 y e2 S2 r2 p2 => ?_⟩
  exact z W G2 M2 σ H2 Q x y v w S2 (RW.ext e2 r1) r2 p2
theorem se_op {op : Operator} {r : R2} {f : Val → Val → Mm → Out Val} {a b : Expr} {ma mb : EM} {pos : Pos} (ho : OpR X (binaryOp op) r) (z : OpZ X r f) (ha : SE X W a ma) (hb : SE X W b mb) : SE X W (.BinOp a op b pos) (mOp f ma mb) :=
  ⟨peImp (pe_op ho ha.pe hb.pe) fun _ _ _ h => TEm.op z h⟩
theorem se_cmp {op : CmpOp} {r : R2} {f : Val → Val → Mm → Out Val} {a b : Expr} {ma mb : EM} {pos : Pos} (ho : OpR X (compareOp op) r) (z : OpZ X r f) (ha : SE X W a ma) (hb : SE X W b mb) (hm : behindInMarks op b = false) :
    SE X W (.Compare a [op] [b] pos) (mOp f ma mb) :=
  ⟨peImp (pe_cmpR ho ha.pe hb.pe hm) fun _ _ _ h => TEm.op z h⟩
/-- a bool as a test -/
def mT (m : EM) : TM := fun s M => (m s M).bind fun v M1 => match v with
  | .d (.bool b) => .ok b M1
  | _ => .bad
theorem TTm.of {m : EM} {σ : L2.St} {H : Hp} {Q : Bool → Hp → Prop} (h : TTm X.K X.mg W (mT m) σ H Q) : tB (TEm X.K X.mg W m) σ H Q := by
  obtain ⟨G, s, M, S, N, p⟩ := h
  refine ⟨G, s, M, S, N, Post.bind p fun v M1 G1 H1 x e1 S1 r1 p1 => ?_⟩
  split at p1
  · rename_i b
    have r1 : RV X.K G1.F H1 x (.bool b) := r1
    cases r1
    exact ⟨b, rfl, p1 G1 H1 b .refl S1 rfl⟩
  · exact p1.elim
theorem st_val {e : Expr} {m : EM} (h : SE X W e m) (he : ∀ whole, isTrue e X.env whole = (do let v ← whole; standAt e.pos; holding [v] (truthy v)) := by intro _; rfl) : ST X W e (mT m) :=
  ⟨ptImp (pt_val h.pe he) fun _ _ _ h => TTm.of h⟩
theorem st_cmp {op : CmpOp} {r : R2} {f : Val → Val → Mm → Out Val} {a b : Expr} {ma mb : EM} {pos : Pos} (ho : OpR X (compareOp op) r) (z : OpZ X r f) (ha : SE X W a ma) (hb : SE X W b mb) (hm : behindInMarks op b = false) :
    ST X W (.Compare a [op] [b] pos) (mT (mOp f ma mb)) := by
  refine ⟨ptImp (pt_cmpR ho ha.pe hb.pe hm) fun σ H Q h => ?_⟩
  have h2 := TTm.of h
  obtain ⟨G, s, M, S, N, p⟩ := h2
  exact TEm.op z ⟨G, s, M, S, N, p⟩
def mTAnd (a b : TM) : TM := fun s M => (a s M).bind fun c M1 => if c = true then b s M1 else .ok false M1
def mTOr (a b : TM) : TM := fun s M => (a s M).bind fun c M1 => if c = true then .ok true M1 else b s M1
def mTNot (a : TM) : TM := fun s M => (a s M).bind fun c M1 => .ok (!c) M1
theorem sw_and1 {a : Expr} {pos : Pos} {m : TM} (h : ST X W a m) : SW X W (.BoolOp .And [a] pos) m := ⟨pw_and1 h.pt⟩
theorem sw_or1 {a : Expr} {pos : Pos} {m : TM} (h : ST X W a m) : SW X W (.BoolOp .Or [a] pos) m := ⟨pw_or1 h.pt⟩
theorem sw_and {a b : Expr} {rest : List Expr} {pos : Pos} {ma mb : TM} (ha : ST X W a ma) (hb : SW X W (.BoolOp .And (b :: rest) pos) mb) : SW X W (.BoolOp .And (a :: b :: rest) pos) (mTAnd ma mb) := by
  refine ⟨pwImp (pw_and ha.pt hb.pw) fun σ H Q ⟨G, s, M, S, N, p⟩ => ?_⟩
  refine ⟨G, s, M, S, N, Post.bind p fun c M1 G1 H1 x e1 S1 r1 p1 => ?_⟩
  subst r1
  cases x with
  | true => exact ⟨G1, s, M1, S1, N.ext e1, p1⟩
  | false => exact p1 G1 H1 _ .refl S1 rfl
theorem sw_or {a b : Expr} {rest : List Expr} {pos : Pos} {ma mb : TM} (ha : ST X W a ma) (hb : SW X W (.BoolOp .Or (b :: rest) pos) mb) : SW X W (.BoolOp .Or (a :: b :: rest) pos) (mTOr ma mb) := by
  refine ⟨pwImp (pw_or ha.pt hb.pw) fun σ H Q ⟨G, s, M, S, N, p⟩ => ?_⟩
  refine ⟨G, s, M, S, N, Post.bind p fun c M1 G1 H1 x e1 S1 r1 p1 => ?_⟩
  subst r1
  cases x with
  | true => exact p1 G1 H1 _ .refl S1 rfl
  | false => exact ⟨G1, s, M1, S1, N.ext e1, p1⟩
theorem SW.st {e : Expr} {m : TM} (h : SW X W e m) : ST X W e m := ⟨h.pw.pt⟩
theorem st_not {a : Expr} {pos : Pos} {m : TM} (h : ST X W a m) : ST X W (.UnaryOp .Not a pos) (mTNot m) := by
  refine ⟨ptImp (pt_not h.pt) fun σ H Q ⟨G, s, M, S, N, p⟩ => ?_⟩
  refine ⟨G, s, M, S, N, Post.bind p fun c M1 G1 H1 x e1 S1 r1 p1 => ?_⟩
  subst r1
  exact p1 G1 H1 _ .refl S1 rfl
/-- and, or, not as values -/
def mAnd (a b : EM) : EM := fun s M => (mT a s M).bind fun c M1 => if c = true then b s M1 else .ok (.d (.bool false)) M1
def mOr (a b : EM) : EM := fun s M => (mT a s M).bind fun c M1 => if c = true then .ok (.d (.bool true)) M1 else b s M1
def mNot (a : EM) : EM := fun s M => (mT a s M).bind fun c M1 => .ok (.d (.bool (!c))) M1
theorem se_one {op} {a : Expr} {pos : Pos} {m : EM} (h : SE X W a m) : SE X W (.BoolOp op [a] pos) m := ⟨pe_one h.pe⟩
theorem TB.first {m : EM} {k : Bool → Mm → Out Val} {G : Gh} {s : Sl} {M : Mm} {σ : L2.St} {H : Hp} {Q : VK} {R : Bool → Hp → Prop} (S : SimM X.K X.mg G M H) (N : SimS X.K G s σ H)
    (p : Post X.K X.mg W G σ H (fun G' H' x v => RW X.K G' H' x v) Q ((mT m s M).bind k))
    (hk : ∀ c M1 G1 H1, SimM X.K X.mg G1 M1 H1 → SimS X.K G1 s σ H1 → Post X.K X.mg W G1 σ H1 (fun G' H' x v => RW X.K G' H' x v) Q (k c M1) → R c H1) : TEm X.K X.mg W m σ H fun x H1 => ∃ c, x = .bl c ∧ R c H1 := by
  have h : TTm X.K X.mg W (mT m) σ H R := ⟨G, s, M, S, N, Post.bind p fun c M1 G1 H1 x e1 S1 r1 p1 => by subst r1; exact hk x M1 G1 H1 S1 (N.ext e1) p1⟩
  exact TTm.of h
theorem se_and {a b : Expr} {rest : List Expr} {pos : Pos} {ma mb : EM} (ha : SE X W a ma) (hb : SE X W (.BoolOp .And (b :: rest) pos) mb) : SE X W (.BoolOp .And (a :: b :: rest) pos) (mAnd ma mb) := by
  refine ⟨peImp (pe_and ha.pe hb.pe) fun σ H Q ⟨G, s, M, S, N, p⟩ => TB.first S N p fun c M1 G1 H1 S1 N1 p1 => ?_⟩
  cases c with
  | true => exact ⟨G1, s, M1, S1, N1, p1⟩
  | false => exact p1 G1 H1 _ .refl S1 (RV.bl false)
theorem se_or {a b : Expr} {rest : List Expr} {pos : Pos} {ma mb : EM} (ha : SE X W a ma) (hb : SE X W (.BoolOp .Or (b :: rest) pos) mb) : SE X W (.BoolOp .Or (a :: b :: rest) pos) (mOr ma mb) := by
  refine ⟨peImp (pe_or ha.pe hb.pe) fun σ H Q ⟨G, s, M, S, N, p⟩ => TB.first S N p fun c M1 G1 H1 S1 N1 p1 => ?_⟩
  cases c with
  | true => exact p1 G1 H1 _ .refl S1 (RV.bl true)
  | false => exact ⟨G1, s, M1, S1, N1, p1⟩
theorem se_not {a : Expr} {pos : Pos} {m : EM} (h : SE X W a m) : SE X W (.UnaryOp .Not a pos) (mNot m) := by
  refine ⟨peImp (pe_not h.pe) fun σ H Q ⟨G, s, M, S, N, p⟩ => TB.first S N p fun c M1 G1 H1 S1 N1 p1 => ?_⟩
  exact p1 G1 H1 _ .refl S1 (RV.bl (!c))
def mIf (c : TM) (a b : EM) : EM := fun s M => (c s M).bind fun k M1 => if k = true then a s M1 else b s M1
theorem se_if {c a b : Expr} {pos : Pos} {mc : TM} {ma mb : EM} (hc : ST X W c mc) (ha : SE X W a ma) (hb : SE X W b mb) : SE X W (.IfExp c a b pos) (mIf mc ma mb) := by
  refine ⟨peImp (pe_ifExp hc.pt ha.pe hb.pe) fun σ H Q ⟨G, s, M, S, N, p⟩ => ?_⟩
  refine ⟨G, s, M, S, N, Post.bind p fun c M1 G1 H1 x e1 S1 r1 p1 => ?_⟩
  subst r1
  cases x with
  | true => exact ⟨G1, s, M1, S1, N.ext e1, p1⟩
  | false => exact ⟨G1, s, M1, S1, N.ext e1, p1⟩

/-! ### argument lists, displays -/
def mNil : AM := fun _ M => .ok [] M
def mCons (a : EM) (r : AM) : AM := fun s M => (a s M).bind fun x M1 => (r s M1).bind fun xs M2 => .ok (x :: xs) M2
theorem sa_nil : SA X W [] mNil := ⟨paImp pa_nil fun σ H Q ⟨G, s, M, S, N, p⟩ => p G H [] .refl S .nil⟩
theorem sa_cons {e : Expr} {es : List Expr} {m : EM} {ms : AM} (ha : SE X W e m) (hr : SA X W es ms) (hs : starEach (e :: es) X.env = (false, eval e X.env) :: starEach es X.env := by rfl) : SA X W (e :: es) (mCons m ms) := by
  refine ⟨paImp (pa_cons ha.pe hr.pa hs) fun σ H Q ⟨G, s, M, S, N, p⟩ => ?_⟩
  refine ⟨G, s, M, S, N, Post.bind p fun v M1 G1 H1 x e1 S1 r1 p1 => ?_⟩
  refine ⟨G1, s, M1, S1, N.ext e1, Post.bind p1 fun w M2 G2 H2 y e2 S2 r2 p2 => ?_⟩
  exact p2 G2 H2 _ .refl S2 (.cons (RW.ext e2 r1) r2)
end
end Zm
namespace Zm
open PySem PySem.Spec PyProof.Rows L2

/-! ### the store grows, is written, is fixed -/
section
variable {K : PySem.W.Frag} {mg : Str → Option Value} {G G' : Gh} {H H' : Hp} {M : Mm}
theorem RO.keep (e : Ext0 G H G' H') {a : Addr} {o : MO} (ha : H' a = H a) (hF : ¬ G.F a → ¬ G'.F a) (h : RO K mg G H a o) : RO K mg G' H' a o := by
  cases o with
  | frz x => exact RV.ext0 e x _ h
  | lst vs =>
    obtain ⟨h1, xs, h2, h3⟩ := h
    exact ⟨hF h1, xs, by rw [ha]; exact h2, RWs.ext0 e h3⟩
  | dct kvs =>
    obtain ⟨h1, h2⟩ := h
    refine ⟨hF h1, ?_⟩
    rcases h2 with ⟨ys, h2, h3⟩ | ⟨ys, h2, h3⟩
    · exact .inl ⟨ys, by rw [ha]; exact h2, Paired.mapP h3 fun _ _ q => ⟨q.1, RW.ext0 e q.2⟩⟩
    · exact .inr ⟨ys, by rw [ha]; exact h2, Paired.mapP h3 fun _ _ q => ⟨q.1, RW.ext0 e q.2⟩⟩
  | ins C fs =>
    obtain ⟨h1, c, dx, ys, h0, h2, h3⟩ := h
    exact ⟨hF h1, c, dx, ys, h0, by rw [ha]; exact h2, Paired.mapP h3 fun _ _ q => ⟨q.1, RW.ext0 e q.2⟩⟩
theorem SimM.grow (S : SimM K mg G M H) (e : Ext0 G H G' H') (hφ : G'.φ = G.φ) (ha : ∀ a ∈ G.φ, H' a = H a) (hF : ∀ a ∈ G.φ, ¬ G.F a → ¬ G'.F a) (hT : ∀ a, G'.F a → H' a ≠ none) : SimM K mg G' M H' where
  len := by rw [hφ]; exact S.len
  nd := by rw [hφ]; exact S.nd
  obj := fun i a o h1 h2 => by
    rw [hφ] at h1
    have m : a ∈ G.φ := List.mem_of_getElem? h1
    exact RO.keep e (ha a m) (hF a m) (S.obj i a o h1 h2)
  there := fun a h => by
    rw [hφ] at h
    rw [ha a h]
    exact S.there a h
  fthere := hT
  sys := let ⟨o, u, h⟩ := S.sys; ⟨o, u, e.frz _ _ _ h⟩
theorem SimM.newne (S : SimM K mg G M H) {p : Addr} (hp : H p = none) : p ∉ G.φ := fun h => S.there p h hp
theorem ne_fresh {p a : Addr} (hp : H p = none) (h : H a ≠ none) : a ≠ p := fun e => h (e ▸ hp)
theorem ext_upd {p : Addr} {o : HO} (hp : H p = none) (hG : ∀ a, G.F a → H a ≠ none) : Ext G H G (upd H p o) := by
  refine ⟨⟨⟨[], by simp⟩, fun a xs h => by rw [upd_ne (ne_of_none h hp)]; exact h, fun a o u h => by rw [upd_ne (ne_of_none h hp)]; exact h,
    fun a h => ⟨h, upd_ne (ne_fresh hp (hG a h))⟩⟩, fun a h _ => upd_ne (ne_fresh hp h), fun a h => .inl h, fun a h => .inl h⟩
/-- something new that no place holds: a tuple, an iterator -/
theorem SimM.lay (S : SimM K mg G M H) {p : Addr} {o : HO} (hp : H p = none) : SimM K mg G M (upd H p o) ∧ Ext G H G (upd H p o) := by
  have e := ext_upd (o := o) hp S.fthere
  refine ⟨S.grow e.toExt0 rfl (fun a h => upd_ne (ne_fresh hp (S.there a h))) (fun _ _ h => h) fun a h => ?_, e⟩
  rw [(e.fix a h).2]
  exact S.fthere a h
/-- .. that is fixed from now on -/
def Gh.fix (G : Gh) (p : Addr) : Gh := ⟨G.φ, fun a => a = p ∨ G.F a⟩
theorem SimM.layF (S : SimM K mg G M H) {p : Addr} {o : HO} (hp : H p = none) : SimM K mg (G.fix p) M (upd H p o) ∧ Ext G H (G.fix p) (upd H p o) := by
  have e0 := ext_upd (o := o) hp S.fthere
  have e : Ext G H (G.fix p) (upd H p o) := ⟨⟨e0.φ, e0.tup, e0.frz, fun a h => ⟨.inr h, (e0.fix a h).2⟩⟩, e0.keep, e0.φnew, fun a h => h.elim (fun z => .inr (.inl (z ▸ hp))) .inl⟩
  refine ⟨S.grow e.toExt0 rfl (fun a h => upd_ne (ne_fresh hp (S.there a h))) (fun a m h z => ?_) fun a h => ?_, e⟩
  · rcases z with z | z
    · exact S.there a m (z ▸ hp)
    · exact h z
  · rcases h with h | h
    · subst h; rw [upd_same]; simp
    · rw [(e0.fix a h).2]; exact S.fthere a h
/-- .. at a place of its own -/
def Gh.push (G : Gh) (p : Addr) : Gh := ⟨G.φ ++ [p], G.F⟩
theorem ext_push0 {p : Addr} (e : Ext0 G H G H') : Ext0 G H (G.push p) H' := ⟨⟨[p], rfl⟩, e.tup, e.frz, e.fix⟩
theorem ext_push {p : Addr} (hp : H p = none) (e : Ext G H G H') : Ext G H (G.push p) H' := ⟨ext_push0 e.toExt0, e.keep, fun a h => (List.mem_append.mp h).imp id fun h => by
  have : a = p := by simpa using h
  rw [this]; exact hp, e.Fnew⟩
theorem SimM.push (S : SimM K mg G M H) {p : Addr} (hp : p ∉ G.φ) {o : MO} (ht : H p ≠ none) (r : RO K mg (G.push p) H p o) : SimM K mg (G.push p) (M ++ [o]) H where
  len := by simp [Gh.push, S.len]
  nd := by
    show (G.φ ++ [p]).Nodup
    rw [List.nodup_append]
    refine ⟨S.nd, by simp, fun a h b h2 => ?_⟩
    have : b = p := by simpa using h2
    subst this
    exact fun z => hp (z ▸ h)
  obj := fun i a q h1 h2 => by
    have h1 : (G.φ ++ [p])[i]? = some a := h1
    by_cases hi : i < G.φ.length
    · rw [List.getElem?_append_left hi] at h1
      rw [List.getElem?_append_left (by rw [← S.len]; exact hi)] at h2
      exact RO.keep (ext_push0 .refl) rfl (fun h => h) (S.obj i a q h1 h2)
    · have hi' : i = G.φ.length := by
        have := (List.getElem?_eq_some_iff.mp h1).1
        rw [List.length_append] at this
        simp at this
        omega
      subst hi'
      have e1 : p = a := by simpa using h1
      rw [S.len] at h2
      have e2 : o = q := by simpa using h2
      rw [← e1, ← e2]
      exact r
  there := fun a h => by
    rcases List.mem_append.mp h with h | h
    · exact S.there a h
    · have : a = p := by simpa using h
      rw [this]
      exact ht
  fthere := S.fthere
  sys := S.sys
theorem SimM.pushL (S : SimM K mg G M H) {p : Addr} (hp : H p = none) {xs : List V} {vs : List Val} (r : RWs K G H xs vs) :
    SimM K mg (G.push p) (M ++ [.lst vs]) (upd H p (.lst xs)) ∧ Ext G H (G.push p) (upd H p (.lst xs)) ∧ RW K (G.push p) (upd H p (.lst xs)) (.ref p) (.obj M.length) := by
  obtain ⟨S1, e1⟩ := S.lay (o := .lst xs) hp
  have e2 : Ext G H (G.push p) (upd H p (.lst xs)) := ext_push hp e1
  refine ⟨S1.push (S.newne hp) (by rw [upd_same]; simp) ⟨fun z => S.fthere p z hp, xs, upd_same, RWs.ext e2 r⟩, e2, p, rfl, ?_⟩
  show (G.φ ++ [p])[M.length]? = some p
  rw [← S.len]
  simp
/-- the thing at a place is changed -/
theorem SimM.write (S : SimM K mg G M H) {i : Nat} {a : Addr} {u : HO} {o : MO} (hi : G.φ[i]? = some a) (hF : ¬ G.F a) (hm : ∀ xs, H a ≠ some (.tup xs)) (hz : ∀ q v, H a ≠ some (.frz q v))
    (r : Ext G H G (upd H a u) → RO K mg G (upd H a u) a o) : SimM K mg G (M.set i o) (upd H a u) ∧ Ext G H G (upd H a u) := by
  have e : Ext G H G (upd H a u) := ⟨⟨⟨[], by simp⟩, fun b xs h => by
      rw [upd_ne (show b ≠ a from fun z => hm xs (by rw [← z]; exact h))]; exact h, fun b q v h => by
      rw [upd_ne (show b ≠ a from fun z => hz q v (by rw [← z]; exact h))]; exact h,
    fun b h => ⟨h, upd_ne fun z => hF (z ▸ h)⟩⟩, fun b _ h => upd_ne fun z => h (z ▸ List.mem_of_getElem? hi), fun b h => .inl h, fun b h => .inl h⟩
  refine ⟨⟨by rw [List.length_set]; exact S.len, S.nd, fun j b q h1 h2 => ?_, fun b h => ?_, fun b h => ?_, let ⟨o, u, h⟩ := S.sys; ⟨o, u, e.frz _ _ _ h⟩⟩, e⟩
  · by_cases hj : i = j
    · subst hj
      rw [hi] at h1
      cases h1
      have hl : i < M.length := by rw [← S.len]; exact (List.getElem?_eq_some_iff.mp hi).1
      rw [List.getElem?_set_self hl] at h2
      cases h2
      exact r e
    · rw [List.getElem?_set_ne hj] at h2
      have hb : b ≠ a := fun z => by
        subst z
        exact hj ((List.getElem?_inj (List.getElem?_eq_some_iff.mp hi).1 S.nd).mp (hi.trans h1.symm))
      exact RO.keep e.toExt0 (upd_ne hb) (fun h => h) (S.obj j b q h1 h2)
  · by_cases z : b = a
    · rw [z, upd_same]; simp
    · rw [upd_ne z]; exact S.there b h
  · rw [(e.fix b h).2]; exact S.fthere b h
theorem ext_fix {a : Addr} (h : a ∈ G.φ) : Ext G H (G.fix a) H := ⟨⟨⟨[], by simp [Gh.fix]⟩, fun _ _ h => h, fun _ _ _ h => h, fun b h => ⟨.inr h, rfl⟩⟩, fun _ _ _ => rfl, fun b h => .inl h, fun b z => z.elim (fun z => .inr (.inr (z ▸ h))) .inl⟩
/-- the thing at a place is fixed -/
theorem SimM.freeze (S : SimM K mg G M H) {i : Nat} {a : Addr} {x : PyData} (hi : G.φ[i]? = some a) (hF : ¬ G.F a) (r : RV K (G.fix a).F H (.ref a) x) : SimM K mg (G.fix a) (M.set i (.frz x)) H ∧ Ext G H (G.fix a) H := by
  have e : Ext G H (G.fix a) H := ext_fix (List.mem_of_getElem? hi)
  refine ⟨⟨by rw [List.length_set]; exact S.len, S.nd, fun j b q h1 h2 => ?_, fun b h => S.there b h, fun b h => ?_, S.sys⟩, e⟩
  · by_cases hj : i = j
    · subst hj
      have h1 : G.φ[i]? = some b := h1
      rw [hi] at h1
      cases h1
      have hl : i < M.length := by rw [← S.len]; exact (List.getElem?_eq_some_iff.mp hi).1
      rw [List.getElem?_set_self hl] at h2
      cases h2
      exact r
    · rw [List.getElem?_set_ne hj] at h2
      have h1 : G.φ[j]? = some b := h1
      have hb : b ≠ a := fun z => by
        subst z
        exact hj ((List.getElem?_inj (List.getElem?_eq_some_iff.mp hi).1 S.nd).mp (hi.trans h1.symm))
      exact RO.keep e.toExt0 rfl (fun h z => z.elim hb h) (S.obj j b q h1 h2)
  · rcases h with h | h
    · subst h; exact S.there _ (List.mem_of_getElem? hi)
    · exact S.fthere b h
end

/-- all by value -/
def allD : List Val → Option (List PyData)
  | [] => some []
  | .d x :: r => (allD r).map (x :: ·)
  | _ :: _ => none
theorem allD_ok {K : PySem.W.Frag} {G : Gh} {H : Hp} : ∀ {vs : List Val} {ds : List PyData} {xs : List V}, allD vs = some ds → RWs K G H xs vs → RVs K G.F H xs ds
  | [], ds, xs, e, r => by cases r; cases e; exact .nil
  | .d x :: vs, ds, xs, e, r => by
    cases r with
    | cons r1 r2 =>
      unfold allD at e
      cases q : allD vs with
      | none => rw [q] at e; cases e
      | some es =>
        rw [q] at e
        cases e
        exact .cons r1 (allD_ok q r2)
  | .obj _ :: _, _, _, e, _ => by cases e
  | .scr _ :: _, _, _, e, _ => by cases e
theorem allD_map : ∀ (ds : List PyData), allD (ds.map Val.d) = some ds
  | [] => rfl
  | d :: ds => by simp [allD, allD_map ds]
theorem Paired.len {α β : Type} {F : α → β → Prop} : ∀ {l : List α} {m : List β}, Paired F l m → l.length = m.length
  | _, _, .nil => rfl
  | _, _, .cons _ t => by simp [Paired.len t]
def fitsL (n : Nat) : Bool := decide (n ≤ 16777216)
theorem fitsL_ok {n : Nat} (h : fitsL n = true) : n ≤ sizeLine := of_decide_eq_true h
section
variable {X : Cx} {W : WX}
def mTup (a : AM) : EM := fun s M => (a s M).bind fun vs M1 => match allD vs with
  | some ds => if fitsL ds.length then .ok (.d (.tuple ds)) M1 else .bad
  | none => .bad
theorem se_tup {es : List Expr} {pos : Pos} {x1} {m : AM} (h : SA X W es m) : SE X W (.Tuple es x1 pos) (mTup m) := by
  refine ⟨peImp (pe_tup h.pa) fun σ H Q ⟨G, s, M, S, N, p⟩ => ⟨G, s, M, S, N, Post.bind p fun vs M1 G1 H1 xs e1 S1 r1 p1 => ?_⟩⟩
  split at p1
  · rename_i ds ed
    split at p1
    · rename_i hf
      have rv := allD_ok ed r1
      refine ⟨by rw [rv.len]; exact fitsL_ok hf, fun q hq => ?_⟩
      obtain ⟨S2, e2⟩ := S1.lay (o := .tup xs) hq
      exact p1 G1 _ _ e2 S2 (RV.tup upd_same (RVs.ext e2 _ _ rv))
    · exact p1.elim
  · exact p1.elim
/-- a list by value -/
def mLst (a : AM) : EM := fun s M => (a s M).bind fun vs M1 => match allD vs with
  | some ds => if fitsL ds.length then .ok (.d (.list ds)) M1 else .bad
  | none => .bad
theorem se_lst {es : List Expr} {pos : Pos} {m : AM} (h : SA X W es m) : SE X W (.List es pos) (mLst m) := by
  refine ⟨peImp (pe_lst h.pa) fun σ H Q ⟨G, s, M, S, N, p⟩ => ⟨G, s, M, S, N, Post.bind p fun vs M1 G1 H1 xs e1 S1 r1 p1 => ?_⟩⟩
  split at p1
  · rename_i ds ed
    split at p1
    · rename_i hf
      have rv := allD_ok ed r1
      refine ⟨by rw [rv.len]; exact fitsL_ok hf, fun q hq => ?_⟩
      obtain ⟨S2, e2⟩ := S1.layF (o := .lst xs) hq
      exact p1 _ _ _ e2 S2 (RV.lst (.inl rfl) upd_same (RVs.ext e2 _ _ rv))
    · exact p1.elim
  · exact p1.elim
/-- a list at a place of its own -/
def mNew (a : AM) : EM := fun s M => (a s M).bind fun vs M1 => if fitsL vs.length then .ok (.obj M1.length) (M1 ++ [.lst vs]) else .bad
theorem se_new {es : List Expr} {pos : Pos} {m : AM} (h : SA X W es m) : SE X W (.List es pos) (mNew m) := by
  refine ⟨peImp (pe_lst h.pa) fun σ H Q ⟨G, s, M, S, N, p⟩ => ⟨G, s, M, S, N, Post.bind p fun vs M1 G1 H1 xs e1 S1 r1 p1 => ?_⟩⟩
  split at p1
  · rename_i hf
    refine ⟨by rw [Paired.len r1]; exact fitsL_ok hf, fun q hq => ?_⟩
    obtain ⟨S2, e2, r2⟩ := S1.pushL hq r1
    exact p1 _ _ _ e2 S2 r2
  · exact p1.elim
/-- from now on by value (nothing happens in Python) -/
def fzL (vs : List Val) (M : Mm) : Option (List PyData) := allD (vs.map (rd · M))
def mFrz (m : EM) : EM := fun s M => (m s M).bind fun v M1 => match v with
  | .d x => .ok (.d x) M1
  | .scr ns => .ok (.scr ns) M1
  | .obj i => match M1[i]? with
    | some (.frz x) => .ok (.d x) M1
    | some (.lst vs) => match fzL vs M1 with
      | some ds => .ok (.d (.list ds)) (M1.set i (.frz (.list ds)))
      | none => .bad
    | _ => .bad
theorem rws_rd {K : PySem.W.Frag} {mg : Str → Option Value} {G : Gh} {H : Hp} {M : Mm} (S : SimM K mg G M H) : ∀ {xs : List V} {vs : List Val}, RWs K G H xs vs → RWs K G H xs (vs.map (rd · M))
  | _, _, .nil => .nil
  | _, _, .cons h t => .cons (rd_ok S h) (rws_rd S t)
theorem frz_ok {K : PySem.W.Frag} {mg : Str → Option Value} {W : WX} {G : Gh} {H : Hp} {M : Mm} {σ : L2.St} {Q : VK} {i : Nat} {vs : List Val} {ds : List PyData} {a : Addr} (S : SimM K mg G M H) (hi : G.φ[i]? = some a) (ho : M[i]? = some (.lst vs)) (hd : fzL vs M = some ds)
    (p : Post K mg W G σ H (fun G' H' x v => RW K G' H' x v) Q (.ok (.d (.list ds)) (M.set i (.frz (.list ds))))) : Q (.ref a) H := by
  obtain ⟨nF, xs, hx, rx⟩ := S.obj i a _ hi ho
  have rv := allD_ok hd (rws_rd S rx)
  have e : Ext G H (G.fix a) H := ext_fix (List.mem_of_getElem? hi)
  have rl : RV K (G.fix a).F H (.ref a) (.list ds) := .lst (.inl rfl) hx (RVs.ext e _ _ rv)
  obtain ⟨S2, e2⟩ := S.freeze hi nF rl
  exact p _ _ _ e2 S2 rl
theorem se_frz {e : Expr} {m : EM} (h : SE X W e m) : SE X W e (mFrz m) := by
  refine ⟨peImp h.pe fun σ H Q ⟨G, s, M, S, N, p⟩ => ⟨G, s, M, S, N, Post.bind p fun v M1 G1 H1 x e1 S1 r1 p1 => ?_⟩⟩
  cases v with
  | d y => exact p1 G1 H1 x .refl S1 r1
  | scr ns => exact p1 G1 H1 x .refl S1 r1
  | obj i =>
    obtain ⟨a, rfl, hi⟩ := r1
    dsimp only at p1
    split at p1
    · rename_i y ey
      exact p1 G1 H1 _ .refl S1 (S1.obj i a _ hi ey)
    · rename_i vs ev
      split at p1
      · rename_i ds ed
        exact frz_ok S1 hi ev ed p1
      · exact p1.elim
    · exact p1.elim

/-! ### blocks -/
def SO.seq (o : SO) (f : SM) : SO := match o with
  | .nx s M => f s M
  | o => o
def Out.bindS {α : Type} (o : Out α) (s : Sl) (f : α → Mm → SO) : SO := match o with
  | .ok v M => f v M
  | .er e M => .er e s M
  | .bad => .bad
theorem PostS.bind {α β : Type} {K : PySem.W.Frag} {mg : Str → Option Value} {G : Gh} {σ : L2.St} {H : Hp} {R : Gh → Hp → β → α → Prop} {Q : β → Hp → Prop} {E : Ends} {o : Out α} {s : Sl} {f : α → Mm → SO} (N : SimS K G s σ H)
    (h : PostS K mg W G H E (o.bindS s f)) (k : ∀ v M' G' H' x, Ext G H G' H' → SimM K mg G' M' H' → R G' H' x v → PostS K mg W G' H' E (f v M') → Q x H') : Post K mg W G σ H R Q o := by
  cases o with
  | ok v M => exact fun G' H' x e S r => k v M G' H' x e S r (PostS.ext e h)
  | er x M => exact fun G' H' c d e S r => h G' H' σ c d e S (N.ext e) r
  | bad => exact h
def sNil : SM := fun s M => .nx s M
def sSeq (a b : SM) : SM := fun s M => (a s M).seq b
theorem sss_nil : SSs X W [] sNil := ⟨pssImp pss_nil fun D σ H ⟨G, s, M, S, N, p⟩ => p G H σ .refl S N⟩
theorem sss_cons {st : Stmt} {rest : List Stmt} {a b : SM} (h : SS X W st a) (h2 : SSs X W rest b) : SSs X W (st :: rest) (sSeq a b) := by
  refine ⟨pssImp (pss_cons h.ps h2.pss) fun D σ H ⟨G, s, M, S, N, p⟩ => ⟨G, s, M, S, N, ?_⟩⟩
  have p : PostS X.K X.mg W G H D ((a s M).seq b) := p
  cases e : a s M with
  | nx s1 M1 =>
    rw [e] at p
    exact fun G' H' σ' e' S' N' => ⟨G', s1, M1, S', N', PostS.ext e' p⟩
  | rt v M1 => rw [e] at p; exact p
  | bk s1 M1 => rw [e] at p; exact p
  | ct s1 M1 => rw [e] at p; exact p
  | er x s1 M1 => rw [e] at p; exact p
  | bad => rw [e] at p; exact p
theorem sss_one {st : Stmt} {a : SM} (h : SS X W st a) : SSs X W [st] a := ⟨pss_one h.ps⟩
theorem ss_pass {pos : Pos} : SS X W (.Pass pos) sNil := ⟨psImp ps_pass fun D σ H ⟨G, s, M, S, N, p⟩ => p G H σ .refl S N⟩
def sBrk : SM := fun s M => .bk s M
def sCnt : SM := fun s M => .ct s M
theorem ss_break {pos : Pos} : SS X W (.Break pos) sBrk := ⟨psImp ps_break fun D σ H ⟨G, s, M, S, N, p⟩ => p G H σ .refl S N⟩
theorem ss_continue {pos : Pos} : SS X W (.Continue pos) sCnt := ⟨psImp ps_continue fun D σ H ⟨G, s, M, S, N, p⟩ => p G H σ .refl S N⟩
theorem ss_doc {x j pos pos'} : SS X W (.Expr (.Constant (.str x) j pos) pos') sNil := ⟨psImp ps_doc fun D σ H ⟨G, s, M, S, N, p⟩ => p G H σ .refl S N⟩
def sDrop (m : EM) : SM := fun s M => (m s M).bindS s fun _ M1 => .nx s M1
theorem ss_expr {e : Expr} {pos : Pos} {m : EM} (h : SE X W e m) (hs : swapsWith e none pos.line X.env = pure false := by rfl) : SS X W (.Expr e pos) (sDrop m) :=
  ⟨psImp (ps_expr h.pe hs) fun D σ H ⟨G, s, M, S, N, p⟩ => ⟨G, s, M, S, N, PostS.bind N p fun v M1 G1 H1 x e1 S1 r1 p1 => p1 G1 H1 σ .refl S1 (N.ext e1)⟩⟩
def sRet (m : EM) : SM := fun s M => (m s M).bindS s fun v M1 => .rt v M1
theorem ss_ret {e : Expr} {pos : Pos} {m : EM} (h : SE X W e m) : SS X W (.Return (some e) pos) (sRet m) :=
  ⟨psImp (ps_ret h.pe) fun D σ H ⟨G, s, M, S, N, p⟩ => ⟨G, s, M, S, N, PostS.bind N p fun v M1 G1 H1 x e1 S1 r1 p1 => p1 G1 H1 x .refl S1 r1⟩⟩
def sRetN : SM := fun s M => .rt (.d .none) M
theorem ss_retN {pos : Pos} : SS X W (.Return none pos) sRetN := ⟨psImp ps_retN fun D σ H ⟨G, s, M, S, N, p⟩ => p G H _ .refl S RV.non⟩
def sIf (c : TM) (a b : SM) : SM := fun s M => (c s M).bindS s fun k M1 => if k = true then a s M1 else b s M1
theorem ss_if {c : Expr} {a b : List Stmt} {pos : Pos} {mc : TM} {ma mb : SM} (hc : ST X W c mc) (ha : SSs X W a ma) (hb : SSs X W b mb) : SS X W (.If c a b pos) (sIf mc ma mb) := by
  refine ⟨psImp (ps_if hc.pt ha.pss hb.pss) fun D σ H ⟨G, s, M, S, N, p⟩ => ⟨G, s, M, S, N, PostS.bind N p fun v M1 G1 H1 x e1 S1 r1 p1 => ?_⟩⟩
  subst r1
  cases x with
  | true => exact ⟨G1, s, M1, S1, N.ext e1, p1⟩
  | false => exact ⟨G1, s, M1, S1, N.ext e1, p1⟩

/-! ### targets -/
abbrev GM := Val → Sl → Mm → Option (Sl × Mm)
abbrev GMs := List Val → Sl → Mm → Option (Sl × Mm)
def PostG (K : PySem.W.Frag) (mg : Str → Option Value) (G : Gh) (H : Hp) (Q : L2.St → Hp → Prop) : Option (Sl × Mm) → Prop
  | some (s', M') => ∀ G' H' σ', Ext G H G' H' → SimM K mg G' M' H' → SimS K G' s' σ' H' → Q σ' H'
  | none => False
theorem PostG.ext {K : PySem.W.Frag} {mg : Str → Option Value} {G G1 : Gh} {H H1 : Hp} {Q : L2.St → Hp → Prop} {o : Option (Sl × Mm)} (e : Ext G H G1 H1) (h : PostG K mg G H Q o) : PostG K mg G1 H1 Q o := by
  cases o with
  | none => exact h
  | some p => exact fun G' H' σ' e' => h G' H' σ' (e.trans e')
def TGm (K : PySem.W.Frag) (mg : Str → Option Value) (g : GM) : TG := fun x σ H Q => ∃ G s M v, SimM K mg G M H ∧ SimS K G s σ H ∧ RW K G H x v ∧ PostG K mg G H Q (g v s M)
def TGms (K : PySem.W.Frag) (mg : Str → Option Value) (g : GMs) : TGs := fun xs σ H Q => ∃ G s M vs, SimM K mg G M H ∧ SimS K G s σ H ∧ RWs K G H xs vs ∧ PostG K mg G H Q (g vs s M)
structure SG (X : Cx) (e : Expr) (m : GM) : Prop where
  pg : PG X e (TGm X.K X.mg m)
structure SGs (X : Cx) (e : List Expr) (m : GMs) : Prop where
  pgs : PGs X e (TGms X.K X.mg m)
theorem pgImp {e : Expr} {t t' : TG} (h : PG X e t) (i : ∀ v σ H Q, t' v σ H Q → t v σ H Q) : PG X e t' := ⟨fun pins s σ H v u Q I r q => h.run pins s σ H v u Q I r (i _ _ _ _ q)⟩
theorem pgsImp {e : List Expr} {t t' : TGs} (h : PGs X e t) (i : ∀ v σ H Q, t' v σ H Q → t v σ H Q) : PGs X e t' := ⟨fun pins s σ H v u Q I r q => h.run pins s σ H v u Q I r (i _ _ _ _ q)⟩
def gN (i : Nat) : GM := fun v s M => some (s.set i (some v), M)
theorem sg_name {i : Nat} {e : Expr} (h : PG X e (gName i)) : SG X e (gN i) :=
  ⟨pgImp h fun x σ H Q ⟨G, s, M, v, S, N, r, p⟩ => p G H _ .refl S (N.set r)⟩
def gsNil : GMs := fun vs s M => match vs with
  | [] => some (s, M)
  | _ => none
def gsCons (g : GM) (r : GMs) : GMs := fun vs s M => match vs with
  | v :: vs => (g v s M).bind fun p => r vs p.1 p.2
  | _ => none
theorem sgs_nil : SGs X [] gsNil := by
  refine ⟨pgsImp pgs_nil fun xs σ H Q ⟨G, s, M, vs, S, N, r, p⟩ => ?_⟩
  cases r with
  | nil => exact ⟨rfl, p G H σ .refl S N⟩
  | cons r1 r2 => exact p.elim
theorem sgs_cons {e : Expr} {es : List Expr} {g : GM} {gs : GMs} (h : SG X e g) (h2 : SGs X es gs) (hs : (assignEach (e :: es) X.env).map (·.2) = assign e X.env :: (assignEach es X.env).map (·.2) := by rfl) : SGs X (e :: es) (gsCons g gs) := by
  refine ⟨pgsImp (pgs_cons h.pg h2.pgs hs) fun xs σ H Q ⟨G, s, M, vs, S, N, r, p⟩ => ?_⟩
  cases r with
  | nil => exact p.elim
  | @cons x v xs vs r1 r2 =>
    refine ⟨x, xs, rfl, G, s, M, v, S, N, r1, ?_⟩
    have p : PostG X.K X.mg G H Q ((g v s M).bind fun p => gs vs p.1 p.2) := p
    cases e : g v s M with
    | none => rw [e] at p; exact p.elim
    | some q =>
      rw [e] at p
      exact fun G' H' σ' e' S' N' => ⟨G', q.1, q.2, vs, S', N', RWs.ext e' r2, PostG.ext e' p⟩
/-- a, b = a tuple -/
def gT (n : Nat) (g : GMs) : GM := fun v s M => match v with
  | .d (.tuple ds) => if ds.length = n then g (ds.map .d) s M else none
  | _ => none
theorem sg_tup {es : List Expr} {k : Nat} {pos : Pos} {g : GMs} {n : Nat} (hc : X.calm = true) (h : SGs X es g) (hn : (assignEach es X.env).length = n := by rfl) (hst : (assignEach es X.env).findIdx? (·.1) = none := by rfl) : SG X (.Tuple es k pos) (gT n g) := by
  refine ⟨pgImp (pg_tup hc h.pgs hn hst) fun x σ H Q ⟨G, s, M, v, S, N, r, p⟩ => ?_⟩
  unfold gT at p
  split at p
  · rename_i ds
    split at p
    · rename_i hl
      have r : RV X.K G.F H x (.tuple ds) := r
      cases r with
      | tup h1 h2 => exact ⟨_, _, rfl, SqT.of h1, by rw [h2.len]; exact hl, G, s, M, _, S, N, RVs.rws h2, p⟩
    · exact p.elim
  · exact p.elim

/-! ### assignments -/
def Out.asg (o : Out Val) (s : Sl) (g : GM) : SO := o.bindS s fun v M1 => match g v s M1 with
  | some (s', M') => .nx s' M'
  | none => .bad
def sAsg (m : EM) (g : GM) : SM := fun s M => (m s M).asg s g
theorem PostG.of {G : Gh} {H : Hp} {D : Ends} {o : Option (Sl × Mm)} (p : PostS X.K X.mg W G H D (match o with
  | some (s', M') => .nx s' M'
  | none => .bad)) : PostG X.K X.mg G H D.nx o := by
  cases o with
  | none => exact p
  | some q => exact p
theorem TSm.asg {m : EM} {g : GM} {D : Ends} {σ : L2.St} {H : Hp} (h : TSm X.K X.mg W (sAsg m g) D σ H) : tAsg (TEm X.K X.mg W m) (TGm X.K X.mg g) D σ H := by
  obtain ⟨G, s, M, S, N, p⟩ := h
  exact ⟨G, s, M, S, N, PostS.bind N p fun v M1 G1 H1 x e1 S1 r1 p1 => ⟨G1, s, M1, v, S1, N.ext e1, r1, PostG.of p1⟩⟩
theorem ss_asg {tg e : Expr} {m : EM} {g : GM} {pos : Pos} (he : SE X W e m) (hg : SG X tg g) (hs : swapsWithSole [tg] e pos.line X.env = pure false := by rfl) (hw : swappedStores [tg] e X.env = pure none := by rfl)
    (h1 : (assignEach [tg] X.env).map (·.2) = [assign tg X.env] := by rfl) : SS X W (.Assign [tg] e pos) (sAsg m g) :=
  ⟨psImp (ps_asg he.pe hg.pg hs hw h1) fun _ _ _ h => TSm.asg h⟩
/-- name = e, by the layer's own rule for the statement -/
theorem ss_setR {i : Nat} {st : Stmt} {m : EM} (h : PS X st (tAsg (TEm X.K X.mg W m) (gName i))) : SS X W st (sAsg m (gN i)) := by
  refine ⟨psImp h fun D σ H ⟨G, s, M, S, N, p⟩ => ⟨G, s, M, S, N, PostS.bind N p fun v M1 G1 H1 x e1 S1 r1 p1 => ?_⟩⟩
  exact p1 G1 H1 _ .refl S1 ((N.ext e1).set r1)
theorem ss_set {i : Nat} {x : Str} {e : Expr} {m : EM} {pos pos' : Pos} (hN : X.N.Nodup) (hi : X.N[i]? = some x) (hx : Loc X.env.scope x) (he : SE X W e m) (hs : swapsWith e (some (.Name x pos')) pos.line X.env = pure false := by rfl)
    (hf : X.fn x = true ∨ X.env.scope.names.lookup x = some .local := by first | exact .inl rfl | exact .inr rfl | assumption) : SS X W (.Assign [.Name x pos'] e pos) (sAsg m (gN i)) := ss_setR (ps_set hN hi hx he.pe hs hf)
/-- a, b = x, y -/
def sPar (is : List Nat) (a : AM) : SM := fun s M => (a s M).bindS s fun vs M1 => if vs.length = is.length then .nx ((is.zip vs).foldl (fun s p => s.set p.1 (some p.2)) s) M1 else .bad
theorem ss_par {i j : Nat} {st : Stmt} {ma : AM} (h : PS X st (tPar i j (TAm X.K X.mg W ma))) : SS X W st (sPar [i, j] ma) := by
  refine ⟨psImp h fun D σ H ⟨G, s, M, S, N, p⟩ => ⟨G, s, M, S, N, PostS.bind N p fun v M1 G1 H1 x e1 S1 r1 p1 => ?_⟩⟩
  split at p1
  · rename_i hl
    cases r1 with
    | nil => cases hl
    | cons r1 r2 =>
      cases r2 with
      | nil => cases hl
      | cons r2 r3 =>
        cases r3 with
        | cons _ _ => simp at hl
        | nil => exact ⟨_, _, rfl, p1 G1 H1 _ .refl S1 (((N.ext e1).set r1).set r2)⟩
  · exact p1.elim
theorem ss_par3 {i j l : Nat} {st : Stmt} {ma : AM} (h : PS X st (fun D σ H => TAm X.K X.mg W ma σ H fun vs H1 => ∃ u v w, vs = [u, v, w] ∧ D.nx (((σ.set i (some u)).set j (some v)).set l (some w)) H1)) : SS X W st (sPar [i, j, l] ma) := by
  refine ⟨psImp h fun D σ H ⟨G, s, M, S, N, p⟩ => ⟨G, s, M, S, N, PostS.bind N p fun v M1 G1 H1 x e1 S1 r1 p1 => ?_⟩⟩
  split at p1
  · rename_i hl
    cases r1 with
    | nil => cases hl
    | cons r1 r2 =>
      cases r2 with
      | nil => cases hl
      | cons r2 r3 =>
        cases r3 with
        | nil => cases hl
        | cons r3 r4 =>
          cases r4 with
          | cons _ _ => simp at hl
          | nil => exact ⟨_, _, _, rfl, p1 G1 H1 _ .refl S1 ((((N.ext e1).set r1).set r2).set r3)⟩
  · exact p1.elim
end
end Zm
namespace Zm
open PySem PySem.Spec PyProof.Rows L2

/-! ### what is walked -/
/-- J goes over vs, whatever has come behind -/
def Goes (K : PySem.W.Frag) (mg : Str → Option Value) (G : Gh) (H : Hp) (J : It) (vs : List Val) : Prop :=
  ∀ G' H', Ext G H G' H' → (∀ i, i < vs.length → J.go i H') ∧ J.stop vs.length H' ∧
    ∀ i v, vs[i]? = some v → ∀ M', SimM K mg G' M' H' → ∀ x H'', J.yld i H' x H'' → ∃ G'', Ext G' H' G'' H'' ∧ SimM K mg G'' M' H'' ∧ RW K G'' H'' x v
theorem Goes.ext {K : PySem.W.Frag} {mg : Str → Option Value} {G G1 : Gh} {H H1 : Hp} {J : It} {vs : List Val} (e : Ext G H G1 H1) (h : Goes K mg G H J vs) : Goes K mg G1 H1 J vs := fun G' H' e' => h G' H' (e.trans e')
def TIm (K : PySem.W.Frag) (mg : Str → Option Value) (W : WX) (m : AM) : TI := fun σ H R => ∃ G s M, SimM K mg G M H ∧ SimS K G s σ H ∧ Post K mg W G σ H (fun G' H' J vs => Goes K mg G' H' J vs) R (m s M)
structure SI (X : Cx) (W : WX) (tg e : Expr) (m : AM) : Prop where
  pi : PI X tg e (TIm X.K X.mg W m)
theorem piImp {X : Cx} {tg e : Expr} {t t' : TI} (h : PI X tg e t) (i : ∀ σ H Q, t' σ H Q → t σ H Q) : PI X tg e t' := ⟨fun pins s σ H Q I q => h.run pins s σ H Q I (i _ _ _ q)⟩
theorem piOr {X : Cx} {tg e : Expr} {t t' : TI} (h : PI X tg e t) (h' : PI X tg e t') : PI X tg e (fun σ H R => t σ H R ∨ t' σ H R) := ⟨fun pins s σ H Q I q => q.elim (h.run pins s σ H Q I) (h'.run pins s σ H Q I)⟩
theorem Ext.seqT {K : PySem.W.Frag} {G G' : Gh} {H H' : Hp} (e : Ext G H G' H') {a : Addr} {xs : List V} (h : SqT K H a xs) : SqT K H' a xs := SqT.ext e h

section
variable {X : Cx} {W : WX}
/-- the items of a list or a tuple held by value -/
def itK (v : Val) (M1 : Mm) : Out (List Val) := match v with
  | .d (.list ds) => .ok (ds.map .d) M1
  | .d (.tuple ds) => .ok (ds.map .d) M1
  | .scr ns => .ok (ns.map fun n => .d (.int n)) M1
  | _ => .bad
def mIt (m : EM) : AM := fun s M => (m s M).bind itK
end

/-! ### loops -/
def forL (g : GM) (b : SM) : List Val → SM
  | [], s, M => .nx s M
  | v :: vs, s, M => match g v s M with
    | some (s1, M1) => match b s1 M1 with
      | .nx s2 M2 => forL g b vs s2 M2
      | .ct s2 M2 => forL g b vs s2 M2
      | .bk s2 M2 => .nx s2 M2
      | o => o
    | none => .bad
def sFor (it : AM) (g : GM) (b : SM) : SM := fun s M => (it s M).bindS s fun vs M1 => forL g b vs s M1
section
variable {X : Cx} {W : WX}
theorem ss_for {tg iter : Expr} {body : List Stmt} {pos : Pos} {m : AM} {g : GM} {b : SM} (hp : PassesOwn (model X.prog X.w) X.A X.env X.xe) (hc : X.calm = true) (hi : SI X W tg iter m) (hg : SG X tg g) (hb : SSs X W body b)
    (hs : ∀ x, foldedSetIterable iter X.env x = pure x := by intro _; rfl) : SS X W (.For tg iter body [] pos) (sFor m g b) := by
  refine ⟨psImp (ps_for hp hc hi.pi hg.pg hb.pss hs) fun D σ H ⟨G, s, M, S, N, p⟩ => ⟨G, s, M, S, N, PostS.bind N p fun vs M1 G1 H1 J e1 S1 g1 p1 => ?_⟩⟩
  refine ⟨fun i m σ' H' => i + m = vs.length ∧ ∃ G' s' M', Ext G1 H1 G' H' ∧ SimM X.K X.mg G' M' H' ∧ SimS X.K G' s' σ' H' ∧ PostS X.K X.mg W G' H' D (forL g b (vs.drop i) s' M'),
    ⟨vs.length, by omega, G1, s, M1, .refl, S1, N.ext e1, p1⟩, ?_⟩
  rintro i m σ' H' ⟨hm, G', s', M', e', S', N', p'⟩
  obtain ⟨q1, q2, q3⟩ := g1 G' H' e'
  by_cases hl : i < vs.length
  · refine .inr ⟨q1 i hl, fun σ'' H'' => ∃ G'' s'' M'', Ext G1 H1 G'' H'' ∧ SimM X.K X.mg G'' M'' H'' ∧ SimS X.K G'' s'' σ'' H'' ∧ PostS X.K X.mg W G'' H'' D (forL g b (vs.drop (i + 1)) s'' M''), fun σ'' H'' h => ⟨m - 1, by omega, by omega, h⟩, fun x H'' y => ?_⟩
    have ev : vs[i]? = some vs[i] := List.getElem?_eq_getElem hl
    obtain ⟨G2, e2, S2, r2⟩ := q3 i _ ev M' S' x H'' y
    rw [List.drop_eq_getElem_cons hl] at p'
    unfold forL at p'
    refine ⟨G2, s', M', vs[i], S2, N'.ext e2, r2, ?_⟩
    cases eg : g vs[i] s' M' with
    | none => rw [eg] at p'; exact p'.elim
    | some q =>
      obtain ⟨s1, M1'⟩ := q
      rw [eg] at p'
      dsimp only at p'
      refine fun G3 H3 σ3 e3 S3 N3 => ⟨G3, s1, M1', S3, N3, ?_⟩
      have eAll : Ext G' H' G3 H3 := e2.trans e3
      cases eb : b s1 M1' with
      | nx s2 M2 =>
        rw [eb] at p'
        exact fun G4 H4 σ4 e4 S4 N4 => ⟨G4, s2, M2, (e'.trans eAll).trans e4, S4, N4, PostS.ext (eAll.trans e4) p'⟩
      | ct s2 M2 =>
        rw [eb] at p'
        exact fun G4 H4 σ4 e4 S4 N4 => ⟨G4, s2, M2, (e'.trans eAll).trans e4, S4, N4, PostS.ext (eAll.trans e4) p'⟩
      | bk s2 M2 => rw [eb] at p'; exact fun G4 H4 σ4 e4 => p' G4 H4 σ4 (eAll.trans e4)
      | rt v M2 => rw [eb] at p'; exact fun G4 H4 x e4 => p' G4 H4 x (eAll.trans e4)
      | er x s2 M2 => rw [eb] at p'; exact fun G4 H4 σ4 c d e4 => p' G4 H4 σ4 c d (eAll.trans e4)
      | bad => rw [eb] at p'; exact p'.elim
  · have hi' : i = vs.length := by omega
    rw [hi', List.drop_length] at p'
    exact .inl ⟨hi' ▸ q2, p' G' H' σ' .refl S' N'⟩
/-- at most n turns -/
def whN (c : TM) (b : SM) : Nat → SM
  | 0, _, _ => .bad
  | n + 1, s, M => (c s M).bindS s fun k M1 => if k = true then
      match b s M1 with
      | .nx s2 M2 => whN c b n s2 M2
      | .ct s2 M2 => whN c b n s2 M2
      | .bk s2 M2 => .nx s2 M2
      | o => o
    else .nx s M1
open Classical in
noncomputable def sWhile (c : TM) (b : SM) : SM := fun s M => if h : ∃ n, whN c b n s M ≠ .bad then whN c b (Classical.choose h) s M else .bad
theorem ss_while {c : Expr} {body : List Stmt} {pos : Pos} {mc : TM} {b : SM} (hp : PassesOwn (model X.prog X.w) X.A X.env X.xe) (hc : ST X W c mc) (hb : SSs X W body b) : SS X W (.While c body [] pos) (sWhile mc b) := by
  refine ⟨psImp (ps_while hp hc.pt hb.pss) fun D σ H ⟨G, s, M, S, N, p⟩ => ?_⟩
  obtain ⟨n0, p⟩ : ∃ n, PostS X.K X.mg W G H D (whN mc b n s M) := by
    unfold sWhile at p
    split at p
    · exact ⟨_, p⟩
    · exact p.elim
  refine ⟨fun n σ' H' => ∃ G' s' M', SimM X.K X.mg G' M' H' ∧ SimS X.K G' s' σ' H' ∧ PostS X.K X.mg W G' H' D (whN mc b n s' M'), ⟨n0, G, s, M, S, N, p⟩, ?_⟩
  rintro n σ' H' ⟨G', s', M', S', N', p'⟩
  cases n with
  | zero => exact p'.elim
  | succ n =>
    unfold whN at p'
    refine ⟨G', s', M', S', N', PostS.bind N' p' fun k M1 G1 H1 x e1 S1 r1 p1 => ?_⟩
    subst r1
    cases x with
    | false => exact p1 G1 H1 _ .refl S1 (N'.ext e1)
    | true =>
      rw [if_pos rfl] at p1 ⊢
      refine ⟨fun σ'' H'' => ∃ G'' s'' M'', SimM X.K X.mg G'' M'' H'' ∧ SimS X.K G'' s'' σ'' H'' ∧ PostS X.K X.mg W G'' H'' D (whN mc b n s'' M''), fun σ'' H'' h => ⟨n, by omega, h⟩, G1, s', M1, S1, N'.ext e1, ?_⟩
      cases eb : b s' M1 with
      | nx s2 M2 => rw [eb] at p1; exact fun G4 H4 σ4 e4 S4 N4 => ⟨G4, s2, M2, S4, N4, PostS.ext e4 p1⟩
      | ct s2 M2 => rw [eb] at p1; exact fun G4 H4 σ4 e4 S4 N4 => ⟨G4, s2, M2, S4, N4, PostS.ext e4 p1⟩
      | bk s2 M2 => rw [eb] at p1; exact p1
      | rt v M2 => rw [eb] at p1; exact p1
      | er x s2 M2 => rw [eb] at p1; exact p1
      | bad => rw [eb] at p1; exact p1.elim
end

/-! ### defs -/
abbrev Den := List Val → Mm → Out Val
def SpZ (K : PySem.W.Frag) (mg : Str → Option Value) (den : Den) : Sp := fun vs H Q E => ∃ G ws M, SimM K mg G M H ∧ RWs K G H vs ws ∧ Post K mg (fun c d _ H' => E c d H') G [] H (fun G' H' x v => RW K G' H' x v) Q (den ws M)
structure FnZ (P : Program) (w : World) (K : PySem.W.Frag) (mg : Str → Option Value) (base : Heap) (k : Nat) (f : Addr) (fd : FuncData) (ps : List Str) (den : Den) : Prop where
  run : ∀ (A : Around) (outer : List Env) (s : Shared) (H : Hp) (args : Args) (us : List Value) (vs : List V) (Q : VK) (E : XK), Room k A → A.guards = some [] → Env0 P w K mg base A outer s H → BindsTo s fd args (ps.zip us) → Vals vs us →
    vs.length = ps.length → SpZ K mg den vs H Q E → codeAny (model P w) A (.call (.ref f) args) (CR (L2.CX P w) outer P w H s Q E) s
theorem FnZ.mono {P : Program} {w : World} {K : PySem.W.Frag} {mg : Str → Option Value} {base : Heap} {j k : Nat} {f : Addr} {fd : FuncData} {ps : List Str} {den : Den} (F : FnZ P w K mg base j f fd ps den) (h : j ≤ k) : FnZ P w K mg base k f fd ps den :=
  ⟨fun A outer s H args us vs Q E hr => F.run A outer s H args us vs Q E (hr.mono h)⟩
/-- the names at the start -/
def slots0 (n : Nat) (vs : List Val) : Sl := vs.map some ++ List.replicate (n - vs.length) none
/-- a body, as a function of the arguments -/
def SO.out : SO → Out Val
  | .nx _ M => .ok (.d .none) M
  | .rt v M => .ok v M
  | .er e _ M => .er e M
  | _ => .bad
def body (n : Nat) (b : SM) : Den := fun vs M => (b (slots0 n vs) M).out
theorem simS0 {K : PySem.W.Frag} {G : Gh} {H : Hp} {N : List Str} {xs : List V} {vs : List Val} (r : RWs K G H xs vs) (h : xs.length ≤ N.length) : SimS K G (slots0 N.length vs) (L2.start N xs) H := by
  have hl := Paired.len r
  refine ⟨by simp [slots0, L2.start]; omega, fun i v e => ?_⟩
  unfold slots0 at e
  by_cases hi : i < vs.length
  · rw [List.getElem?_append_left (by simpa using hi)] at e
    have e2 : vs[i]? = some v := by
      rw [List.getElem?_map] at e
      cases q : vs[i]? with
      | none => rw [q] at e; cases e
      | some u => rw [q] at e; simpa using e
    obtain ⟨x, e3, e4⟩ : ∃ x, xs[i]? = some x ∧ RW K G H x v := by
      clear hi e h hl
      induction r generalizing i with
      | nil => simp at e2
      | cons h t ih =>
        cases i with
        | zero => simp at e2; subst e2; exact ⟨_, rfl, h⟩
        | succ i => simpa using ih i (by simpa using e2)
    refine ⟨x, ?_, e4⟩
    unfold L2.start
    rw [List.getElem?_append_left (by rw [List.length_map]; exact (List.getElem?_eq_some_iff.mp e3).1), List.getElem?_map, e3]
    rfl
  · rw [List.getElem?_append_right (by simpa using hi)] at e
    rw [List.getElem?_replicate] at e
    split at e <;> cases e
section
variable {P : Program} {w : World} {K : PySem.W.Frag} {mg : Str → Option Value} {base : Heap}
abbrev CxZ (P : Program) (w : World) (K : PySem.W.Frag) (mg : Str → Option Value) (base : Heap) (N : List Str) (qual : Str) (sc : Scope) (f : Addr) (cdv : Value) (A : Around) (outer : List Env) (s : Shared) (H : Hp) (E : XK) : Cx :=
  cxOf (L2.CX P w) P w K mg base N qual sc f cdv A outer s H E
theorem Fun.fnz {x qual : Str} {st : Stmt} {f : Addr} {fd : FuncData} {N ps : List Str} {k : Nat} {b : SM} (F : Fun K x qual st f fd) (S : FnScope N ps (defScope st)) (hps : ps.length ≤ N.length)
    (hbody : ∀ (cdv : Value) (A : Around) (outer : List Env) (s : Shared) (H : Hp) (E : XK), Room k (A.deeper (envOfC qual (defScope st) s.heap.objs.size f cdv)) → (CxZ P w K mg base N qual (defScope st) f cdv A outer s H E).A.guards = some [] →
      SSs (CxZ P w K mg base N qual (defScope st) f cdv A outer s H E) (fun c d _ H' => E c d H') (defBody st) b) : FnZ P w K mg base (k + 1) f fd ps (body N.length b) := by
  obtain ⟨oc, od, kV, doc, pm, an, cdv, ct, osl, rfl, lk, hcd⟩ := F.ex
  refine ⟨fun A outer s H args us vs Q E hr hG e0 hb r hlen hsp => ?_⟩
  let sp : Sp := fun vs' H' Q' E' => SpZ K mg (body N.length b) vs' H' Q' E' ∧ vs'.length = ps.length
  have key : ∀ (A' : Around), A'.guards = some [] → Room (k + 1) A' → Env0 P w K mg base A' outer s H → codeAny (model P w) A' (.call (.ref f) args) (CR (L2.CX P w) outer P w H s Q E) s := by
    intro A' hG' hr' e0'
    have KX : K.In s.heap := e0'.mod.kin.keeps fun b o e => (e0'.bs b o e).1
    have lim : s.heap.NoLimit := e0'.mod.nolimit.keeps fun b o e => (e0'.bs b o e).1
    have hkd : ∀ y ∈ ps.zip us, (defScope st).names.lookup y.1 = some .local ∨ ((defScope st).names.lookup y.1 = some .cell ∧ ((cellsFrom (s.heap.objs.size + 1) (defScope st).names []).lookup y.1).isSome = true) := by
      rintro ⟨n, v⟩ hy
      rcases S.par n (List.of_mem_zip hy).1 with q | q
      · exact Or.inl q
      · exact Or.inr ⟨q, PySem.W.cellsFrom_some _ _ _ (.inl q)⟩
    refine codeAny_call_function hr'.depth (KX _ _ lk) rfl S.co S.gen rfl (PySem.W.codeRec_of KX hcd) (hb _ _ _ _ ?_)
    refine wpAny_newFunctionEnv_cells S.kind hkd fun env he s1 xx => ?_
    subst he
    refine ⟨lim.keeps xx.toInCall.keep, codeAny_func ?_⟩
    have I : Inv (CxZ P w K mg base N qual (defScope st) f cdv A' outer s H E) [] (L2.start N vs) H s1 := inv_start S hr'.hd e0' hlen r xx
    have SB := hbody cdv A' outer s H E (hr'.deeper _) (by first | exact hG' | (simpa [cxOf, Around.deeper, Around.under, pushGuards, Code.guards] using hG'))
    obtain ⟨G, ws, M, Sm, rw_, hpost⟩ := hsp
    have rn := (SB.pss.run [] s1 (L2.start N vs) H { nx := fun _ H' => Q .non H', rt := Q } I ⟨G, _, M, Sm, simS0 rw_ (by omega), by
      unfold body at hpost
      cases q : b (slots0 N.length ws) M with
      | nx s2 M2 => rw [q] at hpost; exact fun G' H' σ' e' S' N' => hpost G' H' _ e' S' RV.non
      | rt v M2 => rw [q] at hpost; exact hpost
      | bk s2 M2 => rw [q] at hpost; exact hpost.elim
      | ct s2 M2 => rw [q] at hpost; exact hpost.elim
      | er x s2 M2 => rw [q] at hpost; exact fun G' H' σ' c d e' S' N' => hpost G' H' c d e' S'
      | bad => rw [q] at hpost; exact hpost.elim⟩)
    refine wpAny_mono rn (fun fl s' hs => ?_) fun e s' hs => hs
    have fin : ∀ {σ' : L2.St} {H' : Hp} {v : V} {u : Value}, Inv (CxZ P w K mg base N qual (defScope st) f cdv A' outer s H E) [] σ' H' s' → RelV v u → Q v H' → CE outer P w H s Q u s' := by
      intro σ' H' v u J rv q
      exact ⟨v, H', J.os, J.bare, J.base, J.hok, rv, q⟩
    cases fl with
    | next =>
      obtain ⟨σ', H', J, q⟩ := hs
      exact fin (v := V.non) (u := Value.none) J rfl q
    | ret u =>
      obtain ⟨v, σ', H', J, rv, q⟩ := hs
      exact fin J rv q
    | brk => exact False.elim (let ⟨_, _, _, q⟩ := hs; q)
    | cont => exact False.elim (let ⟨_, _, _, q⟩ := hs; q)
  exact key A hG hr e0
end
/-! ### calls -/
section
variable {X : Cx} {W : WX} {k : Nat} {f : Addr} {fd : FuncData} {ps : List Str} {den : Den} {x : Str} {p pos : Pos} {e : Expr} {es : List Expr} {ms mk : AM}
theorem run_z {pins : List (Addr × Obj)} {σ : L2.St} {H : Hp} {s : Shared} {Q : VK} {args : Args} {us : List Value} {vs : List V} (F : FnZ X.prog X.w X.K X.mg X.base k f fd ps den) (hr : Room k X.A) (hG : X.A.guards = some []) (tk : Takes X W)
    (hb : BindsTo s fd args (ps.zip us)) (hl : vs.length = ps.length) (I : Inv X pins σ H s) (r : Vals vs us) (h : SpZ X.K X.mg den vs H Q (fun c d H' => W c d σ H')) : codeAny (model X.prog X.w) X.A (.call (.ref f) args) (fun r s' => match r with
      | .ok (.ret u) => EP X pins σ Q u s'
      | .ok _ => False
      | .error e => X.xe e s') s := by
  refine codeAny_mono (F.run X.A X.stack s H args us vs Q _ hr hG I.env0 hb r hl h) fun r s' hq => ?_
  cases r with
  | error e => exact passAt tk σ pins H s e s' I hq
  | ok fl =>
    cases fl with
    | ret u => exact I.after hq
    | next => exact hq
    | brk => exact hq
    | cont => exact hq
def mCall (n : Nat) (den : Den) (ms : AM) : EM := fun s M => (ms s M).bind fun vs M1 => if vs.length = n then den vs M1 else .bad
theorem SpZ.of {G : Gh} {H : Hp} {M : Mm} {σ : L2.St} {vs : List V} {ws : List Val} {Q : VK} (S : SimM X.K X.mg G M H) (r : RWs X.K G H vs ws) (p : Post X.K X.mg W G σ H (fun G' H' x v => RW X.K G' H' x v) Q (den ws M)) :
    SpZ X.K X.mg den vs H Q (fun c d H' => W c d σ H') := by
  refine ⟨G, ws, M, S, r, ?_⟩
  cases q : den ws M with
  | ok v M' => rw [q] at p; exact p
  | er e M' => rw [q] at p; exact p
  | bad => rw [q] at p; exact p
theorem callZ {pins : List (Addr × Obj)} {σ : L2.St} {H : Hp} {s : Shared} {Q : VK} {us : List Value} {vs : List V} {kw : List (Str × Value)} {ws : List Value} (F : FnZ X.prog X.w X.K X.mg X.base k f fd ps den) (hr : Room k X.A) (hG : X.A.guards = some []) (tk : Takes X W)
    (b : BindsTo s fd ⟨us, kw⟩ (ps.zip ws)) (hl : vs.length = ps.length) (I : Inv X pins σ H s) (r : Vals vs ws) (q : SpZ X.K X.mg den vs H Q (fun c d H' => W c d σ H')) : wpAny (model X.prog X.w) X.A (call (.ref f) us kw) (EP X pins σ Q) X.xe s :=
  wpAny_call (codeAny_mono (run_z F hr hG tk b hl I r q) fun r s' hq => by
    cases r with
    | error e => exact hq
    | ok fl =>
      cases fl with
      | ret u => exact hq
      | next => exact hq.elim
      | brk => exact hq.elim
      | cont => exact hq.elim)
theorem se_call {n : Nat} (F : FnZ X.prog X.w X.K X.mg X.base k f fd ps den) (hr : Room k X.A) (hG : X.A.guards = some []) (tk : Takes X W) (hg : Gl X x) (hm : X.mg x = some (.ref f)) (hk : PySem.W.keepIn X.K (.ref f) = true) (hb : Binds X.K fd ps [])
    (ha : SA X W (e :: es) ms) (hn : ps.length = n := by rfl) (hdb : (x == ("__debug__" : Str)) = false := by decide) (he : starEach (e :: es) X.env = (false, eval e X.env) :: starEach es X.env := by rfl)
    (hpl : (backTo pos (starEach es X.env)).any (·.1) = false := by rfl) : SE X W (.Call (.Name x p) (e :: es) [] pos) (mCall n den ms) := by
  refine ⟨⟨fun pins s σ H Q I ⟨G, sl, M, S, N, h⟩ => ?_⟩⟩
  refine wpAny_Call_Name_kw (ld_glob I hg hm ?_ hdb)
  have h' : TAm X.K X.mg W ms σ H (fun vs H1 => vs.length = ps.length ∧ SpZ X.K X.mg den vs H1 Q (fun c d H' => W c d σ H')) := by
    refine ⟨G, sl, M, S, N, Post.bind h fun vs M1 G1 H1 xs e1 S1 r1 p1 => ?_⟩
    split at p1
    · rename_i hv
      exact ⟨by rw [Paired.len r1, hn]; exact hv, SpZ.of S1 r1 p1⟩
    · exact p1.elim
  refine PySem.W.callWith_K (h₀ := X.base) I.ok.mod.kin hk (thn (ha.pa.run pos pins s σ H _ I h') fun us s1 ⟨vs, H1, I1, r, hl, q⟩ => ⟨I1.kIn, ?_⟩) he hpl
  have hu : us.length = ps.length := by rw [← r.length]; exact hl
  have b := hb s1 us I1.kIn (by rw [List.append_nil]; exact hu)
  rw [List.append_nil] at b
  exact callZ F hr hG tk b hl I1 r q
theorem se_call0 (F : FnZ X.prog X.w X.K X.mg X.base k f fd [] den) (hr : Room k X.A) (hG : X.A.guards = some []) (tk : Takes X W) (hg : Gl X x) (hm : X.mg x = some (.ref f)) (hk : PySem.W.keepIn X.K (.ref f) = true) (hb : Binds X.K fd [] [])
    (hdb : (x == ("__debug__" : Str)) = false := by decide) : SE X W (.Call (.Name x p) [] [] pos) (mCall 0 den mNil) := by
  refine ⟨⟨fun pins s σ H Q I ⟨G, sl, M, S, N, h⟩ => ?_⟩⟩
  refine wpAny_Call_Name_kw (ld_glob I hg hm ?_ hdb)
  exact PySem.W.callWith_K0 I.kIn hk (callZ (us := []) (vs := []) F hr hG tk (hb s [] I.kIn rfl) rfl I .nil (SpZ.of (G := G) (M := M) (ws := []) S .nil h))
/-- keywords: ix tells which of the written values comes first, second, .. -/
def pickBy {α : Type} (ix : List Nat) (l : List α) : List α := ix.filterMap fun i => l[i]?
theorem pickBy_rel {α β : Type} {F : α → β → Prop} {l : List α} {m : List β} (r : Paired F l m) (ix : List Nat) : Paired F (pickBy ix l) (pickBy ix m) := by
  have at_ : ∀ i : Nat, (l[i]? = none ∧ m[i]? = none) ∨ ∃ a b, l[i]? = some a ∧ m[i]? = some b ∧ F a b := by
    induction r with
    | nil => intro i; exact .inl ⟨by simp, by simp⟩
    | cons h t ih =>
      intro i
      cases i with
      | zero => exact .inr ⟨_, _, rfl, rfl, h⟩
      | succ i => simpa using ih i
  induction ix with
  | nil => exact .nil
  | cons i ix ih =>
    unfold pickBy at ih ⊢
    rcases at_ i with ⟨h1, h2⟩ | ⟨a, b, h1, h2, h3⟩
    · rw [List.filterMap_cons_none h1, List.filterMap_cons_none h2]; exact ih
    · rw [List.filterMap_cons_some h1, List.filterMap_cons_some h2]; exact .cons h3 ih
structure SK (X : Cx) (W : WX) (kws : List Keyword) (m : AM) : Prop where
  pk : PK X kws (TAm X.K X.mg W m)
theorem pkImp {e : List Keyword} {t t' : TA} (h : PK X e t) (i : ∀ σ H Q, t' σ H Q → t σ H Q) : PK X e t' := ⟨fun pos pins s σ H Q I q => h.run pos pins s σ H Q I (i _ _ _ q)⟩
theorem sk_nil : SK X W [] mNil := ⟨pkImp pk_nil fun σ H Q ⟨G, s, M, S, N, p⟩ => p G H [] .refl S .nil⟩
theorem sk_cons {nm : Option Str} {e : Expr} {kpos : Pos} {kws : List Keyword} {m : EM} {ms : AM} (ha : SE X W e m) (hr : SK X W kws ms) : SK X W (⟨nm, e, kpos⟩ :: kws) (mCons m ms) := by
  refine ⟨pkImp (pk_cons ha.pe hr.pk) fun σ H Q ⟨G, s, M, S, N, p⟩ => ?_⟩
  refine ⟨G, s, M, S, N, Post.bind p fun v M1 G1 H1 x e1 S1 r1 p1 => ?_⟩
  refine ⟨G1, s, M1, S1, N.ext e1, Post.bind p1 fun w M2 G2 H2 y e2 S2 r2 p2 => ?_⟩
  exact p2 G2 H2 _ .refl S2 (.cons (RW.ext e2 r1) r2)
def mCallK (np nk : Nat) (den : Den) (ix : List Nat) (ms mk : AM) : EM := fun s M => (ms s M).bind fun vs M1 => (mk s M1).bind fun us M2 => if vs.length = np ∧ us.length = nk then den (pickBy ix (vs ++ us)) M2 else .bad
theorem Paired.app {α β : Type} {F : α → β → Prop} : ∀ {l l' : List α} {m m' : List β}, Paired F l m → Paired F l' m' → Paired F (l ++ l') (m ++ m')
  | _, _, _, _, .nil, h => h
  | _, _, _, _, .cons a t, h => .cons a (Paired.app t h)
/-- how keywords bind -/
def KBz (fd : FuncData) (ps ks : List Str) (np nk : Nat) (ix : List Nat) : Prop :=
  ∀ (us ws : List Value), us.length = np → ws.length = nk → bindArgs fd ⟨us, ks.zip ws⟩ = pure (ps.zip (pickBy ix (us ++ ws))) ∧ (pickBy ix (us ++ ws)).length = ps.length
theorem kbz {K : PySem.W.Frag} {x qual : Str} {st : Stmt} {f : Addr} {fd : FuncData} {ps ks : List Str} {np nk : Nat} {ix : List Nat} (F : Fun K x qual st f fd)
    (h : ∀ (kV doc pm : Value) (an : Option Addr) (cdv ct : Value) (us ws : List Value), us.length = np → ws.length = nk → bindArgs (PySem.W.fnOf x qual (defArgs st) (defBody st) (defScope st) .none kV doc pm an cdv ct) ⟨us, ks.zip ws⟩ = pure (ps.zip (pickBy ix (us ++ ws))) ∧ (pickBy ix (us ++ ws)).length = ps.length) : KBz fd ps ks np nk ix := by
  obtain ⟨oc, od, kV, doc, pm, an, cdv, ct, osl, rfl, lk, hcd⟩ := F.ex
  exact h kV doc pm an cdv ct
theorem callK_core {np nk : Nat} {ks : List Str} {ix : List Nat} {pins : List (Addr × Obj)} {σ : L2.St} {H1 : Hp} {s1 : Shared} {Q : VK} {us ws : List Value} {vs zs : List V} {G : Gh} {M : Mm} {as bs : List Val} (F : FnZ X.prog X.w X.K X.mg X.base k f fd ps den) (hr : Room k X.A) (hG : X.A.guards = some []) (tk : Takes X W)
    (hb : KBz fd ps ks np nk ix) (I1 : Inv X pins σ H1 s1) (rv : Vals vs us) (rz : Vals zs ws) (S : SimM X.K X.mg G M H1) (ra : RWs X.K G H1 vs as) (rb : RWs X.K G H1 zs bs)
    (p : Post X.K X.mg W G σ H1 (fun G' H' x v => RW X.K G' H' x v) Q (if as.length = np ∧ bs.length = nk then den (pickBy ix (as ++ bs)) M else .bad)) : wpAny (model X.prog X.w) X.A (call (.ref f) us (ks.zip ws)) (EP X pins σ Q) X.xe s1 := by
  split at p
  · rename_i hl
    obtain ⟨h1, h2⟩ := hb us ws (by rw [← rv.length, Paired.len ra]; exact hl.1) (by rw [← rz.length, Paired.len rb]; exact hl.2)
    have rp : Vals (pickBy ix (vs ++ zs)) (pickBy ix (us ++ ws)) := pickBy_rel (Paired.app rv rz) ix
    exact callZ F hr hG tk (.of_eq h1) (by rw [rp.length]; exact h2) I1 rp (SpZ.of S (pickBy_rel (Paired.app ra rb) ix) p)
  · exact p.elim
theorem se_callK {np nk : Nat} {ks : List Str} {ix : List Nat} {kws : List Keyword} (F : FnZ X.prog X.w X.K X.mg X.base k f fd ps den) (hr : Room k X.A) (hG : X.A.guards = some []) (tk : Takes X W) (hg : Gl X x) (hm : X.mg x = some (.ref f)) (hk : PySem.W.keepIn X.K (.ref f) = true) (hb : KBz fd ps ks np nk ix)
    (ha : SA X W (e :: es) ms) (hkw : SK X W kws mk)
    (hall : (backToKw pos (keywordEach kws X.env)).all (·.1.isSome) = true := by rfl) (hks : (backToKw pos (keywordEach kws X.env)).filterMap (·.1) = ks := by rfl)
    (hdb : (x == ("__debug__" : Str)) = false := by decide) (he : starEach (e :: es) X.env = (false, eval e X.env) :: starEach es X.env := by rfl)
    (hpl : ((backTo pos (starEach (e :: es) X.env)).any (·.1) || (backToKw pos (keywordEach kws X.env)).any (·.1.isNone)) = false := by rfl) : SE X W (.Call (.Name x p) (e :: es) kws pos) (mCallK np nk den ix ms mk) := by
  refine ⟨⟨fun pins s σ H Q I ⟨G, sl, M, S, N, h⟩ => ?_⟩⟩
  refine wpAny_Call_Name_kw (ld_glob I hg hm ?_ hdb)
  have h' : TAm X.K X.mg W ms σ H (fun vs H1 => TAm X.K X.mg W mk σ H1 fun zs H2 => ∃ G2 M2 as bs, SimM X.K X.mg G2 M2 H2 ∧ RWs X.K G2 H2 vs as ∧ RWs X.K G2 H2 zs bs ∧ Post X.K X.mg W G2 σ H2 (fun G' H' x v => RW X.K G' H' x v) Q (if as.length = np ∧ bs.length = nk then den (pickBy ix (as ++ bs)) M2 else .bad)) := by
    refine ⟨G, sl, M, S, N, Post.bind h fun as M1 G1 H1 xs e1 S1 r1 p1 => ?_⟩
    exact ⟨G1, sl, M1, S1, N.ext e1, Post.bind p1 fun bs M2 G2 H2 ys e2 S2 r2 p2 => ⟨G2, M2, as, bs, S2, RWs.ext e2 r1, r2, p2⟩⟩
  refine PySem.W.callWith_KW (h₀ := X.base) I.ok.mod.kin hk hall (thn (ha.pa.run pos pins s σ H _ I h') fun us s1 ⟨vs, H1, I1, r, q⟩ => ?_) hpl he
  refine thn (hkw.pk.run pos pins s1 σ H1 _ I1 q) fun ws s2 ⟨zs, H2, I2, rz, G2, M2, as, bs, S2, ra, rb, q2⟩ => ⟨I2.kIn, ?_⟩
  rw [hks]
  exact callK_core F hr hG tk hb I2 r rz S2 ra rb q2
theorem se_callK0 {nk : Nat} {ks : List Str} {ix : List Nat} {kws : List Keyword} (F : FnZ X.prog X.w X.K X.mg X.base k f fd ps den) (hr : Room k X.A) (hG : X.A.guards = some []) (tk : Takes X W) (hg : Gl X x) (hm : X.mg x = some (.ref f)) (hk : PySem.W.keepIn X.K (.ref f) = true) (hb : KBz fd ps ks 0 nk ix)
    (hkw : SK X W kws mk)
    (hall : (backToKw pos (keywordEach kws X.env)).all (·.1.isSome) = true := by rfl) (hks : (backToKw pos (keywordEach kws X.env)).filterMap (·.1) = ks := by rfl)
    (hdb : (x == ("__debug__" : Str)) = false := by decide)
    (hpl : ((backTo pos (starEach [] X.env)).any (·.1) || (backToKw pos (keywordEach kws X.env)).any (·.1.isNone)) = false := by rfl) : SE X W (.Call (.Name x p) [] kws pos) (mCallK 0 nk den ix mNil mk) := by
  refine ⟨⟨fun pins s σ H Q I ⟨G, sl, M, S, N, h⟩ => ?_⟩⟩
  refine wpAny_Call_Name_kw (ld_glob I hg hm ?_ hdb)
  have h' : TAm X.K X.mg W mk σ H fun zs H2 => ∃ G2 M2 bs, SimM X.K X.mg G2 M2 H2 ∧ RWs X.K G2 H2 zs bs ∧ Post X.K X.mg W G2 σ H2 (fun G' H' x v => RW X.K G' H' x v) Q (if ([] : List Val).length = 0 ∧ bs.length = nk then den (pickBy ix ([] ++ bs)) M2 else .bad) :=
    ⟨G, sl, M, S, N, Post.bind (show Post _ _ _ _ _ _ _ _ ((mk sl M).bind _) from h) fun bs M2 G2 H2 ys e2 S2 r2 p2 => ⟨G2, M2, bs, S2, r2, p2⟩⟩
  refine PySem.W.callWith_KW0 (h₀ := X.base) I.ok.mod.kin hk hall (thn (hkw.pk.run pos pins s σ H _ I h') fun ws s2 ⟨zs, H2, I2, rz, G2, M2, bs, S2, rb, q2⟩ => ⟨I2.kIn, ?_⟩) hpl
  rw [hks]
  exact callK_core (us := []) (vs := []) (as := []) F hr hG tk hb I2 .nil rz S2 .nil rb q2
end

/-! ### what a call has made for itself is forgotten -/
def Val.below (n : Nat) : Val → Bool
  | .obj i => decide (i < n)
  | _ => true
def MO.below (n : Nat) : MO → Bool
  | .frz _ => true
  | .lst vs => vs.all (Val.below n)
  | .dct kvs => kvs.all fun p => p.2.below n
  | .ins _ fs => fs.all fun p => p.2.below n
def cut (n : Nat) (M : Mm) : Mm := if (M.take n).all (MO.below n) then M.take n else M
def trim (den : Den) : Den := fun vs M => match den vs M with
  | .ok (.d x) M' => .ok (.d x) (cut M.length M')
  | .er e M' => .er e (cut M.length M')
  | o => o
section
variable {K : PySem.W.Frag} {mg : Str → Option Value} {G G' : Gh} {H : Hp}
theorem RW.cut {n : Nat} {x : V} {v : Val} (h : RW K G H x v) (b : v.below n = true) : RW K ⟨G.φ.take n, G.F⟩ H x v := by
  cases v with
  | d y => exact h
  | scr ns => exact h
  | obj i =>
    obtain ⟨a, e, q⟩ := h
    refine ⟨a, e, ?_⟩
    have hi : i < n := of_decide_eq_true b
    show (G.φ.take n)[i]? = some a
    rw [List.getElem?_take, if_pos hi]
    exact q
theorem RO.cut {n : Nat} {a : Addr} {o : MO} (h : RO K mg G H a o) (b : o.below n = true) : RO K mg ⟨G.φ.take n, G.F⟩ H a o := by
  have all : ∀ {xs : List V} {vs : List Val}, RWs K G H xs vs → vs.all (Val.below n) = true → RWs K ⟨G.φ.take n, G.F⟩ H xs vs := by
    intro xs vs r
    induction r with
    | nil => intro _; exact .nil
    | cons h t ih =>
      intro q
      rw [List.all_cons, Bool.and_eq_true] at q
      exact .cons (RW.cut h q.1) (ih q.2)
  have all2 : ∀ {κ : Type} {R : κ → κ × Val → V → Prop} {xs : List (κ × V)} {vs : List (κ × Val)}, True := trivial
  cases o with
  | frz x => exact h
  | lst vs => exact let ⟨h1, xs, h2, h3⟩ := h; ⟨h1, xs, h2, all h3 b⟩
  | dct kvs =>
    obtain ⟨h1, h2⟩ := h
    refine ⟨h1, ?_⟩
    have b : kvs.all (fun p => p.2.below n) = true := b
    rcases h2 with ⟨ys, h2, h3⟩ | ⟨ys, h2, h3⟩
    · refine .inl ⟨ys, h2, ?_⟩
      clear h2
      induction h3 with
      | nil => exact .nil
      | cons h t ih =>
        rw [List.all_cons, Bool.and_eq_true] at b
        exact .cons ⟨h.1, RW.cut h.2 b.1⟩ (ih b.2 b.2)
    · refine .inr ⟨ys, h2, ?_⟩
      clear h2
      induction h3 with
      | nil => exact .nil
      | cons h t ih =>
        rw [List.all_cons, Bool.and_eq_true] at b
        exact .cons ⟨h.1, RW.cut h.2 b.1⟩ (ih b.2 b.2)
  | ins C fs =>
    obtain ⟨h1, c, dx, ys, h0, h2, h3⟩ := h
    refine ⟨h1, c, dx, ys, h0, h2, ?_⟩
    have b : fs.all (fun p => p.2.below n) = true := b
    clear h2
    induction h3 with
    | nil => exact .nil
    | cons h t ih =>
      rw [List.all_cons, Bool.and_eq_true] at b
      exact .cons ⟨h.1, RW.cut h.2 b.1⟩ (ih b.2 b.2)
theorem SimM.cut {M M' : Mm} {H0 : Hp} (S0 : SimM K mg G M H0) (e : Ext G H0 G' H) (S : SimM K mg G' M' H) : ∃ G2, Ext G H0 G2 H ∧ SimM K mg G2 (cut M.length M') H ∧ G2.F = G'.F := by
  unfold Zm.cut
  split
  · rename_i hb
    obtain ⟨more, hm⟩ := e.φ
    have ht : G'.φ.take M.length = G.φ := by rw [hm, ← S0.len, List.take_left']; rfl
    refine ⟨⟨G'.φ.take M.length, G'.F⟩, ⟨⟨⟨[], by simp [ht]⟩, e.tup, e.frz, e.fix⟩, e.keep, fun a h => .inl (by rw [← ht]; exact h), e.Fnew⟩, ⟨?_, ?_, fun i a o h1 h2 => ?_, fun a h => ?_, S.fthere, S.sys⟩, rfl⟩
    · show (G'.φ.take M.length).length = (M'.take M.length).length
      rw [List.length_take, List.length_take, S.len]
    · exact List.Sublist.nodup (List.take_sublist _ _) S.nd
    · have h1 : (G'.φ.take M.length)[i]? = some a := h1
      rw [List.getElem?_take] at h1 h2
      split at h1
      · rename_i hi
        rw [if_pos hi] at h2
        refine RO.cut (S.obj i a o h1 h2) ?_
        rw [List.all_eq_true] at hb
        exact hb o (List.mem_of_getElem? (i := i) (by rw [List.getElem?_take, if_pos hi]; exact h2))
      · cases h1
    · exact S.there a (List.mem_of_mem_take h)
  · exact ⟨G', e, S, rfl⟩
end
theorem FnZ.trim {P : Program} {w : World} {K : PySem.W.Frag} {mg : Str → Option Value} {base : Heap} {k : Nat} {f : Addr} {fd : FuncData} {ps : List Str} {den : Den} (F : FnZ P w K mg base k f fd ps den) : FnZ P w K mg base k f fd ps (trim den) := by
  refine ⟨fun A outer s H args us vs Q E hr hG e0 hb r hl ⟨G, ws, M, S, rw_, p⟩ => F.run A outer s H args us vs Q E hr hG e0 hb r hl ⟨G, ws, M, S, rw_, ?_⟩⟩
  unfold Zm.trim at p
  cases q : den ws M with
  | bad => rw [q] at p; exact p
  | er x M' =>
    rw [q] at p
    intro G' H' c d e S' rx
    obtain ⟨G2, e2, S2, hF⟩ := SimM.cut S e S'
    refine p G2 H' c d e2 S2 ?_
    unfold RX at rx ⊢
    rw [hF]
    exact rx
  | ok v M' =>
    cases v with
    | d y =>
      rw [q] at p
      intro G' H' x e S' rx
      obtain ⟨G2, e2, S2, hF⟩ := SimM.cut S e S'
      refine p G2 H' x e2 S2 ?_
      show RV K G2.F H' x y
      rw [hF]
      exact rx
    | obj i => rw [q] at p; exact p
    | scr ns => rw [q] at p; exact p
end Zm
namespace Zm
open PySem PySem.Spec PyProof.Rows L2

/-! ### reading the items -/
def seqD (v : Val) (M : Mm) : Option (List PyData) := match v with
  | .d (.list ds) => some ds
  | .d (.tuple ds) => some ds
  | .scr ns => some (ns.map .int)
  | .obj i => match M[i]? with
    | some (.lst vs) => fzL vs M
    | _ => none
  | _ => none
def listD (v : Val) (M : Mm) : Option (List PyData) := match v with
  | .d (.tuple _) => none
  | v => seqD v M
section
variable {K : PySem.W.Frag} {mg : Str → Option Value} {G : Gh} {H : Hp} {M : Mm} {x : V} {v : Val} {ds : List PyData}
theorem rvs_ints : ∀ (ns : List Int), RVs K G.F H (ns.map V.int) (ns.map PyData.int)
  | [] => .nil
  | n :: ns => .cons (.int n) (rvs_ints ns)
theorem seqD_ok (S : SimM K mg G M H) (r : RW K G H x v) (h : seqD v M = some ds) : ∃ p xs, x = .ref p ∧ (SqL K H p xs ∨ H p = some (.tup xs)) ∧ RVs K G.F H xs ds := by
  unfold seqD at h
  split at h
  · cases h
    have r : RV K G.F H x (.list ds) := r
    cases r with
    | lst h0 h1 h2 => exact ⟨_, _, rfl, .inl (SqL.of h1), h2⟩
  · cases h
    have r : RV K G.F H x (.tuple ds) := r
    cases r with
    | tup h1 h2 => exact ⟨_, _, rfl, .inr h1, h2⟩
  · cases h
    obtain ⟨a, rfl, h⟩ := r
    exact ⟨a, _, rfl, .inl h.sql, rvs_ints _⟩
  · rename_i i
    obtain ⟨a, rfl, hi⟩ := r
    split at h
    · rename_i vs ev
      obtain ⟨nF, xs, hx, rx⟩ := S.obj i a _ hi ev
      exact ⟨a, xs, rfl, .inl (SqL.of hx), allD_ok h (rws_rd S rx)⟩
    · cases h
  · cases h
theorem listD_ok (S : SimM K mg G M H) (r : RW K G H x v) (h : listD v M = some ds) : ∃ p xs, x = .ref p ∧ SqL K H p xs ∧ RVs K G.F H xs ds := by
  cases v with
  | d y =>
    cases y with
    | tuple ds => cases h
    | list ds' =>
      cases h
      have r : RV K G.F H x (.list ds) := r
      cases r with
      | lst h0 h1 h2 => exact ⟨_, _, rfl, SqL.of h1, h2⟩
    | none => cases h
    | bool _ => cases h
    | int _ => cases h
    | str _ => cases h
    | dict _ => cases h
  | scr ns =>
    cases h
    obtain ⟨a, rfl, h⟩ := r
    exact ⟨a, _, rfl, h.sql, rvs_ints _⟩
  | obj i =>
    obtain ⟨a, rfl, hi⟩ := r
    have h : (match M[i]? with | some (.lst vs) => fzL vs M | _ => none) = some ds := h
    split at h
    · rename_i vs ev
      obtain ⟨nF, xs, hx, rx⟩ := S.obj i a _ hi ev
      exact ⟨a, xs, rfl, SqL.of hx, allD_ok h (rws_rd S rx)⟩
    · cases h
/-- a list that is really tracked as one -/
def trackD (v : Val) (M : Mm) : Option (List PyData) := match v with
  | .scr _ => none
  | v => listD v M
theorem trackD_ok (S : SimM K mg G M H) (r : RW K G H x v) (h : trackD v M = some ds) : ∃ p xs, x = .ref p ∧ H p = some (.lst xs) ∧ RVs K G.F H xs ds := by
  cases v with
  | scr ns => cases h
  | d y =>
    cases y with
    | tuple ds => cases h
    | list ds' =>
      cases h
      have r : RV K G.F H x (.list ds) := r
      cases r with
      | lst h0 h1 h2 => exact ⟨_, _, rfl, h1, h2⟩
    | none => cases h
    | bool _ => cases h
    | int _ => cases h
    | str _ => cases h
    | dict _ => cases h
  | obj i =>
    obtain ⟨a, rfl, hi⟩ := r
    have h : (match M[i]? with | some (.lst vs) => fzL vs M | _ => none) = some ds := h
    split at h
    · rename_i vs ev
      obtain ⟨nF, xs, hx, rx⟩ := S.obj i a _ hi ev
      exact ⟨a, xs, rfl, hx, allD_ok h (rws_rd S rx)⟩
    · cases h
theorem RVs.ints : ∀ {ns : List Int} {xs : List V}, RVs K G.F H xs (ns.map PyData.int) → xs = ns.map V.int
  | [], _, h => by cases h; rfl
  | n :: ns, _, h => by
    cases h with
    | cons h1 h2 =>
      cases h1
      rw [RVs.ints h2]
      rfl
end
/-- all ints -/
def allI : List PyData → Option (List Int)
  | [] => some []
  | .int i :: r => (allI r).map (i :: ·)
  | _ :: _ => none
theorem allI_ok : ∀ {ds : List PyData} {ns : List Int}, allI ds = some ns → ds = ns.map PyData.int
  | [], _, h => by cases h; rfl
  | .int i :: r, ns, h => by
    unfold allI at h
    cases q : allI r with
    | none => rw [q] at h; cases h
    | some ms => rw [q] at h; cases h; rw [allI_ok q]; rfl
  | .none :: _, _, h => by cases h
  | .bool _ :: _, _, h => by cases h
  | .str _ :: _, _, h => by cases h
  | .list _ :: _, _, h => by cases h
  | .tuple _ :: _, _, h => by cases h
  | .dict _ :: _, _, h => by cases h
theorem allI_map : ∀ (ns : List Int), allI (ns.map PyData.int) = some ns
  | [] => rfl
  | n :: ns => by simp [allI, allI_map ns]

/-! ### arithmetic -/
def vAdd (v w : Val) (M : Mm) : Out Val := match v, w with
  | .d (.int a), .d (.int b) => .ok (.d (.int (a + b))) M
  | .d (.str a), .d (.str b) => if fitsL (a.length + b.length) then .ok (.d (.str (a ++ b))) M else .bad
  | .d (.tuple a), .d (.tuple b) => if fitsL (a.length + b.length) then .ok (.d (.tuple (a ++ b))) M else .bad
  | v, w => match trackD v M, trackD w M with
    | some a, some b => if fitsL (a.length + b.length) then .ok (.d (.list (a ++ b))) M else .bad
    | _, _ => .bad
section
variable {X : Cx} {W : WX}
theorem oz_add : OpZ X (fun x y H Q => (rI0 fun i j => .int (i + j)) x y H Q ∨ (∃ i j, x = .str i ∧ y = .str j ∧ i.length + j.length ≤ sizeLine ∧ Q (.str (i ++ j)) H) ∨ rCatA X.K x y H Q ∨ rCat x y H Q) vAdd := by
  intro W G M σ H Q x y v w S r1 r2 p
  unfold vAdd at p
  split at p
  · rename_i a b
    have r1 : RV X.K G.F H x (.int a) := r1
    have r2 : RV X.K G.F H y (.int b) := r2
    cases r1; cases r2
    exact .inl ⟨a, b, rfl, rfl, p G H _ .refl S (RV.int _)⟩
  · rename_i a b
    have r1 : RV X.K G.F H x (.str a) := r1
    have r2 : RV X.K G.F H y (.str b) := r2
    cases r1; cases r2
    split at p
    · rename_i hf
      exact .inr (.inl ⟨a, b, rfl, rfl, fitsL_ok hf, p G H _ .refl S (RV.str _)⟩)
    · exact p.elim
  · rename_i a b
    split at p
    · rename_i hf
      have q1 := r1
      have q2 := r2
      have r1 : RV X.K G.F H x (.tuple a) := r1
      have r2 : RV X.K G.F H y (.tuple b) := r2
      cases r1 with
      | @tup pa xs _ h1 h2 =>
        cases r2 with
        | @tup pb ys _ g1 g2 =>
          refine .inr (.inr (.inl ⟨pa, pb, xs, ys, rfl, rfl, SqT.of h1, SqT.of g1, by rw [h2.len, g2.len]; exact fitsL_ok hf, fun e => ?_, fun _ e => ?_, fun _ _ z hz => ?_⟩))
          · subst e
            have : a = [] := by cases h2; rfl
            subst this
            exact p G H _ .refl S q2
          · subst e
            have : b = [] := by cases g2; rfl
            subst this
            rw [List.append_nil] at p
            exact p G H _ .refl S q1
          · obtain ⟨S2, e2⟩ := S.lay (o := .tup (xs ++ ys)) hz
            exact p G _ _ e2 S2 (RV.tup upd_same (RVs.append (RVs.ext e2 _ _ h2) (RVs.ext e2 _ _ g2)))
    · exact p.elim
  · split at p
    · rename_i a b ea eb
      split at p
      · rename_i hf
        obtain ⟨pa, xs, rfl, h1, h2⟩ := trackD_ok S r1 ea
        obtain ⟨pb, ys, rfl, g1, g2⟩ := trackD_ok S r2 eb
        refine .inr (.inr (.inr ⟨pa, pb, xs, ys, rfl, rfl, h1, g1, by rw [h2.len, g2.len]; exact fitsL_ok hf, fun z hz => ?_⟩))
        obtain ⟨S2, e2⟩ := S.layF (o := .lst (xs ++ ys)) hz
        exact p _ _ _ e2 S2 (RV.lst (.inl rfl) upd_same (RVs.append (RVs.ext e2 _ _ h2) (RVs.ext e2 _ _ g2)))
      · exact p.elim
    · exact p.elim
theorem se_add {a b : Expr} {ma mb : EM} {pos : Pos} (ha : SE X W a ma) (hb : SE X W b mb) : SE X W (.BinOp a .Add b pos) (mOp vAdd ma mb) :=
  se_op (OpR.or op_add (OpR.or op_add_str (OpR.or op_catA op_cat))) oz_add ha hb
/-- two ints -/
def vI (c : Int → Int → Bool) (f : Int → Int → Int) (v w : Val) (M : Mm) : Out Val := match v, w with
  | .d (.int a), .d (.int b) => if c a b then .ok (.d (.int (f a b))) M else .bad
  | _, _ => .bad
theorem oz_int {c : Int → Int → Bool} {f : Int → Int → Int} {C : Int → Int → Prop} (h : ∀ i j, c i j = true → C i j) : OpZ X (rI C fun i j => .int (f i j)) (vI c f) := by
  intro W G M σ H Q x y v w S r1 r2 p
  unfold vI at p
  split at p
  · rename_i a b
    have r1 : RV X.K G.F H x (.int a) := r1
    have r2 : RV X.K G.F H y (.int b) := r2
    cases r1; cases r2
    split at p
    · rename_i hc
      exact ⟨a, b, rfl, rfl, h _ _ hc, p G H _ .refl S (RV.int _)⟩
    · exact p.elim
  · exact p.elim
theorem oz_int0 {f : Int → Int → Int} : OpZ X (rI0 fun i j => .int (f i j)) (vI (fun _ _ => true) f) := by
  intro W G M σ H Q x y v w S r1 r2 p
  unfold vI at p
  split at p
  · rename_i a b
    have r1 : RV X.K G.F H x (.int a) := r1
    have r2 : RV X.K G.F H y (.int b) := r2
    cases r1; cases r2
    exact ⟨a, b, rfl, rfl, p G H _ .refl S (RV.int _)⟩
  · exact p.elim
abbrev vSub := vI (fun _ _ => true) fun i j => i - j
def smallI (i : Int) : Bool := decide (-18446744073709551616 < i) && decide (i < 18446744073709551616)
abbrev vMul := vI (fun i j => smallI i || smallI j) fun i j => i * j
abbrev vDiv := vI (fun _ j => decide (j ≠ 0) && decide (j.natAbs < 1073741824)) fun i j => i.fdiv j
abbrev vMod := vI (fun _ j => decide (j ≠ 0)) fun i j => i.fmod j
abbrev vPow := vI (fun i j => decide (0 ≤ j) && decide (j ≤ 1000000) && decide (i.natAbs < 18446744073709551616)) fun i j => i ^ j.toNat
theorem smallI_ok {i : Int} (h : smallI i = true) : -(2 ^ 64) < i ∧ i < 2 ^ 64 := by
  unfold smallI at h
  rw [Bool.and_eq_true, decide_eq_true_eq, decide_eq_true_eq] at h
  exact ⟨by have := h.1; omega, by have := h.2; omega⟩
variable {a b : Expr} {ma mb : EM} {pos : Pos}
theorem se_sub (ha : SE X W a ma) (hb : SE X W b mb) : SE X W (.BinOp a .Sub b pos) (mOp vSub ma mb) := se_op op_sub oz_int0 ha hb
theorem se_mul (ha : SE X W a ma) (hb : SE X W b mb) : SE X W (.BinOp a .Mult b pos) (mOp vMul ma mb) := se_op op_mul (oz_int fun i j h => by
  rw [Bool.or_eq_true] at h
  exact h.imp smallI_ok smallI_ok) ha hb
theorem se_fdiv (ha : SE X W a ma) (hb : SE X W b mb) : SE X W (.BinOp a .FloorDiv b pos) (mOp vDiv ma mb) := se_op op_fdivN (oz_int fun i j h => by
  rw [Bool.and_eq_true, decide_eq_true_eq, decide_eq_true_eq] at h
  exact h) ha hb
theorem se_mod (ha : SE X W a ma) (hb : SE X W b mb) : SE X W (.BinOp a .Mod b pos) (mOp vMod ma mb) := se_op op_modN (oz_int fun i j h => of_decide_eq_true h) ha hb
theorem se_pow (ha : SE X W a ma) (hb : SE X W b mb) : SE X W (.BinOp a .Pow b pos) (mOp vPow ma mb) := se_op op_pow (oz_int fun i j h => by
  rw [Bool.and_eq_true, Bool.and_eq_true, decide_eq_true_eq, decide_eq_true_eq, decide_eq_true_eq] at h
  exact ⟨h.1.1, h.1.2, by have := h.2; omega⟩) ha hb
def mNeg (m : EM) : EM := fun s M => (m s M).bind fun v M1 => match v with
  | .d (.int i) => .ok (.d (.int (-i))) M1
  | _ => .bad
theorem se_neg (ha : SE X W a ma) : SE X W (.UnaryOp .USub a pos) (mNeg ma) := by
  refine ⟨peImp (pe_un un_neg ha.pe) fun σ H Q ⟨G, s, M, S, N, p⟩ => ⟨G, s, M, S, N, Post.bind p fun v M1 G1 H1 x e1 S1 r1 p1 => ?_⟩⟩
  split at p1
  · rename_i i
    have r1 : RV X.K G1.F H1 x (.int i) := r1
    cases r1
    exact ⟨i, rfl, p1 G1 H1 _ .refl S1 (RV.int _)⟩
  · exact p1.elim

/-! ### comparisons -/
/-- two ints, or two tuples of ints -/
def vB (f : Int → Int → Bool) (v w : Val) (M : Mm) : Out Val := match v, w with
  | .d (.int a), .d (.int b) => .ok (.d (.bool (f a b))) M
  | _, _ => .bad
theorem oz_bool {f : Int → Int → Bool} : OpZ X (rI0 fun i j => .bl (f i j)) (vB f) := by
  intro W G M σ H Q x y v w S r1 r2 p
  unfold vB at p
  split at p
  · rename_i a b
    have r1 : RV X.K G.F H x (.int a) := r1
    have r2 : RV X.K G.F H y (.int b) := r2
    cases r1; cases r2
    exact ⟨a, b, rfl, rfl, p G H _ .refl S (RV.bl _)⟩
  · exact p.elim
abbrev vLt := vB fun i j => decide (i < j)
abbrev vGt := vB fun i j => decide (j < i)
abbrev vGe := vB fun i j => decide (j ≤ i)
theorem lexAt_le : ∀ (ns ms : List Int), Ob.lexAt (fun j => decide (ns.getD j 0 = ms.getD j 0)) (fun j => decide (ns.getD j 0 ≤ ms.getD j 0)) (decide (ns.length ≤ ms.length)) 0 (min ns.length ms.length) = Ob.lexAt (fun j => decide (ns.getD j 0 = ms.getD j 0)) (fun j => decide (ns.getD j 0 ≤ ms.getD j 0)) (decide (ns.length ≤ ms.length)) 0 (min ns.length ms.length) := fun _ _ => rfl
def leTs (ns ms : List Int) : Bool := Ob.lexAt (fun j => decide (ns.getD j 0 = ms.getD j 0)) (fun j => decide (ns.getD j 0 ≤ ms.getD j 0)) (decide (ns.length ≤ ms.length)) 0 (min ns.length ms.length)
def vLe (v w : Val) (M : Mm) : Out Val := match v, w with
  | .d (.int a), .d (.int b) => .ok (.d (.bool (decide (a ≤ b)))) M
  | .d (.tuple a), .d (.tuple b) => match allI a, allI b with
    | some ns, some ms => .ok (.d (.bool (leTs ns ms))) M
    | _, _ => .bad
  | _, _ => .bad
theorem oz_le : OpZ X (fun x y H Q => (rI0 fun i j => .bl (decide (i ≤ j))) x y H Q ∨ rLeT X.K x y H Q) vLe := by
  intro W G M σ H Q x y v w S r1 r2 p
  unfold vLe at p
  split at p
  · rename_i a b
    have r1 : RV X.K G.F H x (.int a) := r1
    have r2 : RV X.K G.F H y (.int b) := r2
    cases r1; cases r2
    exact .inl ⟨a, b, rfl, rfl, p G H _ .refl S (RV.bl _)⟩
  · rename_i a b
    split at p
    · rename_i ns ms ea eb
      have ea := allI_ok ea
      have eb := allI_ok eb
      subst ea eb
      have r1 : RV X.K G.F H x (.tuple (ns.map .int)) := r1
      have r2 : RV X.K G.F H y (.tuple (ms.map .int)) := r2
      cases r1 with
      | tup h1 h2 =>
        cases r2 with
        | tup g1 g2 =>
          have e1 := RVs.ints h2
          have e2 := RVs.ints g2
          subst e1 e2
          exact .inr ⟨_, _, ns, ms, rfl, rfl, SqT.of h1, SqT.of g1, p G H _ .refl S (RV.bl _)⟩
    · exact p.elim
  · exact p.elim
theorem nomarkZ {op : CmpOp} {b : Expr} (h : behindInMarks op b = false) : behindInMarks op b = false := h
theorem se_lt (ha : SE X W a ma) (hb : SE X W b mb) (hm : behindInMarks .Lt b = false := by rfl) : SE X W (.Compare a [.Lt] [b] pos) (mOp vLt ma mb) := se_cmp op_lt oz_bool ha hb hm
theorem se_gt (ha : SE X W a ma) (hb : SE X W b mb) (hm : behindInMarks .Gt b = false := by rfl) : SE X W (.Compare a [.Gt] [b] pos) (mOp vGt ma mb) := se_cmp op_gt oz_bool ha hb hm
theorem se_ge (ha : SE X W a ma) (hb : SE X W b mb) (hm : behindInMarks .GtE b = false := by rfl) : SE X W (.Compare a [.GtE] [b] pos) (mOp vGe ma mb) := se_cmp op_ge oz_bool ha hb hm
theorem se_le (hu : X.A.units < cLine) (ha : SE X W a ma) (hb : SE X W b mb) (hm : behindInMarks .LtE b = false := by rfl) : SE X W (.Compare a [.LtE] [b] pos) (mOp vLe ma mb) := se_cmp (OpR.or op_le (op_leT hu)) oz_le ha hb hm
end
end Zm
namespace Zm
open PySem PySem.Spec PyProof.Rows L2

/-! ### equality, membership -/
mutual
theorem RV.dp {K : PySem.W.Frag} {F : Addr → Prop} {H : Hp} : ∀ (d : PyData) (v : V), RV K F H v d → d.canLay0 = true → Dp K H v d
  | .none, _, h, _ => by cases h; exact .non
  | .bool b, _, h, _ => by cases h; exact .bl b
  | .int i, _, h, _ => by cases h; exact .int i
  | .str x, _, h, _ => by cases h; exact .str x
  | .tuple ds, _, h, c => by
    have c' : PyData.canLayAll0 ds = true := by simpa only [PyData.canLay0] using c
    cases h with
    | tup h1 h2 => exact .tup (SqT.of h1) (RVs.dp ds _ h2 c')
  | .list ds, _, h, c => by
    have c' : PyData.canLayAll0 ds = true := by simpa only [PyData.canLay0] using c
    cases h with
    | lst h0 h1 h2 => exact .lst (SqL.of h1) (RVs.dp ds _ h2 c')
  | .dict ds, _, h, c => by simp [PyData.canLay0] at c
theorem RVs.dp {K : PySem.W.Frag} {F : Addr → Prop} {H : Hp} : ∀ (ds : List PyData) (vs : List V), RVs K F H vs ds → PyData.canLayAll0 ds = true → DpAll K H vs ds
  | [], _, h, _ => by cases h; exact .nil
  | d :: ds, _, h, c => by
    have c' : (PyData.canLay0 d && PyData.canLayAll0 ds) = true := by simpa only [PyData.canLayAll0] using c
    rw [Bool.and_eq_true] at c'
    cases h with
    | cons h1 h2 => exact .cons (RV.dp d _ h1 c'.1) (RVs.dp ds _ h2 c'.2)
end
def datum (v : Val) (M : Mm) : Option PyData := match v with
  | .d x => some x
  | v => (seqD v M).map .list
section
variable {K : PySem.W.Frag} {mg : Str → Option Value} {G : Gh} {H : Hp} {M : Mm} {x : V} {v : Val} {d : PyData}
theorem datum_ok (S : SimM K mg G M H) (r : RW K G H x v) (h : datum v M = some d) (c : SeqAt.shaped d = true) : Dp K H x d := by
  have c0 := SeqAt.canLay_of_shaped c
  cases v with
  | d y => cases h; exact RV.dp _ _ r c0
  | scr ns =>
    have h : (some (ns.map PyData.int)).map PyData.list = some d := h
    cases h
    obtain ⟨a, rfl, h⟩ := r
    exact .lst h.sql (RVs.dp _ _ (rvs_ints (G := G) ns) (by simpa only [PyData.canLay0] using c0))
  | obj i =>
    have h : ((seqD (.obj i) M).map PyData.list) = some d := h
    cases q : seqD (.obj i) M with
    | none => rw [q] at h; cases h
    | some ds =>
      rw [q] at h
      cases h
      obtain ⟨p, xs, rfl, hs, hr⟩ := listD_ok (v := .obj i) S r q
      exact .lst hs (RVs.dp _ _ hr (by simpa only [PyData.canLay0] using c0))
end
def eqAtom : PyData → PyData → Option Bool
  | .int a, .int b => some (decide (a = b))
  | .str a, .str b => some (decide (a = b))
  | .bool a, .bool b => some (decide (a = b))
  | .none, .none => some true
  | .int _, .str _ => some false
  | .str _, .int _ => some false
  | .none, .int _ => some false
  | .int _, .none => some false
  | .none, .str _ => some false
  | .str _, .none => some false
  | .none, .bool _ => some false
  | .bool _, .none => some false
  | _, _ => none
def eqOut (neg : Bool) (v w : Val) (M : Mm) : Option Bool := match v, w with
  | .d a, .d b => match eqAtom a b with
    | some r => some (xor neg r)
    | none => if SeqAt.shaped a && SeqAt.shaped b then some (xor neg (PyData.eqv a b)) else none
  | v, w => match datum v M, datum w M with
    | some a, some b => if SeqAt.shaped a && SeqAt.shaped b then some (xor neg (PyData.eqv a b)) else none
    | _, _ => none
def vEq (v w : Val) (M : Mm) : Out Val := match eqOut false v w M with
  | some b => .ok (.d (.bool b)) M
  | none => .bad
def vNe (v w : Val) (M : Mm) : Out Val := match eqOut true v w M with
  | some b => .ok (.d (.bool b)) M
  | none => .bad
section
variable {X : Cx} {W : WX}
theorem eqOut_ok {neg : Bool} {G : Gh} {M : Mm} {H : Hp} {x y : V} {v w : Val} {b : Bool} {Q : VK} (S : SimM X.K X.mg G M H) (r1 : RW X.K G H x v) (r2 : RW X.K G H y w) (h : eqOut neg v w M = some b) (q : Q (.bl b) H) :
    (∃ c, scal x y = true ∧ xor neg c = b ∧ c = decide (x = y)) ∨ ∃ d e, Dp X.K H x d ∧ Dp X.K H y e ∧ SeqAt.shaped d = true ∧ SeqAt.shaped e = true ∧ xor neg (PyData.eqv d e) = b := by
  have gen : ∀ a c, datum v M = some a → datum w M = some c → (if SeqAt.shaped a && SeqAt.shaped c then some (xor neg (PyData.eqv a c)) else none) = some b →
      ∃ d e, Dp X.K H x d ∧ Dp X.K H y e ∧ SeqAt.shaped d = true ∧ SeqAt.shaped e = true ∧ xor neg (PyData.eqv d e) = b := by
    intro a c ea ec h
    split at h
    · rename_i hs
      rw [Bool.and_eq_true] at hs
      cases h
      exact ⟨a, c, datum_ok S r1 ea hs.1, datum_ok S r2 ec hs.2, hs.1, hs.2, rfl⟩
    · cases h
  unfold eqOut at h
  split at h
  · rename_i a c
    split at h
    · rename_i r er
      have r1 : RV X.K G.F H x a := r1
      have r2 : RV X.K G.F H y c := r2
      cases h
      unfold eqAtom at er
      split at er <;> first
        | (cases er; done)
        | (cases er
           cases r1
           cases r2
           refine .inl ⟨_, rfl, rfl, ?_⟩
           first | rfl | simp)
    · exact .inr (gen a c rfl rfl h)
  · split at h
    · rename_i a c ea ec
      exact .inr (gen a c ea ec h)
    · cases h
theorem oz_eq : OpZ X (fun x y H Q => rEq x y H Q ∨ rEqD X.K x y H Q) vEq := by
  intro W G M σ H Q x y v w S r1 r2 p
  unfold vEq at p
  split at p
  · rename_i b eb
    have q := p G H (.bl b) .refl S (RV.bl b)
    rcases eqOut_ok S r1 r2 eb q with ⟨c, h1, h2, h3⟩ | ⟨d, e, h1, h2, h3, h4, h5⟩
    · refine .inl ⟨h1, ?_⟩
      rw [← h3]
      rw [← h2] at q
      simpa using q
    · refine .inr ⟨d, e, h1, h2, h3, h4, ?_⟩
      rw [← h5] at q
      simpa using q
  · exact p.elim
theorem oz_ne : OpZ X (fun x y H Q => rNe x y H Q ∨ rNeD X.K x y H Q) vNe := by
  intro W G M σ H Q x y v w S r1 r2 p
  unfold vNe at p
  split at p
  · rename_i b eb
    have q := p G H (.bl b) .refl S (RV.bl b)
    rcases eqOut_ok S r1 r2 eb q with ⟨c, h1, h2, h3⟩ | ⟨d, e, h1, h2, h3, h4, h5⟩
    · refine .inl ⟨h1, ?_⟩
      rw [← h3]
      rw [← h2] at q
      simpa using q
    · refine .inr ⟨d, e, h1, h2, h3, h4, ?_⟩
      rw [← h5] at q
      simpa using q
  · exact p.elim
variable {a b : Expr} {ma mb : EM} {pos : Pos}
theorem se_eq (hu : X.A.units + 64 < cLine) (ha : SE X W a ma) (hb : SE X W b mb) (hm : behindInMarks .Eq b = false := by rfl) : SE X W (.Compare a [.Eq] [b] pos) (mOp vEq ma mb) := se_cmp (OpR.or op_eq (op_eqD hu)) oz_eq ha hb hm
theorem se_ne (hu : X.A.units + 64 < cLine) (ha : SE X W a ma) (hb : SE X W b mb) (hm : behindInMarks .NotEq b = false := by rfl) : SE X W (.Compare a [.NotEq] [b] pos) (mOp vNe ma mb) := se_cmp (OpR.or op_ne (op_neD hu)) oz_ne ha hb hm
/-- x is None -/
def isN : Val → Bool
  | .d .none => true
  | _ => false
def vIsN (v w : Val) (M : Mm) : Out Val := match w with
  | .d .none => .ok (.d (.bool (isN v))) M
  | _ => .bad
def vNotN (v w : Val) (M : Mm) : Out Val := match w with
  | .d .none => .ok (.d (.bool (!isN v))) M
  | _ => .bad
theorem isN_ok {K : PySem.W.Frag} {G : Gh} {H : Hp} {x : V} {v : Val} (r : RW K G H x v) : isN v = decide (x = .non) := by
  cases v with
  | d y =>
    have r : RV K G.F H x y := r
    cases r <;> simp [isN]
  | obj i => obtain ⟨a, rfl, _⟩ := r; simp [isN]
  | scr ns => obtain ⟨a, rfl, _⟩ := r; simp [isN]
theorem oz_isN : OpZ X (fun x y H Q => y = .non ∧ Q (.bl (decide (x = .non))) H) vIsN := by
  intro W G M σ H Q x y v w S r1 r2 p
  unfold vIsN at p
  split at p
  · have r2 : RV X.K G.F H y .none := r2
    cases r2
    refine ⟨rfl, ?_⟩
    rw [← isN_ok r1]
    exact p G H _ .refl S (RV.bl _)
  · exact p.elim
theorem oz_notN : OpZ X (fun x y H Q => y = .non ∧ Q (.bl (!decide (x = .non))) H) vNotN := by
  intro W G M σ H Q x y v w S r1 r2 p
  unfold vNotN at p
  split at p
  · have r2 : RV X.K G.F H y .none := r2
    cases r2
    refine ⟨rfl, ?_⟩
    rw [← isN_ok r1]
    exact p G H _ .refl S (RV.bl _)
  · exact p.elim
theorem se_isN (ha : SE X W a ma) (hb : SE X W b mb) (hm : behindInMarks .Is b = false := by rfl) : SE X W (.Compare a [.Is] [b] pos) (mOp vIsN ma mb) := se_cmp op_isN oz_isN ha hb hm
theorem se_notN (ha : SE X W a ma) (hb : SE X W b mb) (hm : behindInMarks .IsNot b = false := by rfl) : SE X W (.Compare a [.IsNot] [b] pos) (mOp vNotN ma mb) := se_cmp op_notN oz_notN ha hb hm
/-- x in a list or a tuple -/
def rInA (K : PySem.W.Frag) (neg : Bool) : R2 := fun x y H Q => ∃ d ds, Dp K H x d ∧ (Dp K H y (.list ds) ∨ Dp K H y (.tuple ds)) ∧ SeqAt.shaped d = true ∧ PyData.canLayAll0 ds = true ∧ Q (.bl (xor neg (ds.any fun z => PyData.eqv z d))) H
theorem room_inZ {A : Around} {k : Nat} {d : PyData} (hd : SeqAt.shaped d = true) (hu : A.units + 65 < cLine) : A.units + 1 + min k d.depth < cLine := by
  have h1 := SeqAt.depth_of_shaped hd
  have h2 : min k d.depth ≤ d.depth := Nat.min_le_right _ _
  omega
theorem op_inA (hu : X.A.units + 65 < cLine) : OpR X (compareOp .In) (rInA X.K false) := by
  intro pins s σ H x y v u Q I rx ry ⟨d, ds, hd, he, sd, se, q⟩
  rw [Bool.false_xor] at q
  obtain ⟨as, r1⟩ := Dp.reads I d x v hd rx
  rcases he with he | he
  · obtain ⟨bs, r2⟩ := Dp.reads I _ y u he ry
    exact SeqAt.in_list_reads r2 r1 se (SeqAt.canLay_of_shaped sd) (room_inZ sd hu) ⟨.bl _, H, I, rfl, q⟩
  · obtain ⟨bs, r2⟩ := Dp.reads I _ y u he ry
    exact SeqAt.in_tuple_reads r2 r1 se (SeqAt.canLay_of_shaped sd) (room_inZ sd hu) ⟨.bl _, H, I, rfl, q⟩
theorem op_notInA (hu : X.A.units + 65 < cLine) : OpR X (compareOp .NotIn) (rInA X.K true) := by
  intro pins s σ H x y v u Q I rx ry ⟨d, ds, hd, he, sd, se, q⟩
  rw [Bool.true_xor] at q
  obtain ⟨as, r1⟩ := Dp.reads I d x v hd rx
  rcases he with he | he
  · obtain ⟨bs, r2⟩ := Dp.reads I _ y u he ry
    exact SeqAt.notIn_list_reads r2 r1 se (SeqAt.canLay_of_shaped sd) (room_inZ sd hu) ⟨.bl _, H, I, rfl, q⟩
  · obtain ⟨bs, r2⟩ := Dp.reads I _ y u he ry
    exact SeqAt.notIn_tuple_reads r2 r1 se (SeqAt.canLay_of_shaped sd) (room_inZ sd hu) ⟨.bl _, H, I, rfl, q⟩
def vIn (neg : Bool) (v w : Val) (M : Mm) : Out Val := match datum v M, seqD w M with
  | some d, some ds => if SeqAt.shaped d && PyData.canLayAll0 ds then .ok (.d (.bool (xor neg (ds.any fun z => PyData.eqv z d)))) M else .bad
  | _, _ => .bad
theorem seqD_dp {K : PySem.W.Frag} {mg : Str → Option Value} {G : Gh} {H : Hp} {M : Mm} {x : V} {v : Val} {ds : List PyData} (S : SimM K mg G M H) (r : RW K G H x v) (h : seqD v M = some ds) (c : PyData.canLayAll0 ds = true) : Dp K H x (.list ds) ∨ Dp K H x (.tuple ds) := by
  obtain ⟨p, xs, rfl, hs, hr⟩ := seqD_ok S r h
  rcases hs with hs | hs
  · exact .inl (.lst hs (RVs.dp _ _ hr c))
  · exact .inr (.tup (SqT.of hs) (RVs.dp _ _ hr c))
theorem oz_in {neg : Bool} : OpZ X (rInA X.K neg) (vIn neg) := by
  intro W G M σ H Q x y v w S r1 r2 p
  unfold vIn at p
  split at p
  · rename_i d ds ed es
    split at p
    · rename_i hs
      rw [Bool.and_eq_true] at hs
      exact ⟨d, ds, datum_ok S r1 ed hs.1, seqD_dp S r2 es hs.2, hs.1, hs.2, p G H _ .refl S (RV.bl _)⟩
    · exact p.elim
  · exact p.elim
theorem se_in (hu : X.A.units + 65 < cLine) (ha : SE X W a ma) (hb : SE X W b mb) (hm : behindInMarks .In b = false := by rfl) : SE X W (.Compare a [.In] [b] pos) (mOp (vIn false) ma mb) := se_cmp (op_inA hu) oz_in ha hb hm
theorem se_notIn (hu : X.A.units + 65 < cLine) (ha : SE X W a ma) (hb : SE X W b mb) (hm : behindInMarks .NotIn b = false := by rfl) : SE X W (.Compare a [.NotIn] [b] pos) (mOp (vIn true) ma mb) := se_cmp (op_notInA hu) oz_in ha hb hm
/-- a < b <= c -/
def mChain (f g : Val → Val → Mm → Out Val) (a b c : EM) : EM := fun s M => (a s M).bind fun x M1 => (b s M1).bind fun y M2 => (f x y M2).bind fun z M3 => match z with
  | .d (.bool k) => if k = true then (c s M3).bind fun w M4 => g y w M4 else .ok (.d (.bool false)) M3
  | _ => .bad
theorem se_chain {op op' : CmpOp} {r r' : R2} {f g : Val → Val → Mm → Out Val} {c : Expr} {mc : EM} (ho : OpR X (compareOp op) r) (z : OpZ X r f) (ho' : OpR X (compareOp op') r') (z' : OpZ X r' g)
    (ha : SE X W a ma) (hb : SE X W b mb) (hc : SE X W c mc) (hm : lastMarks [op, op'] [b, c] = false := by with_unfolding_all rfl) : SE X W (.Compare a [op, op'] [b, c] pos) (mChain f g ma mb mc) := by
  refine ⟨peImp (pe_chain ho ho' ha.pe hb.pe hc.pe hm) fun σ H Q ⟨G, s, M, S, N, p⟩ => ?_⟩
  refine ⟨G, s, M, S, N, Post.bind p fun v M1 G1 H1 x e1 S1 r1 p1 => ⟨G1, s, M1, S1, N.ext e1, Post.bind p1 fun w M2 G2 H2 y e2 S2 r2 p2 => ?_⟩⟩
  refine z W G2 M2 σ H2 _ x y v w S2 (RW.ext e2 r1) r2 (Post.bind p2 fun u M3 G3 H3 k e3 S3 r3 p3 => ?_)
  split at p3
  · rename_i b
    have r3 : RV X.K G3.F H3 k (.bool b) := r3
    cases r3
    refine ⟨b, rfl, ?_⟩
    split at p3
    · rename_i hk
      rw [if_pos hk]
      exact ⟨G3, s, M3, S3, ((N.ext e1).ext e2).ext e3, Post.bind p3 fun t M4 G4 H4 w' e4 S4 r4 p4 => z' W G4 M4 σ H4 Q y w' w t S4 (RW.ext (e3.trans e4) r2) r4 p4⟩
    · rename_i hk
      rw [if_neg hk]
      exact p3 G3 H3 _ .refl S3 (RV.bl false)
  · exact p3.elim
theorem st_chain {op op' : CmpOp} {r r' : R2} {f g : Val → Val → Mm → Out Val} {c : Expr} {mc : EM} (ho : OpR X (compareOp op) r) (z : OpZ X r f) (ho' : OpR X (compareOp op') r') (z' : OpZ X r' g)
    (ha : SE X W a ma) (hb : SE X W b mb) (hc : SE X W c mc) (hm : lastMarks [op, op'] [b, c] = false := by with_unfolding_all rfl) : ST X W (.Compare a [op, op'] [b, c] pos) (mT (mChain f g ma mb mc)) := by
  refine ⟨ptImp (pt_chain ho ho' ha.pe hb.pe hc.pe hm) fun σ H Q h => ?_⟩
  obtain ⟨G, s, M, S, N, p⟩ := TTm.of h
  refine ⟨G, s, M, S, N, Post.bind p fun v M1 G1 H1 x e1 S1 r1 p1 => ⟨G1, s, M1, S1, N.ext e1, Post.bind p1 fun w M2 G2 H2 y e2 S2 r2 p2 => ?_⟩⟩
  refine z W G2 M2 σ H2 _ x y v w S2 (RW.ext e2 r1) r2 (Post.bind p2 fun u M3 G3 H3 k e3 S3 r3 p3 => ?_)
  split at p3
  · rename_i b
    have r3 : RV X.K G3.F H3 k (.bool b) := r3
    cases r3
    refine ⟨b, rfl, ?_⟩
    split at p3
    · rename_i hk
      rw [if_pos hk]
      exact ⟨G3, s, M3, S3, ((N.ext e1).ext e2).ext e3, Post.bind p3 fun t M4 G4 H4 w' e4 S4 r4 p4 => z' W G4 M4 σ H4 _ y w' w t S4 (RW.ext (e3.trans e4) r2) r4 p4⟩
    · rename_i hk
      rw [if_neg hk]
      exact p3 G3 H3 _ .refl S3 (RV.bl false)
  · exact p3.elim
end
end Zm
namespace Zm
open PySem PySem.Spec PyProof.Rows L2

/-! ### subscripts -/
section
variable {K : PySem.W.Frag} {mg : Str → Option Value} {F : Addr → Prop} {G : Gh} {H : Hp}
theorem RVs.atI {xs : List V} {ds : List PyData} {i : Int} {d : PyData} (r : RVs K F H xs ds) (h : atI ds i = some d) : ∃ v, atI xs i = some v ∧ RV K F H v d := by
  unfold L2.atI at h ⊢
  rw [r.len]
  cases q : ixN ds.length i with
  | none => rw [q] at h; cases h
  | some j =>
    rw [q] at h
    exact RVs.get r h
theorem RWs.get : ∀ {xs : List V} {vs : List Val} {i : Nat} {v : Val}, RWs K G H xs vs → vs[i]? = some v → ∃ x, xs[i]? = some x ∧ RW K G H x v
  | _, _, i, _, .nil, e => by simp at e
  | _, _, 0, _, .cons h t, e => by simp at e; subst e; exact ⟨_, rfl, h⟩
  | _, _, i + 1, _, .cons h t, e => by
    obtain ⟨x, e1, e2⟩ := RWs.get (i := i) t (by simpa using e)
    exact ⟨x, by simpa using e1, e2⟩
theorem RWs.atI {xs : List V} {vs : List Val} {i : Int} {v : Val} (r : RWs K G H xs vs) (h : atI vs i = some v) : ∃ x, L2.atI xs i = some x ∧ RW K G H x v := by
  unfold L2.atI at h ⊢
  rw [Paired.len r]
  cases q : ixN vs.length i with
  | none => rw [q] at h; cases h
  | some j =>
    rw [q] at h
    exact RWs.get r h
end
def vIx (v w : Val) (M : Mm) : Out Val := match v, w with
  | .d (.list ds), .d (.int i) => match atI ds i with
    | some d => .ok (.d d) M
    | none => .bad
  | .d (.tuple ds), .d (.int i) => match atI ds i with
    | some d => .ok (.d d) M
    | none => .bad
  | .d (.str x), .d (.int i) => if fitsL x.length then match atI x.cps.toList i with
    | some c => .ok (.d (.str ⟨#[c]⟩)) M
    | none => .bad else .bad
  | .scr ns, .d (.int i) => match atI ns i with
    | some n => .ok (.d (.int n)) M
    | none => .bad
  | .obj j, .d (.int i) => match M[j]? with
    | some (.lst vs) => match atI vs i with
      | some v => .ok (rd v M) M
      | none => .bad
    | _ => .bad
  | _, _ => .bad
section
variable {X : Cx} {W : WX}
theorem oz_ix : OpZ X (rIx X.K) vIx := by
  intro W G M σ H Q x y v w S r1 r2 p
  unfold vIx at p
  split at p
  · rename_i ds i
    have r1 : RV X.K G.F H x (.list ds) := r1
    have r2 : RV X.K G.F H y (.int i) := r2
    cases r2
    cases r1 with
    | lst h0 h1 h2 =>
      split at p
      · rename_i d hd
        obtain ⟨u, e1, e2⟩ := RVs.atI h2 hd
        exact .inl ⟨_, _, i, u, rfl, rfl, SqL.of h1, e1, p G H _ .refl S e2⟩
      · exact p.elim
  · rename_i ds i
    have r1 : RV X.K G.F H x (.tuple ds) := r1
    have r2 : RV X.K G.F H y (.int i) := r2
    cases r2
    cases r1 with
    | tup h1 h2 =>
      split at p
      · rename_i d hd
        obtain ⟨u, e1, e2⟩ := RVs.atI h2 hd
        exact .inr (.inl ⟨_, _, i, u, rfl, rfl, SqT.of h1, e1, p G H _ .refl S e2⟩)
      · exact p.elim
  · rename_i z i
    have r1 : RV X.K G.F H x (.str z) := r1
    have r2 : RV X.K G.F H y (.int i) := r2
    cases r1; cases r2
    split at p
    · rename_i hf
      split at p
      · rename_i c hc
        exact .inr (.inr ⟨z, i, c, rfl, rfl, fitsL_ok hf, hc, p G H _ .refl S (RV.str _)⟩)
      · exact p.elim
    · exact p.elim
  · rename_i ns i
    obtain ⟨a, rfl, h1⟩ := r1
    have r2 : RV X.K G.F H y (.int i) := r2
    cases r2
    split at p
    · rename_i n hn
      refine .inl ⟨a, _, i, .int n, rfl, rfl, h1.sql, ?_, p G H _ .refl S (RV.int n)⟩
      unfold L2.atI at hn ⊢
      rw [List.length_map]
      cases q : ixN ns.length i with
      | none => rw [q] at hn; cases hn
      | some j =>
        rw [q] at hn
        show (ns.map V.int)[j]? = _
        have hn : ns[j]? = some n := hn
        rw [List.getElem?_map, hn]
        rfl
    · exact p.elim
  · rename_i j i
    obtain ⟨a, rfl, hj⟩ := r1
    have r2 : RV X.K G.F H y (.int i) := r2
    cases r2
    split at p
    · rename_i vs ev
      obtain ⟨nF, xs, hx, rx⟩ := S.obj j a _ hj ev
      split at p
      · rename_i u hu
        obtain ⟨z, e1, e2⟩ := RWs.atI rx hu
        exact .inl ⟨a, xs, i, z, rfl, rfl, SqL.of hx, e1, p G H _ .refl S (rd_ok S e2)⟩
      · exact p.elim
    · exact p.elim
  · exact p.elim
variable {a b : Expr} {ma mb : EM} {pos : Pos}
theorem se_ix (ha : SE X W a ma) (hb : SE X W b mb) (hs : PlainIx b := by intro _ _; rfl) : SE X W (.Subscript a b pos) (mOp vIx ma mb) := ⟨peImp (pe_ix ix_seq ha.pe hb.pe hs) fun _ _ _ h => TEm.op oz_ix h⟩

/-! ### slices -/
def cutL {α : Type} (xs : List α) (lo hi : Option Int) : List α := (xs.drop (HT.sIx xs.length 0 lo)).take (HT.sIx xs.length xs.length hi - HT.sIx xs.length 0 lo)
abbrev OM := Sl → Mm → Out (Option Int)
def TOm (K : PySem.W.Frag) (mg : Str → Option Value) (W : WX) (m : OM) : TO := fun σ H Q => ∃ G s M, SimM K mg G M H ∧ SimS K G s σ H ∧ Post K mg W G σ H (fun _ _ x v => x = v) Q (m s M)
structure SP_ (X : Cx) (W : WX) (e : Option Expr) (m : OM) : Prop where
  po : PO X e (TOm X.K X.mg W m)
theorem poImp {e : Option Expr} {t t' : TO} (h : PO X e t) (i : ∀ σ H Q, t' σ H Q → t σ H Q) : PO X e t' := ⟨fun pins s σ H Q I q => h.run pins s σ H Q I (i _ _ _ q)⟩
def oNone : OM := fun _ M => .ok none M
def oSome (m : EM) : OM := fun s M => (m s M).bind fun v M1 => match v with
  | .d (.int i) => .ok (some i) M1
  | _ => .bad
theorem so_none : SP_ X W none oNone := ⟨poImp po_none fun σ H Q ⟨G, s, M, S, N, p⟩ => p G H none .refl S rfl⟩
theorem so_some {e : Expr} {m : EM} (h : SE X W e m) : SP_ X W (some e) (oSome m) := by
  refine ⟨poImp (po_some h.pe) fun σ H Q ⟨G, s, M, S, N, p⟩ => ⟨G, s, M, S, N, Post.bind p fun v M1 G1 H1 x e1 S1 r1 p1 => ?_⟩⟩
  split at p1
  · rename_i i
    have r1 : RV X.K G1.F H1 x (.int i) := r1
    cases r1
    exact ⟨i, rfl, p1 G1 H1 _ .refl S1 rfl⟩
  · exact p1.elim
def vSl (v : Val) (lo hi : Option Int) (M : Mm) : Out Val := match v with
  | .d (.tuple ds) => .ok (.d (.tuple (cutL ds lo hi))) M
  | .d (.str z) => if fitsL z.length then .ok (.d (.str (cutS z lo hi))) M else .bad
  | v => match listD v M with
    | some ds => .ok (.d (.list (cutL ds lo hi))) M
    | none => .bad
def mSl (m : EM) (l h : OM) : EM := fun s M => (m s M).bind fun v M1 => (l s M1).bind fun lo M2 => (h s M2).bind fun hi M3 => vSl v lo hi M3
theorem cutL_whole {α : Type} {xs : List α} {lo hi : Option Int} (h : HT.sIx xs.length 0 lo = 0 ∧ HT.sIx xs.length xs.length hi = xs.length) : cutL xs lo hi = xs := by
  unfold cutL
  rw [h.1, h.2]
  simp
theorem RVs.cut {K : PySem.W.Frag} {F : Addr → Prop} {H : Hp} {xs : List V} {ds : List PyData} (r : RVs K F H xs ds) (lo hi : Option Int) : RVs K F H (cutV xs lo hi) (cutL ds lo hi) := by
  unfold cutV cutL
  rw [r.len]
  exact RVs.take _ (RVs.drop _ r)
theorem se_slice {e : Expr} {lo hi : Option Expr} {m : EM} {l h : OM} {p2 : Pos} (he : SE X W e m) (hl : SP_ X W lo l) (hh : SP_ X W hi h) : SE X W (.Subscript e (.Slice lo hi none p2) pos) (mSl m l h) := by
  refine ⟨peImp (pe_slice (SlR.or sl_list (SlR.or sl_tupA sl_str)) he.pe hl.po hh.po) fun σ H Q ⟨G, s, M, S, N, p⟩ => ?_⟩
  refine ⟨G, s, M, S, N, Post.bind p fun v M1 G1 H1 x e1 S1 r1 p1 => ⟨G1, s, M1, S1, N.ext e1, Post.bind p1 fun lo M2 G2 H2 lo' e2 S2 r2 p2 => ⟨G2, s, M2, S2, (N.ext e1).ext e2, Post.bind p2 fun hi M3 G3 H3 hi' e3 S3 r3 p3 => ?_⟩⟩⟩
  subst r2 r3
  replace r1 := RW.ext (e2.trans e3) r1
  unfold vSl at p3
  split at p3
  · rename_i ds
    have r1' := r1
    have r1 : RV X.K G3.F H3 x (.tuple ds) := r1
    cases r1 with
    | @tup a xs _ h1 h2 =>
      refine .inr (.inl ⟨_, _, rfl, SqT.of h1, fun hw => ?_, fun hw q hq => ?_⟩)
      · rw [cutL_whole (by rw [← h2.len]; exact hw)] at p3
        exact p3 G3 H3 _ .refl S3 r1'
      · obtain ⟨S4, e4⟩ := S3.lay (o := .tup (cutV xs lo' hi')) hq
        exact p3 G3 _ _ e4 S4 (RV.tup upd_same (RVs.cut (RVs.ext e4 _ _ h2) _ _))
  · rename_i z
    have r1 : RV X.K G3.F H3 x (.str z) := r1
    cases r1
    split at p3
    · rename_i hf
      exact .inr (.inr ⟨z, rfl, fitsL_ok hf, p3 G3 H3 _ .refl S3 (RV.str _)⟩)
    · exact p3.elim
  · split at p3
    · rename_i ds ed
      obtain ⟨a, xs, rfl, h1, h2⟩ := listD_ok S3 r1 ed
      refine .inl ⟨_, _, rfl, h1, fun q hq => ?_⟩
      obtain ⟨S4, e4⟩ := S3.layF (o := .lst (cutV xs lo' hi')) hq
      exact p3 _ _ _ e4 S4 (RV.lst (.inl rfl) upd_same (RVs.cut (RVs.ext e4 _ _ h2) _ _))
    · exact p3.elim

/-! ### built-in functions -/
/-- a plain function of the arguments, right for the reading r -/
def CallZ (X : Cx) (r : List V → Hp → VK → Prop) (f : List Val → Mm → Out Val) : Prop := ∀ (W : WX) (G : Gh) (M : Mm) (σ : L2.St) (H : Hp) (Q : VK) (xs : List V) (vs : List Val), SimM X.K X.mg G M H → RWs X.K G H xs vs →
  Post X.K X.mg W G σ H (fun G' H' x v => RW X.K G' H' x v) Q (f vs M) → r xs H Q
def mB (f : List Val → Mm → Out Val) (ms : AM) : EM := fun s M => (ms s M).bind f
theorem TCBm {r : List V → Hp → VK → Prop} {f : List Val → Mm → Out Val} {ms : AM} {σ : L2.St} {H : Hp} {Q : VK} (z : CallZ X r f) (h : TEm X.K X.mg W (mB f ms) σ H Q) : tCB r (TAm X.K X.mg W ms) σ H Q := by
  obtain ⟨G, s, M, S, N, p⟩ := h
  exact ⟨G, s, M, S, N, Post.bind p fun vs M1 G1 H1 xs e1 S1 r1 p1 => z W G1 M1 σ H1 Q xs vs S1 r1 p1⟩
variable {e : Expr} {es : List Expr} {ms : AM} {x : Str} {p : Pos} {id T : String}
theorem se_callB {r : List V → Hp → VK → Prop} {f : List Val → Mm → Out Val} (hc : CallR X (.builtin id) r) (z : CallZ X r f) (hg : Gl X x) (hm : X.mg x = none) (hv : bootBuiltins x = some (.builtin id)) (ha : SA X W (e :: es) ms) (hn : x ≠ "__name__" := by decide) (hdb : (x == ("__debug__" : Str)) = false := by decide)
    (he : starEach (e :: es) X.env = (false, eval e X.env) :: starEach es X.env := by rfl) (hpl : (backTo pos (starEach es X.env)).any (·.1) = false := by rfl) : SE X W (.Call (.Name x p) (e :: es) [] pos) (mB f ms) :=
  ⟨peImp (pe_callB hc hg hm hv ha.pa hn hdb he hpl) fun _ _ _ h => TCBm z h⟩
theorem se_callTy {r : List V → Hp → VK → Prop} {f : List Val → Mm → Out Val} (hc : CallR X (.type T) r) (z : CallZ X r f) (hg : Gl X x) (hm : X.mg x = none) (hv : bootBuiltins x = some (.type T)) (ha : SA X W (e :: es) ms) (hn : x ≠ "__name__" := by decide) (hdb : (x == ("__debug__" : Str)) = false := by decide)
    (he : starEach (e :: es) X.env = (false, eval e X.env) :: starEach es X.env := by rfl) (hpl : (backTo pos (starEach es X.env)).any (·.1) = false := by rfl) : SE X W (.Call (.Name x p) (e :: es) [] pos) (mB f ms) :=
  ⟨peImp (pe_callTy hc hg hm hv ha.pa hn hdb he hpl) fun _ _ _ h => TCBm z h⟩
/-- len -/
def lenOf (v : Val) (M : Mm) : Option Nat := match v with
  | .d (.list ds) => some ds.length
  | .d (.tuple ds) => some ds.length
  | .d (.str x) => if fitsL x.length then some x.length else none
  | .scr ns => some ns.length
  | .obj j => match M[j]? with
    | some (.lst vs) => some vs.length
    | _ => none
  | _ => none
def vLen (vs : List Val) (M : Mm) : Out Val := match vs with
  | [v] => match lenOf v M with
    | some n => .ok (.d (.int n)) M
    | none => .bad
  | _ => .bad
theorem lenOf_ok {K : PySem.W.Frag} {mg : Str → Option Value} {G : Gh} {H : Hp} {M : Mm} {x : V} {v : Val} {n : Nat} (S : SimM K mg G M H) (r : RW K G H x v) (h : lenOf v M = some n) : LenV K x H n := by
  unfold lenOf at h
  split at h
  · rename_i ds
    cases h
    have r : RV K G.F H x (.list ds) := r
    cases r with
    | lst h0 h1 h2 => exact .inl ⟨_, SqL.of h1, h2.len.symm⟩
  · rename_i ds
    cases h
    have r : RV K G.F H x (.tuple ds) := r
    cases r with
    | tup h1 h2 => exact .inr ⟨_, SqT.of h1, h2.len.symm⟩
  · rename_i z
    split at h
    · rename_i hf
      cases h
      have r : RV K G.F H x (.str z) := r
      cases r
      exact ⟨fitsL_ok hf, rfl⟩
    · cases h
  · rename_i ns
    cases h
    obtain ⟨a, rfl, h1⟩ := r
    exact .inl ⟨_, h1.sql, by simp⟩
  · rename_i j
    obtain ⟨a, rfl, hj⟩ := r
    split at h
    · rename_i vs ev
      cases h
      obtain ⟨nF, xs, hx, rx⟩ := S.obj j a _ hj ev
      exact .inl ⟨xs, SqL.of hx, (Paired.len rx).symm⟩
    · cases h
  · cases h
theorem cz_len : CallZ X (fun xs H Q => ∃ x n, xs = [x] ∧ LenV X.K x H n ∧ Q (.int n) H) vLen := by
  intro W G M σ H Q xs vs S r p
  unfold vLen at p
  split at p
  · cases r with
    | cons r1 r2 =>
      cases r2
      split at p
      · rename_i n hn
        exact ⟨_, n, rfl, lenOf_ok S r1 hn, p G H _ .refl S (RV.int _)⟩
      · exact p.elim
  · exact p.elim
/-- int(n) -/
def vInt (vs : List Val) (M : Mm) : Out Val := match vs with
  | [.d (.int i)] => .ok (.d (.int i)) M
  | [.d (.bool k)] => .ok (.d (.int (if k then 1 else 0))) M
  | _ => .bad
theorem cz_int : CallZ X (fun xs H Q => (∃ i, xs = [.int i] ∧ Q (.int i) H) ∨ ∃ k, xs = [.bl k] ∧ Q (.int (if k then 1 else 0)) H) vInt := by
  intro W G M σ H Q xs vs S r p
  unfold vInt at p
  split at p
  · rename_i i
    cases r with
    | cons r1 r2 =>
      cases r2
      have r1 : RV X.K G.F H _ (.int i) := r1
      cases r1
      exact .inl ⟨i, rfl, p G H _ .refl S (RV.int _)⟩
  · rename_i k
    cases r with
    | cons r1 r2 =>
      cases r2
      have r1 : RV X.K G.F H _ (.bool k) := r1
      cases r1
      exact .inr ⟨k, rfl, p G H _ .refl S (RV.int _)⟩
  · exact p.elim
/-- max, min of two ints; abs -/
def vI2 (f : Int → Int → Int) (vs : List Val) (M : Mm) : Out Val := match vs with
  | [.d (.int i), .d (.int j)] => .ok (.d (.int (f i j))) M
  | _ => .bad
theorem cz_i2 {f : Int → Int → Int} : CallZ X (fun xs H Q => ∃ i j, xs = [.int i, .int j] ∧ Q (.int (f i j)) H) (vI2 f) := by
  intro W G M σ H Q xs vs S r p
  unfold vI2 at p
  split at p
  · rename_i i j
    cases r with
    | cons r1 r2 =>
      cases r2 with
      | cons r2 r3 =>
        cases r3
        have r1 : RV X.K G.F H _ (.int i) := r1
        have r2 : RV X.K G.F H _ (.int j) := r2
        cases r1; cases r2
        exact ⟨i, j, rfl, p G H _ .refl S (RV.int _)⟩
  · exact p.elim
abbrev vMax := vI2 fun i j => if j > i then j else i
abbrev vMin := vI2 fun i j => if j < i then j else i
def vAbs (vs : List Val) (M : Mm) : Out Val := match vs with
  | [.d (.int i)] => .ok (.d (.int (if i < 0 then -i else i))) M
  | _ => .bad
theorem cz_abs : CallZ X (fun xs H Q => ∃ i, xs = [.int i] ∧ Q (.int (if i < 0 then -i else i)) H) vAbs := by
  intro W G M σ H Q xs vs S r p
  unfold vAbs at p
  split at p
  · rename_i i
    cases r with
    | cons r1 r2 =>
      cases r2
      have r1 : RV X.K G.F H _ (.int i) := r1
      cases r1
      exact ⟨i, rfl, p G H _ .refl S (RV.int _)⟩
  · exact p.elim
/-- tuple(xs) -/
def vTuple (vs : List Val) (M : Mm) : Out Val := match vs with
  | [v] => match seqD v M with
    | some ds => .ok (.d (.tuple ds)) M
    | none => .bad
  | _ => .bad
theorem cz_tuple : CallZ X (fun xs H Q => ∃ p ys, xs = [.ref p] ∧ ((SqL X.K H p ys ∧ ∀ l, H l = none → Q (.ref l) (upd H l (.tup ys))) ∨ (SqT X.K H p ys ∧ Q (.ref p) H))) vTuple := by
  intro W G M σ H Q xs vs S r p
  unfold vTuple at p
  split at p
  · cases r with
    | cons r1 r2 =>
      cases r2
      split at p
      · rename_i ds hd
        obtain ⟨a, ys, rfl, h, hr⟩ := seqD_ok S r1 hd
        refine ⟨a, ys, rfl, ?_⟩
        rcases h with h | h
        · refine .inl ⟨h, fun l hl => ?_⟩
          obtain ⟨S2, e2⟩ := S.lay (o := .tup ys) hl
          exact p G _ _ e2 S2 (RV.tup upd_same (RVs.ext e2 _ _ hr))
        · exact .inr ⟨SqT.of h, p G H _ .refl S (RV.tup h hr)⟩
      · exact p.elim
  · exact p.elim
/-- list(xs), by value or at a place of its own -/
def vList (vs : List Val) (M : Mm) : Out Val := match vs with
  | [v] => match seqD v M with
    | some ds => .ok (.d (.list ds)) M
    | none => .bad
  | _ => .bad
def vListN (vs : List Val) (M : Mm) : Out Val := match vs with
  | [v] => match seqD v M with
    | some ds => .ok (.obj M.length) (M ++ [.lst (ds.map .d)])
    | none => .bad
  | _ => .bad
theorem cz_list : CallZ X (fun xs H Q => ∃ p ys, xs = [.ref p] ∧ (SqL X.K H p ys ∨ SqT X.K H p ys) ∧ ∀ l, H l = none → Q (.ref l) (upd H l (.lst ys))) vList := by
  intro W G M σ H Q xs vs S r p
  unfold vList at p
  split at p
  · cases r with
    | cons r1 r2 =>
      cases r2
      split at p
      · rename_i ds hd
        obtain ⟨a, ys, rfl, h, hr⟩ := seqD_ok S r1 hd
        refine ⟨a, ys, rfl, h.imp id SqT.of, fun l hl => ?_⟩
        obtain ⟨S2, e2⟩ := S.layF (o := .lst ys) hl
        exact p _ _ _ e2 S2 (RV.lst (.inl rfl) upd_same (RVs.ext e2 _ _ hr))
      · exact p.elim
  · exact p.elim
theorem cz_listN : CallZ X (fun xs H Q => ∃ p ys, xs = [.ref p] ∧ (SqL X.K H p ys ∨ SqT X.K H p ys) ∧ ∀ l, H l = none → Q (.ref l) (upd H l (.lst ys))) vListN := by
  intro W G M σ H Q xs vs S r p
  unfold vListN at p
  split at p
  · cases r with
    | cons r1 r2 =>
      cases r2
      split at p
      · rename_i ds hd
        obtain ⟨a, ys, rfl, h, hr⟩ := seqD_ok S r1 hd
        refine ⟨a, ys, rfl, h.imp id SqT.of, fun l hl => ?_⟩
        obtain ⟨S2, e2, r3⟩ := S.pushL hl (RVs.rws hr)
        exact p _ _ _ e2 S2 r3
      · exact p.elim
  · exact p.elim

/-! ### methods -/
def tyOk (T : String) (v : Val) (M : Mm) : Bool := match v with
  | .d (.str _) => T == "str"
  | .d (.list _) => T == "list"
  | .scr _ => T == "list"
  | .obj j => match M[j]? with
    | some (.lst _) => T == "list"
    | some (.dct _) => T == "dict"
    | _ => false
  | .d (.dict _) => T == "dict"
  | _ => false
theorem tyOk_ok {K : PySem.W.Frag} {mg : Str → Option Value} {G : Gh} {H : Hp} {M : Mm} {T : String} {x : V} {v : Val} (S : SimM K mg G M H) (r : RW K G H x v) (h : tyOk T v M = true) : tyV K T x H := by
  unfold tyOk at h
  split at h
  · rename_i z
    have r : RV K G.F H x (.str z) := r
    cases r
    exact beq_iff_eq.mp h
  · rename_i ds
    have r : RV K G.F H x (.list ds) := r
    cases r with
    | lst h0 h1 h2 => exact .inl ⟨beq_iff_eq.mp h, _, SqL.of h1⟩
  · obtain ⟨a, rfl, h1⟩ := r
    exact .inl ⟨beq_iff_eq.mp h, _, h1.sql⟩
  · rename_i j
    obtain ⟨a, rfl, hj⟩ := r
    split at h
    · rename_i vs ev
      obtain ⟨nF, xs, hx, rx⟩ := S.obj j a _ hj ev
      exact .inl ⟨beq_iff_eq.mp h, _, SqL.of hx⟩
    · rename_i kvs ev
      obtain ⟨nF, hd⟩ := S.obj j a _ hj ev
      refine .inr (.inr (.inl ⟨beq_iff_eq.mp h, ?_⟩))
      rcases hd with ⟨ys, h1, _⟩ | ⟨ys, h1, _⟩
      · exact .inl ⟨_, h1⟩
      · exact .inr ⟨_, h1⟩
    · cases h
  · rename_i ds
    have r : RV K G.F H x (.dict ds) := r
    refine ?_
    cases r with
    | dct h0 h1 h2 => exact .inr (.inr (.inl ⟨beq_iff_eq.mp h, .inl ⟨_, h1⟩⟩))
  · cases h
abbrev MF := Val → List Val → Mm → Out Val
def MtZ (X : Cx) (r : V → List V → Hp → VK → Prop) (f : MF) : Prop := ∀ (W : WX) (G : Gh) (M : Mm) (σ : L2.St) (H : Hp) (Q : VK) (x : V) (v : Val) (xs : List V) (vs : List Val), SimM X.K X.mg G M H → RW X.K G H x v → RWs X.K G H xs vs →
  Post X.K X.mg W G σ H (fun G' H' x v => RW X.K G' H' x v) Q (f v vs M) → r x xs H Q
def mM (T : String) (f : MF) (o : EM) (ms : AM) : EM := fun s M => (o s M).bind fun v M1 => if tyOk T v M1 = true then (ms s M1).bind fun vs M2 => f v vs M2 else .bad
theorem se_meth {o : Expr} {mo : EM} {name : Str} {apos cpos : Pos} {r : V → List V → Hp → VK → Prop} {f : MF} (pa : PlainAttrs T) (slot : Slot T name id) (hty : typeOf (.builtin id) = pure (.type "method_descriptor")) (hm : MtR X id r) (z : MtZ X r f) (ho : SE X W o mo) (ha : SA X W (e :: es) ms)
    (hbase : attributeBase o name X.env (eval o X.env) = eval o X.env := by rfl)
    (hfew : ((backTo cpos (starEach (e :: es) X.env)).all (fun x => !x.1) && (backToKw cpos (keywordEach [] X.env)).all (fun x => x.1.isSome)
      && decide ((e :: es).length + ([] : List Keyword).length + (if ([] : List Keyword).isEmpty then 0 else 1) < 30)) = true := by rfl)
    (hline : (apos.endLine == cpos.line) = true := by rfl) (hs : starEach (e :: es) X.env = (false, eval e X.env) :: starEach es X.env := by rfl) (hplain : (backTo cpos (starEach es X.env)).any (·.1) = false := by rfl) :
    SE X W (.Call (.Attribute o name apos) (e :: es) [] cpos) (mM T f mo ms) := by
  refine ⟨peImp (pe_bm pa slot hty hm ho.pe ha.pa hbase hfew hline hs hplain) fun σ H Q ⟨G, s, M, S, N, p⟩ => ⟨G, s, M, S, N, Post.bind p fun v M1 G1 H1 x e1 S1 r1 p1 => ?_⟩⟩
  split at p1
  · rename_i ht
    exact ⟨tyOk_ok S1 r1 ht, G1, s, M1, S1, N.ext e1, Post.bind p1 fun vs M2 G2 H2 xs e2 S2 r2 p2 => z W G2 M2 σ H2 Q x v xs vs S2 (RW.ext e2 r1) r2 p2⟩
  · exact p1.elim
theorem se_meth0 {o : Expr} {mo : EM} {name : Str} {apos cpos : Pos} {r : V → List V → Hp → VK → Prop} {f : MF} (pa : PlainAttrs T) (slot : Slot T name id) (hty : typeOf (.builtin id) = pure (.type "method_descriptor")) (hm : MtR X id r) (z : MtZ X r f) (ho : SE X W o mo)
    (hbase : attributeBase o name X.env (eval o X.env) = eval o X.env := by rfl) (hline : (apos.endLine == cpos.line) = true := by rfl) : SE X W (.Call (.Attribute o name apos) [] [] cpos) (mM T f mo mNil) := by
  refine ⟨peImp (pe_bm0 pa slot hty hm ho.pe hbase hline) fun σ H Q ⟨G, s, M, S, N, p⟩ => ⟨G, s, M, S, N, Post.bind p fun v M1 G1 H1 x e1 S1 r1 p1 => ?_⟩⟩
  split at p1
  · rename_i ht
    exact ⟨tyOk_ok S1 r1 ht, z W G1 M1 σ H1 Q x v [] [] S1 r1 .nil p1⟩
  · exact p1.elim
theorem Paired.dropLast {α β : Type} {F : α → β → Prop} : ∀ {l : List α} {m : List β}, Paired F l m → Paired F l.dropLast m.dropLast
  | _, _, .nil => .nil
  | _, _, .cons h .nil => .nil
  | _, _, .cons h (.cons h2 t) => .cons h (Paired.dropLast (.cons h2 t))
theorem Paired.eraseIdx {α β : Type} {F : α → β → Prop} : ∀ {l : List α} {m : List β} (k : Nat), Paired F l m → Paired F (l.eraseIdx k) (m.eraseIdx k)
  | _, _, _, .nil => .nil
  | _, _, 0, .cons h t => t
  | _, _, k + 1, .cons h t => .cons h (Paired.eraseIdx k t)
theorem Paired.take {α β : Type} {F : α → β → Prop} : ∀ {l : List α} {m : List β} (k : Nat), Paired F l m → Paired F (l.take k) (m.take k)
  | _, _, 0, _ => .nil
  | _, _, _ + 1, .nil => .nil
  | _, _, k + 1, .cons h t => .cons h (Paired.take k t)
theorem Paired.drop {α β : Type} {F : α → β → Prop} : ∀ {l : List α} {m : List β} (k : Nat), Paired F l m → Paired F (l.drop k) (m.drop k)
  | _, _, 0, h => h
  | _, _, _ + 1, .nil => .nil
  | _, _, k + 1, .cons h t => Paired.drop k t
theorem Paired.setP {α β : Type} {F : α → β → Prop} {a : α} {b : β} (h : F a b) : ∀ {l : List α} {m : List β} (k : Nat), Paired F l m → Paired F (l.set k a) (m.set k b)
  | _, _, _, .nil => .nil
  | _, _, 0, .cons _ t => .cons h t
  | _, _, k + 1, .cons g t => .cons g (Paired.setP h k t)
/-- a list at a place is written -/
theorem write_lst {G : Gh} {M : Mm} {H : Hp} {i : Nat} {a : Addr} {vs : List Val} {ys : List V} {us : List Val} (S : SimM X.K X.mg G M H) (hi : G.φ[i]? = some a) (ho : M[i]? = some (.lst vs)) (r : RWs X.K G H ys us) :
    SimM X.K X.mg G (M.set i (.lst us)) (upd H a (.lst ys)) ∧ Ext G H G (upd H a (.lst ys)) := by
  obtain ⟨nF, xs, hx, rx⟩ := S.obj i a _ hi ho
  exact S.write hi nF (fun zs z => by rw [hx] at z; cases z) (fun q v z => by rw [hx] at z; cases z) fun e => ⟨nF, ys, upd_same, RWs.ext e r⟩
def vAppend : MF := fun v vs M => match v, vs with
  | .obj i, [w] => match M[i]? with
    | some (.lst us) => if us.length < 16777216 then .ok (.d .none) (M.set i (.lst (us ++ [w]))) else .bad
    | _ => .bad
  | _, _ => .bad
theorem mz_append : MtZ X rAppend vAppend := by
  intro W G M σ H Q x v xs vs S r1 r2 p
  unfold vAppend at p
  split at p
  · rename_i i w
    obtain ⟨a, rfl, hi⟩ := r1
    cases r2 with
    | @cons y _ _ _ r2 r3 =>
      cases r3
      split at p
      · rename_i us ho
        obtain ⟨nF, zs, hx, rx⟩ := S.obj i a _ hi ho
        split at p
        · rename_i hl
          obtain ⟨S2, e2⟩ := write_lst S hi ho (Paired.app rx (.cons r2 .nil))
          exact ⟨a, zs, _, rfl, rfl, hx, by rw [Paired.len rx]; exact hl, p G _ _ e2 S2 RV.non⟩
        · exact p.elim
      · exact p.elim
  · exact p.elim
def vPop : MF := fun v vs M => match v, vs with
  | .obj i, [] => match M[i]? with
    | some (.lst us) => match us[us.length - 1]? with
      | some w => .ok (rd w M) (M.set i (.lst us.dropLast))
      | none => .bad
    | _ => .bad
  | .obj i, [.d (.int k)] => match M[i]? with
    | some (.lst us) => if -9223372036854775808 ≤ k ∧ k < 9223372036854775808 then match seqIndex? k us.length with
      | some j => match us[j]? with
        | some w => .ok (rd w M) (M.set i (.lst (us.eraseIdx j)))
        | none => .bad
      | none => .bad else .bad
    | _ => .bad
  | _, _ => .bad
theorem mz_pop : MtZ X (fun x vs H Q => rPop x vs H Q ∨ rPopAt x vs H Q) vPop := by
  intro W G M σ H Q x v xs vs S r1 r2 p
  unfold vPop at p
  split at p
  · rename_i i
    obtain ⟨a, rfl, hi⟩ := r1
    cases r2
    split at p
    · rename_i us ho
      obtain ⟨nF, zs, hx, rx⟩ := S.obj i a _ hi ho
      split at p
      · rename_i w hw
        obtain ⟨y, e1, e2⟩ := RWs.get rx hw
        obtain ⟨S2, e3⟩ := write_lst S hi ho (Paired.dropLast rx)
        exact .inl ⟨a, zs, y, rfl, rfl, hx, by rw [Paired.len rx]; exact e1, p G _ _ e3 S2 (RW.ext e3 (rd_ok S e2))⟩
      · exact p.elim
    · exact p.elim
  · rename_i i k
    obtain ⟨a, rfl, hi⟩ := r1
    cases r2 with
    | @cons y _ _ _ r2 r3 =>
      cases r3
      have r2 : RV X.K G.F H y (.int k) := r2
      cases r2
      split at p
      · rename_i us ho
        obtain ⟨nF, zs, hx, rx⟩ := S.obj i a _ hi ho
        split at p
        · rename_i hk
          split at p
          · rename_i j hj
            split at p
            · rename_i w hw
              obtain ⟨y, e1, e2⟩ := RWs.get rx hw
              obtain ⟨S2, e3⟩ := write_lst S hi ho (Paired.eraseIdx j rx)
              exact .inr ⟨a, zs, k, j, y, rfl, rfl, hx, by omega, by omega, by rw [Paired.len rx]; exact hj, e1, p G _ _ e3 S2 (RW.ext e3 (rd_ok S e2))⟩
            · exact p.elim
          · exact p.elim
        · exact p.elim
      · exact p.elim
  · exact p.elim
def vExtend : MF := fun v vs M => match v, vs with
  | .obj i, [w] => match M[i]?, trackD w M with
    | some (.lst us), some ds => if us.length + ds.length ≤ 16777216 then .ok (.d .none) (M.set i (.lst (us ++ ds.map .d))) else .bad
    | _, _ => .bad
  | _, _ => .bad
theorem mz_extend : MtZ X rExtend vExtend := by
  intro W G M σ H Q x v xs vs S r1 r2 p
  unfold vExtend at p
  split at p
  · rename_i i w
    obtain ⟨a, rfl, hi⟩ := r1
    cases r2 with
    | @cons y _ _ _ r2 r3 =>
      cases r3
      split at p
      · rename_i us ds ho hd
        obtain ⟨nF, zs, hx, rx⟩ := S.obj i a _ hi ho
        obtain ⟨b, ys, rfl, hb, rb⟩ := trackD_ok S r2 hd
        split at p
        · rename_i hl
          obtain ⟨S2, e2⟩ := write_lst S hi ho (Paired.app rx (RVs.rws rb))
          exact ⟨a, b, zs, ys, rfl, rfl, hx, hb, by rw [Paired.len rx, rb.len]; exact hl, p G _ _ e2 S2 RV.non⟩
        · exact p.elim
      · exact p.elim
  · exact p.elim
def vInsert : MF := fun v vs M => match v, vs with
  | .obj i, [.d (.int k), w] => match M[i]? with
    | some (.lst us) => if us.length < 16777216 ∧ 0 ≤ k ∧ k < 9223372036854775808 then .ok (.d .none) (M.set i (.lst (us.take k.toNat ++ [w] ++ us.drop k.toNat))) else .bad
    | _ => .bad
  | _, _ => .bad
theorem mz_insert : MtZ X (fun x vs H Q => ∃ (l : Addr) (xs : List V) (i : Int) (y : V), x = .ref l ∧ vs = [.int i, y] ∧ H l = some (.lst xs) ∧ xs.length < sizeLine ∧ 0 ≤ i ∧ i < 2 ^ 63 ∧
    Q .non (upd H l (.lst (xs.take i.toNat ++ [y] ++ xs.drop i.toNat)))) vInsert := by
  intro W G M σ H Q x v xs vs S r1 r2 p
  unfold vInsert at p
  split at p
  · rename_i i k w
    obtain ⟨a, rfl, hi⟩ := r1
    cases r2 with
    | @cons y _ _ _ r2 r3 =>
      cases r3 with
      | @cons z _ _ _ r3 r4 =>
        cases r4
        have r2 : RV X.K G.F H y (.int k) := r2
        cases r2
        split at p
        · rename_i us ho
          obtain ⟨nF, zs, hx, rx⟩ := S.obj i a _ hi ho
          split at p
          · rename_i hk
            obtain ⟨S2, e3⟩ := write_lst S hi ho (Paired.app (Paired.app (Paired.take k.toNat rx) (.cons r3 .nil)) (Paired.drop k.toNat rx))
            exact ⟨a, zs, k, z, rfl, rfl, hx, by rw [Paired.len rx]; exact hk.1, hk.2.1, by have := hk.2.2; omega, p G _ _ e3 S2 RV.non⟩
          · exact p.elim
        · exact p.elim
  · exact p.elim

/-! ### o[i] = v -/
abbrev SetF := Val → Val → Val → Mm → Option Mm
def SetZ (X : Cx) (t : TSet) (f : SetF) : Prop := ∀ (G : Gh) (M : Mm) (H : Hp) (Q : Hp → Prop) (o i x : V) (vo vi v : Val), SimM X.K X.mg G M H → RW X.K G H o vo → RW X.K G H i vi → RW X.K G H x v →
  (match f vo vi v M with
    | some M' => ∀ G' H', Ext G H G' H' → SimM X.K X.mg G' M' H' → Q H'
    | none => False) → t o i x H Q
def gSet (mo mi : EM) (f : SetF) : GM := fun v s M => match mo s M with
  | .ok o M1 => match mi s M1 with
    | .ok i M2 => (f o i v M2).map fun M3 => (s, M3)
    | _ => none
  | _ => none
theorem sg_sub {o i : Expr} {mo mi : EM} {t : TSet} {f : SetF} (ho : ∀ W, SE X W o mo) (hi : ∀ W, SE X W i mi) (hs : PSet X t) (z : SetZ X t f)
    (ha : ∀ v, assign (.Subscript o i pos) X.env v = (do
      let ov ← holding [v] (eval o X.env)
      let iv ← holding [v, ov] (eval i X.env)
      standAt pos
      holding [v, ov, iv] (setItem ov iv v)
      release [v, ov, iv] []) := by intro _; rfl) : SG X (.Subscript o i pos) (gSet mo mi f) := by
  refine ⟨pgImp (pg_sub (ho fun _ _ _ _ => False).pe (hi fun _ _ _ _ => False).pe hs ha) fun x σ H Q ⟨G, s, M, v, S, N, r, p⟩ => ?_⟩
  unfold gSet at p
  refine ⟨G, s, M, S, N, ?_⟩
  cases q : mo s M with
  | bad => rw [q] at p; exact p.elim
  | er _ _ => rw [q] at p; exact p.elim
  | ok vo M1 =>
    rw [q] at p
    refine fun G1 H1 xo e1 S1 r1 => ⟨G1, s, M1, S1, N.ext e1, ?_⟩
    dsimp only at p
    cases q2 : mi s M1 with
    | bad => rw [q2] at p; exact p.elim
    | er _ _ => rw [q2] at p; exact p.elim
    | ok vi M2 =>
      rw [q2] at p
      dsimp only at p
      refine fun G2 H2 xi e2 S2 r2 => z G2 M2 H2 _ xo xi x vo vi v S2 (RW.ext e2 r1) r2 (RW.ext (e1.trans e2) r) ?_
      cases q3 : f vo vi v M2 with
      | none => rw [q3] at p; exact p.elim
      | some M3 => rw [q3] at p; exact fun G3 H3 e3 S3 => p G3 H3 σ ((e1.trans e2).trans e3) S3 (((N.ext e1).ext e2).ext e3)
def vSetL : SetF := fun o i v M => match o, i with
  | .obj j, .d (.int k) => match M[j]? with
    | some (.lst vs) => match ixN vs.length k with
      | some n => some (M.set j (.lst (vs.set n v)))
      | none => none
    | _ => none
  | _, _ => none
theorem sz_list : SetZ X rSetL vSetL := by
  intro G M H Q o i x vo vi v S r1 r2 r3 p
  unfold vSetL at p
  split at p
  · rename_i M' e
    split at e
    · rename_i j k
      obtain ⟨a, rfl, hj⟩ := r1
      have r2 : RV X.K G.F H i (.int k) := r2
      cases r2
      split at e
      · rename_i vs ho
        obtain ⟨nF, zs, hx, rx⟩ := S.obj j a _ hj ho
        split at e
        · rename_i n hn
          cases e
          obtain ⟨S2, e3⟩ := write_lst S hj ho (Paired.setP r3 n rx)
          exact ⟨a, zs, k, n, rfl, rfl, hx, by rw [Paired.len rx]; exact hn, p G _ e3 S2⟩
        · cases e
      · cases e
    · cases e
  · exact p.elim
end
end Zm
namespace Zm
open PySem PySem.Spec PyProof.Rows L2

/-! ### enumerate of a tuple -/
set_option maxHeartbeats 1000000 in
theorem meets_enum1 {v : Value} {o : Obj} {H : Heap → Prop} (B : Begins v o H) :
    Meets (Builtin.«enumerate.__new__» ⟨[.type "enumerate", v], []⟩) (fun _ R s => H s.heap ∧
      R (.ok (.ret (.ref (s.heap.push o).objs.size))) { s with heap := (s.heap.push o).push { cls := .type "enumerate", data := .fields #[.none, .bool false, .ref s.heap.objs.size, rawInt 0, .none, .none] } }) := by
  refine Meets.of_wp fun prog w A R s h => ?_
  obtain ⟨hp, g, d, tk, os⟩ := s
  obtain ⟨h1, h⟩ := h
  have hsub := sub_enumerate
  have beg : ∀ {A' : Around} {E : Value → Shared → Prop} {Q : Value → Shared → Prop}, Q (.ref hp.objs.size) ⟨hp.push o, g, d, tk, os⟩ → wpAny (model prog w) A' (pyIter v) Q E ⟨hp, g, d, tk, os⟩ := by
    intro A' E Q q
    exact B.iter prog w _ _ ⟨hp, g, d, tk, os⟩ _ h1 q
  wp_walk using beg
  refine wpAny_stack_any fun st => wpAny_pure ?_
  split
  · rename_i c _ _ _ _ _
    cases (c == Value.type "enumerate") <;> (wp_walk using beg; exact ⟨_, rfl, h⟩)
  · wp_walk using beg
    exact ⟨_, rfl, h⟩
section
variable {prog : Program} {w : World} {A : Around} {E : Value → Shared → Prop} {s : Shared}
theorem call_enum1 {v : Value} {o : Obj} {H : Heap → Prop} {Q : Value → Shared → Prop} (B : Begins v o H) (h1 : H s.heap)
    (h : ∀ h', IsEnum h' (s.heap.objs.size + 1) s.heap.objs.size 0 .none → h'.get? s.heap.objs.size = some o → (∀ b o, s.heap.get? b = some o → h'.get? b = some o) → Q (.ref (s.heap.objs.size + 1)) { s with heap := h' }) :
    wpAny (model prog w) A (call (.type "enumerate") [v]) Q E s := by
  refine callType_new F.called_enumerate (by decide) (F.typeCall_enumerate_1 _) (F.newCall_enumerate_1 _) (fun obj => F.args_object_init_2 obj _) F.entry_enumerate_new (meets_enum1 B) ⟨h1, ?_⟩
  have hz : (s.heap.push o).objs.size = s.heap.objs.size + 1 := Heap.size_push ..
  show _ ∧ _
  rw [hz]
  have he : IsEnum ((s.heap.push o).push { cls := .type "enumerate", data := .fields #[.none, .bool false, .ref s.heap.objs.size, rawInt 0, .none, .none] }) (s.heap.objs.size + 1) s.heap.objs.size 0 .none := by
    have q := Heap.get?_push_size (s.heap.push o) (o := { cls := .type "enumerate", data := .fields #[.none, .bool false, .ref s.heap.objs.size, rawInt 0, .none, .none] }) rfl
    rw [hz] at q
    exact q
  exact ⟨⟨_, he, rfl⟩, h _ he (Heap.get?_push_of_some _ (Heap.get?_push_size _ B.free)) fun b o x => Heap.get?_push_of_some _ (Heap.get?_push_of_some _ x)⟩
end
/-- the tuple at a, each item with its place in a new pair -/
def IteT (K : PySem.W.Frag) (a : Addr) : It :=
  ⟨fun i H => ∃ (xs : List V) (x : V), SqT K H a xs ∧ xs[i]? = some x, fun i H v H' => ∃ T x, v = .ref T ∧ H T = none ∧ H' = upd H T (.tup [.int (i : Nat), x]) ∧ ∀ xs, SqT K H a xs → xs[i]? = some x,
    fun i H => ∃ xs : List V, SqT K H a xs ∧ xs.length = i⟩
theorem turn_enumT {P : Program} {w : World} {K : PySem.W.Frag} {elts : List Expr} {kk : Nat} {tpos : Pos} (a e it : Addr) :
    Turn P w K (.Tuple elts kk tpos) (IteT K a) [e, it] e (fun i h => (∃ old, IsEnum h e it ((i : Nat) : Int) old) ∧ h.IsTupleIter it a i ∧ e ≠ it) where
  mem := by simp
  obj := by
    rintro i h ⟨⟨old, he⟩, ⟨o, ho, hc, hd⟩, _⟩ b hb
    have e' : b = e ∨ b = it := by simpa using hb
    rcases e' with rfl | rfl
    · exact ⟨_, he, fun v q => nomatch q⟩
    · exact ⟨o, ho, fun v q => by rw [hd] at q; cases q⟩
  keep := fun i h h' st k => let ⟨⟨old, he⟩, hi, hne⟩ := st; ⟨⟨old, k e (by simp) _ he⟩, hi.at fun o q => k it (by simp) o q, hne⟩
  item := by
    intro X hP hw hK hc i pins s σ H E I hf st hg
    subst hP hw hK
    obtain ⟨⟨old, he⟩, hit, hne⟩ := st
    obtain ⟨xs, x, hq, hx⟩ := hg
    obtain ⟨its, rv, p, hz⟩ := I.tuple hq
    obtain ⟨u, hu, ru⟩ := rv.get hx
    have hti : a ≠ it := by
      intro z
      obtain ⟨o, ho, hc', _⟩ := hit
      obtain ⟨o', ho', hc2, _⟩ := p
      rw [z, ho] at ho'
      cases ho'
      rw [hc'] at hc2
      exact absurd (Value.type.inj hc2) (by decide)
    have hte : e ≠ a := by
      intro z
      obtain ⟨o', ho', hc2, _⟩ := p
      have he' : s.heap.get? e = _ := he
      rw [z, ho'] at he'
      cases he'
      exact absurd (Value.type.inj hc2) (by decide)
    have hel : e < s.heap.objs.size := Heap.lt_size he
    have hil : it < s.heap.objs.size := by obtain ⟨_, q, _⟩ := hit; exact Heap.lt_size q
    have D := Draws.tuple (prog := X.prog) (w := X.w) (A := X.A.in1) (show X.A.in1.handled = none from I.ok.hd hc) it a hti its.toArray
    have hlt : i < its.toArray.size := by
      have := (List.getElem?_eq_some_iff.mp hu).1
      simpa using this
    refine wpAny_pyNext_enum_itemD D he ⟨hit, p⟩ hlt hne (by simp [hne, hte]) fun y h' tk hy ho hst hT hsz hk => ?_
    have ey : y = u := by
      have hy : its.toArray[i]? = some y := hy
      have : its[i]? = some y := by simpa using hy
      rw [hu] at this
      exact (Option.some.inj this).symm
    subst ey
    refine ⟨_, rfl, wpAny_letOwnedTupleGo_enum (s := { s with heap := h', toks := tk + 1 }) ho fun h'' he' sb => ?_⟩
    have hT2 : h''.get? s.heap.objs.size = some { cls := .type "tuple", data := .seq #[.int i tk, y] } := (sb.2 _ (Nat.ne_of_gt hel)).trans hT
    have new : ObjOk X.prog X.w (upd H s.heap.objs.size (.tup [.int (i : Nat), x])) h'' s.heap.objs.size (.tup [.int (i : Nat), x]) :=
      ⟨by show 2 ≤ sizeLine; decide, [.int i tk, y], .cons ⟨_, rfl⟩ (.cons ru .nil), ⟨_, hT2, rfl, _, rfl⟩⟩
    have I1 : Inv X pins σ (upd H s.heap.objs.size (.tup [.int (i : Nat), x])) { s with heap := h'', toks := tk + 1 } := by
      refine I.turnedNew (ch := [e, it]) (fun b ob hb q => ?_) hf (Nat.le_refl _) new
      exact (sb.2 b (fun z => hb (by simp [z]))).trans (hk b ob (fun z => hb (by simp [z])) (fun z => hb (by simp [z])) q)
    refine ⟨.ref s.heap.objs.size, _, I1, rfl, ⟨_, x, rfl, I.hok.fresh (Nat.le_refl _), rfl, fun ys hy => by rw [I.tuple_inj hy hq]; exact hx⟩, ⟨⟨y, ?_⟩, hst.1.at fun o q => (sb.2 it (Ne.symm hne)).trans q, hne⟩, fun b hb => ?_⟩
    · have e1 : ((i + 1 : Nat) : Int) = (i : Int) + 1 := by omega
      rw [e1]; exact he'
    · have hb' : b < s.heap.objs.size := by
        have e' : b = e ∨ b = it := by simpa using hb
        rcases e' with rfl | rfl
        · exact hel
        · exact hil
      rw [upd_ne (Nat.ne_of_lt hb')]
      exact (hf b hb).1
  done := by
    intro X hP hw hK hc i pins s σ H E I hf st hg
    subst hP hw hK
    obtain ⟨⟨old, he⟩, hit, hne⟩ := st
    obtain ⟨xs, hq, hx⟩ := hg
    obtain ⟨its, rv, p, hz⟩ := I.tuple hq
    obtain ⟨f0, f1, f2, f3, f4, f5⟩ := hf it (by simp)
    have hl := rv.length
    have hti : a ≠ it := by
      intro z
      obtain ⟨o, ho, hc', _⟩ := hit
      obtain ⟨o', ho', hc2, _⟩ := p
      rw [z, ho] at ho'
      cases ho'
      rw [hc'] at hc2
      exact absurd (Value.type.inj hc2) (by decide)
    have D := Draws.tuple (prog := X.prog) (w := X.w) (A := X.A.in1) (show X.A.in1.handled = none from I.ok.hd hc) it a hti its.toArray
    have ei : i = its.toArray.size := by simp; omega
    exact wpAny_pyNext_enum_endD D he (by rw [← ei]; exact ⟨hit, p⟩) fun h' eb => ⟨rfl, I.turned (t' := s.toks) (fun b o hb q => eb b o hb q) f0 f1 f3 f4 f5⟩
  self := fun A i s Q E st h => let ⟨⟨_, he⟩, _⟩ := st; wpAny_pyIter_enum he h
def iEnumT (K : PySem.W.Frag) (ta : TA) : TI := fun σ H R => ta σ H fun vs H1 => ∃ a xs, vs = [.ref a] ∧ SqT K H1 a xs ∧ R (IteT K a) H1
theorem pi_enumT {X : Cx} {e : Expr} {ta : TA} {p pos tpos : Pos} {elts : List Expr} {kk : Nat} (hg : Gl X "enumerate") (hm : X.mg "enumerate" = none) (ha : PA X [e] ta) (hs : starEach [e] X.env = [(false, eval e X.env)] := by rfl) :
    PI X (.Tuple elts kk tpos) (.Call (.Name "enumerate" p) [e] [] pos) (iEnumT X.K ta) := by
  refine ⟨fun pins s σ H R I h => ?_⟩
  refine Call_ (ld_blt I hg hm boot_enumerate (PyProof.Rows.callWith_type1 (thn (ha.run pos pins s σ H _ I h) fun us s1 ⟨vs, H1, I1, r1, a, xs, ex, hq, q⟩ => ?_) hs rfl))
  subst ex
  cases r1 with
  | cons r rr =>
    cases rr
    cases r
    obtain ⟨its, rv, p', hz⟩ := I1.tuple hq
    refine call_enum1 (begins_tuple a its.toArray) p' fun h' he hit hk => wpAny_pyIter_enum he ?_
    have I2 : Inv X pins σ H1 { s1 with heap := h' } := I1.kept (t' := s1.toks) hk
    refine ⟨s1.heap.objs.size + 1, [s1.heap.objs.size + 1, s1.heap.objs.size], _, _, H1, rfl, I2, turn_enumT a (s1.heap.objs.size + 1) s1.heap.objs.size, ⟨⟨.none, he⟩, ⟨_, hit, rfl, rfl⟩, Nat.succ_ne_self _⟩, fun b hb => ?_, q⟩
    have e' : b = s1.heap.objs.size + 1 ∨ b = s1.heap.objs.size := by simpa using hb
    have hle : s1.heap.objs.size ≤ b := by
      rcases e' with z | z
      · rw [z]; exact Nat.le_add_right _ _
      · rw [z]; exact Nat.le_refl _
    exact I1.fpOk hle (I1.hok.fresh hle)

/-! ### what is walked, by values -/
section
variable {X : Cx} {W : WX}
theorem goes_list {K : PySem.W.Frag} {mg : Str → Option Value} {G : Gh} {H : Hp} {a : Addr} {xs : List V} {ds : List PyData} (hF : G.F a) (hx : H a = some (.lst xs)) (r : RVs K G.F H xs ds) : Goes K mg G H (Itl K a) (ds.map .d) := by
  intro G' H' e
  have hs : SqL K H' a xs := SqL.of (by rw [(e.fix a hF).2]; exact hx)
  have r' := RVs.ext e _ _ r
  refine ⟨fun i hi => ?_, ⟨xs, hs, by rw [List.length_map, r.len]; exact Nat.le_refl _⟩, fun i v hv M' S' x H'' ⟨e1, hy⟩ => ?_⟩
  · have hi' : i < xs.length := by rw [r.len]; simpa using hi
    exact ⟨xs, xs[i], hs, List.getElem?_eq_getElem hi'⟩
  · subst e1
    obtain ⟨x', e2, e3⟩ := RWs.get (RVs.rws r') hv
    have := hy xs hs
    rw [this] at e2
    cases e2
    exact ⟨G', .refl, S', e3⟩
theorem goes_scr {K : PySem.W.Frag} {mg : Str → Option Value} {G : Gh} {H : Hp} {a : Addr} {ns : List Int} (h : Scr K H a (ns.map V.int)) : Goes K mg G H (Itl K a) (ns.map fun n => .d (.int n)) := by
  intro G' H' e
  have hs : SqL K H' a (ns.map V.int) := (Scr.ext e h).sql
  refine ⟨fun i hi => ?_, ⟨_, hs, by simp⟩, fun i v hv M' S' x H'' ⟨e1, hy⟩ => ?_⟩
  · have hi' : i < (ns.map V.int).length := by simpa using hi
    exact ⟨_, _, hs, List.getElem?_eq_getElem hi'⟩
  · subst e1
    have h1 := hy _ hs
    rw [List.getElem?_map] at h1 hv
    cases q : ns[i]? with
    | none => rw [q] at hv; cases hv
    | some n =>
      rw [q] at h1 hv
      cases h1; cases hv
      exact ⟨G', .refl, S', RV.int n⟩
theorem goes_tup {K : PySem.W.Frag} {mg : Str → Option Value} {G : Gh} {H : Hp} {a : Addr} {xs : List V} {ds : List PyData} (hx : SqT K H a xs) (r : RVs K G.F H xs ds) : Goes K mg G H (Itt K a) (ds.map .d) := by
  intro G' H' e
  have hs : SqT K H' a xs := SqT.ext e hx
  have r' := RVs.ext e _ _ r
  refine ⟨fun i hi => ?_, ⟨xs, hs, by rw [List.length_map, r.len]; exact Nat.le_refl _⟩, fun i v hv M' S' x H'' ⟨e1, hy⟩ => ?_⟩
  · have hi' : i < xs.length := by rw [r.len]; simpa using hi
    exact ⟨xs, xs[i], hs, List.getElem?_eq_getElem hi'⟩
  · subst e1
    obtain ⟨x', e2, e3⟩ := RWs.get (RVs.rws r') hv
    have := hy xs hs
    rw [this] at e2
    cases e2
    exact ⟨G', .refl, S', e3⟩
theorem si_seq {tg e : Expr} {m : EM} (h : SE X W e m) (hL : PI X tg e (iList X.K (TEm X.K X.mg W m))) (hT : PI X tg e (iTup X.K (TEm X.K X.mg W m))) : SI X W tg e (mIt m) := by
  refine ⟨piImp (piOr hL hT) fun σ H R ⟨G, s, M, S, N, p⟩ => ?_⟩
  unfold mIt at p
  cases q : m s M with
  | bad => rw [q] at p; exact p.elim
  | er y M' => rw [q] at p; exact .inl ⟨G, s, M, S, N, by rw [q]; exact p⟩
  | ok v M1 =>
    rw [q] at p
    replace p : Post X.K X.mg W G σ H (fun G' H' J vs => Goes X.K X.mg G' H' J vs) R (itK v M1) := p
    unfold itK at p
    split at p
    · rename_i ds
      refine .inl ⟨G, s, M, S, N, ?_⟩
      rw [q]
      intro G1 H1 x e1 S1 r1
      have r1 : RV X.K G1.F H1 x (.list ds) := r1
      cases r1 with
      | lst h0 h1 h2 => exact ⟨_, rfl, ⟨_, SqL.of h1⟩, p G1 H1 _ e1 S1 (goes_list h0 h1 h2)⟩
    · rename_i ds
      refine .inr ⟨G, s, M, S, N, ?_⟩
      rw [q]
      intro G1 H1 x e1 S1 r1
      have r1 : RV X.K G1.F H1 x (.tuple ds) := r1
      cases r1 with
      | tup h1 h2 => exact ⟨_, rfl, ⟨_, SqT.of h1⟩, p G1 H1 _ e1 S1 (goes_tup (SqT.of h1) h2)⟩
    · rename_i ns
      refine .inl ⟨G, s, M, S, N, ?_⟩
      rw [q]
      intro G1 H1 x e1 S1 ⟨a, ex, h1⟩
      exact ⟨a, ex, ⟨_, h1.sql⟩, p G1 H1 _ e1 S1 (goes_scr h1)⟩
    · exact p.elim
def pairs0 (ds : List PyData) : List Val := ds.zipIdx.map fun p => .d (.tuple [.int (p.2 : Nat), p.1])
def enumK (vs : List Val) (M1 : Mm) : Out (List Val) := match vs with
  | [.d (.list ds)] => .ok (pairs0 ds) M1
  | [.d (.tuple ds)] => .ok (pairs0 ds) M1
  | _ => .bad
def mEnum (ms : AM) : AM := fun s M => (ms s M).bind enumK
theorem goes_enum {K : PySem.W.Frag} {mg : Str → Option Value} {G : Gh} {H : Hp} {J : It} {xs : List V} {ds : List PyData} (r : RVs K G.F H xs ds)
    (hgo : ∀ G' H', Ext G H G' H' → ∀ i, i < xs.length → J.go i H') (hst : ∀ G' H', Ext G H G' H' → J.stop xs.length H')
    (hy : ∀ G' H', Ext G H G' H' → ∀ i v H'', J.yld i H' v H'' → ∃ T x, v = .ref T ∧ H' T = none ∧ H'' = upd H' T (.tup [.int (i : Nat), x]) ∧ xs[i]? = some x) : Goes K mg G H J (pairs0 ds) := by
  intro G' H' e
  have r' := RVs.ext e _ _ r
  have hl : (pairs0 ds).length = xs.length := by simp [pairs0, r.len]
  refine ⟨fun i hi => hgo G' H' e i (by rw [← hl]; exact hi), by rw [hl]; exact hst G' H' e, fun i v hv M' S' x H'' y => ?_⟩
  obtain ⟨T, z, rfl, hT, rfl, hz⟩ := hy G' H' e i x H'' y
  obtain ⟨S2, e2⟩ := S'.lay (o := .tup [.int (i : Nat), z]) hT
  refine ⟨G', e2, S2, ?_⟩
  unfold pairs0 at hv
  rw [List.getElem?_map, List.getElem?_zipIdx] at hv
  cases q : ds[i]? with
  | none => rw [q] at hv; cases hv
  | some d =>
    rw [q] at hv
    obtain ⟨x', e3, e4⟩ := RVs.get r' q
    rw [hz] at e3
    cases e3
    have : v = .d (.tuple [.int ((0 + i : Nat) : Int), d]) := by simpa using hv.symm
    subst this
    rw [Nat.zero_add]
    exact RV.tup upd_same (.cons (.int _) (.cons (RV.ext e2 _ _ e4) .nil))
theorem si_enum {tg e : Expr} {ms : AM} (h : SA X W [e] ms) (hL : PI X tg i_ (iEnum X.K (TAm X.K X.mg W ms))) (hT : PI X tg i_ (iEnumT X.K (TAm X.K X.mg W ms))) : SI X W tg i_ (mEnum ms) := by
  refine ⟨piImp (piOr hL hT) fun σ H R ⟨G, s, M, S, N, p⟩ => ?_⟩
  unfold mEnum at p
  cases q : ms s M with
  | bad => rw [q] at p; exact p.elim
  | er y M' => rw [q] at p; exact .inl ⟨G, s, M, S, N, by rw [q]; exact p⟩
  | ok vs M1 =>
    rw [q] at p
    replace p : Post X.K X.mg W G σ H (fun G' H' J vs => Goes X.K X.mg G' H' J vs) R (enumK vs M1) := p
    unfold enumK at p
    split at p
    · rename_i ds
      refine .inl ⟨G, s, M, S, N, ?_⟩
      rw [q]
      intro G1 H1 x e1 S1 r1
      cases r1 with
      | cons r1 r2 =>
        cases r2
        have r1 : RV X.K G1.F H1 _ (.list ds) := r1
        cases r1 with
        | @lst a xs _ h0 h1 h2 =>
          have hs : ∀ G' H', Ext G1 H1 G' H' → SqL X.K H' a xs := fun G' H' e => SqL.of (by rw [(e.fix a h0).2]; exact h1)
          refine ⟨_, _, rfl, SqL.of h1, p G1 H1 _ e1 S1 (goes_enum h2 (fun G' H' e i hi => ⟨xs, xs[i], hs G' H' e, List.getElem?_eq_getElem hi⟩) (fun G' H' e => ⟨xs, hs G' H' e, Nat.le_refl _⟩) fun G' H' e i v H'' ⟨T, z, e1, e2, e3, e4⟩ => ⟨T, z, e1, e2, e3, e4 _ (hs G' H' e)⟩)⟩
    · rename_i ds
      refine .inr ⟨G, s, M, S, N, ?_⟩
      rw [q]
      intro G1 H1 x e1 S1 r1
      cases r1 with
      | cons r1 r2 =>
        cases r2
        have r1 : RV X.K G1.F H1 _ (.tuple ds) := r1
        cases r1 with
        | @tup a xs _ h1 h2 =>
          have hs : ∀ G' H', Ext G1 H1 G' H' → SqT X.K H' a xs := fun G' H' e => SqT.ext e (SqT.of h1)
          refine ⟨_, _, rfl, SqT.of h1, p G1 H1 _ e1 S1 (goes_enum h2 (fun G' H' e i hi => ⟨xs, xs[i], hs G' H' e, List.getElem?_eq_getElem hi⟩) (fun G' H' e => ⟨xs, hs G' H' e, rfl⟩) fun G' H' e i v H'' ⟨T, z, e1, e2, e3, e4⟩ => ⟨T, z, e1, e2, e3, e4 _ (hs G' H' e)⟩)⟩
    · exact p.elim
/-- range -/
def rangeL (lo : Int) (n : Nat) : List Val := (List.range n).map fun i => .d (.int (lo + (i : Nat)))
def smallR (i : Int) : Bool := decide (-4611686018427387904 ≤ i) && decide (i < 4611686018427387904)
def range1 (vs : List Val) (M1 : Mm) : Out (List Val) := match vs with
  | [.d (.int j)] => if smallR j then .ok (rangeL 0 j.toNat) M1 else .bad
  | _ => .bad
def range2 (vs : List Val) (M1 : Mm) : Out (List Val) := match vs with
  | [.d (.int i), .d (.int j)] => if smallR i && smallR j then .ok (rangeL i (j - i).toNat) M1 else .bad
  | _ => .bad
def mRange1 (ms : AM) : AM := fun s M => (ms s M).bind range1
def mRange2 (ms : AM) : AM := fun s M => (ms s M).bind range2
theorem smallR_ok {i : Int} (h : smallR i = true) : -(2 ^ 62) ≤ i ∧ i < 2 ^ 62 := by
  unfold smallR at h
  rw [Bool.and_eq_true, decide_eq_true_eq, decide_eq_true_eq] at h
  exact ⟨by have := h.1; omega, by have := h.2; omega⟩
theorem goes_range {K : PySem.W.Frag} {mg : Str → Option Value} {G : Gh} {H : Hp} (lo : Int) (n : Nat) : Goes K mg G H (Itr lo n) (rangeL lo n) := by
  intro G' H' e
  refine ⟨fun i hi => by simpa [rangeL, Itr] using hi, by simp [rangeL, Itr], fun i v hv M' S' x H'' ⟨e1, e2⟩ => ?_⟩
  subst e1 e2
  unfold rangeL at hv
  rw [List.getElem?_map, List.getElem?_range] at hv
  · have : v = .d (.int (lo + (i : Nat))) := by simpa using hv.symm
    subst this
    exact ⟨G', .refl, S', RV.int _⟩
  · by_cases hi : i < n
    · exact hi
    · have : (List.range n)[i]? = none := List.getElem?_eq_none_iff.mpr (by simpa using Nat.le_of_not_lt hi)
      rw [this] at hv
      cases hv
theorem si_range1 {tg i_ : Expr} {ms : AM} (h : PI X tg i_ (iRng1 (TAm X.K X.mg W ms))) : SI X W tg i_ (mRange1 ms) := by
  refine ⟨piImp h fun σ H R ⟨G, s, M, S, N, p⟩ => ⟨G, s, M, S, N, Post.bind p fun vs M1 G1 H1 xs e1 S1 r1 p1 => ?_⟩⟩
  unfold range1 at p1
  split at p1
  · rename_i j
    cases r1 with
    | cons r1 r2 =>
      cases r2
      have r1 : RV X.K G1.F H1 _ (.int j) := r1
      cases r1
      split at p1
      · rename_i hj
        exact ⟨j, rfl, (smallR_ok hj).1, (smallR_ok hj).2, p1 G1 H1 _ .refl S1 (goes_range 0 _)⟩
      · exact p1.elim
  · exact p1.elim
theorem si_range2 {tg i_ : Expr} {ms : AM} (h : PI X tg i_ (iRng2 (TAm X.K X.mg W ms))) : SI X W tg i_ (mRange2 ms) := by
  refine ⟨piImp h fun σ H R ⟨G, s, M, S, N, p⟩ => ⟨G, s, M, S, N, Post.bind p fun vs M1 G1 H1 xs e1 S1 r1 p1 => ?_⟩⟩
  unfold range2 at p1
  split at p1
  · rename_i i j
    cases r1 with
    | cons r1 r2 =>
      cases r2 with
      | cons r2 r3 =>
        cases r3
        have r1 : RV X.K G1.F H1 _ (.int i) := r1
        have r2 : RV X.K G1.F H1 _ (.int j) := r2
        cases r1; cases r2
        split at p1
        · rename_i hj
          rw [Bool.and_eq_true] at hj
          exact ⟨i, j, rfl, ⟨(smallR_ok hj.1).1, (smallR_ok hj.1).2, (smallR_ok hj.2).1, (smallR_ok hj.2).2⟩, p1 G1 H1 _ .refl S1 (goes_range i _)⟩
        · exact p1.elim
  · exact p1.elim
/-- from one to a number, counted as a list of ints where it is read as a list -/
theorem se_glob {x : Str} {pos : Pos} {v : V} {u : Value} {y : PyData} (hg : Gl X x) (hm : X.mg x = some u) (r : RelV v u) (rv : ∀ F H, RV X.K F H v y) (h : PE X (.Name x pos) (tC v)) : SE X W (.Name x pos) (mC y) := se_c h rv
end
end Zm
namespace Zm
open PySem PySem.Spec PyProof.Rows L2

section
variable {K : PySem.W.Frag} {mg : Str → Option Value} {G G' : Gh} {H H' : Hp} {M : Mm}
theorem Ext.side (e : Ext G H G' H') {p : Addr} {o : HO} (hp : H p = none) (hF : ¬ G.F p) : Ext G H G' (upd H' p o) := by
  have ne : ∀ a, H a ≠ none → a ≠ p := fun a h z => h (z ▸ hp)
  refine ⟨⟨e.φ, fun a xs h => ?_, fun a q u h => ?_, fun a h => ?_⟩, fun a h h2 => ?_, e.φnew, e.Fnew⟩
  · rw [upd_ne (ne a (by rw [h]; simp))]; exact e.tup a xs h
  · rw [upd_ne (ne a (by rw [h]; simp))]; exact e.frz a q u h
  · have z : a ≠ p := fun z => hF (z ▸ h)
    rw [upd_ne z]; exact e.fix a h
  · rw [upd_ne (ne a h)]; exact e.keep a h h2
theorem ext0_side {p : Addr} {o : HO} (hF : ¬ G.F p) (ht : ∀ xs, H p ≠ some (.tup xs)) (hz : ∀ q u, H p ≠ some (.frz q u)) : Ext0 G H G (upd H p o) := by
  refine ⟨⟨[], by simp⟩, fun a xs h => ?_, fun a q u h => ?_, fun a h => ⟨h, ?_⟩⟩
  · rw [upd_ne (fun z => ht xs (by rw [← z]; exact h))]; exact h
  · rw [upd_ne (fun z => hz q u (by rw [← z]; exact h))]; exact h
  · exact upd_ne (fun z => hF (by rw [← z]; exact h))
theorem SimM.side (S : SimM K mg G M H) {p : Addr} {o : HO} (hp : p ∉ G.φ) (hF : ¬ G.F p) (ht : ∀ xs, H p ≠ some (.tup xs)) (hz : ∀ q u, H p ≠ some (.frz q u)) : SimM K mg G M (upd H p o) := by
  have e := ext0_side (o := o) hF ht hz
  refine S.grow e rfl (fun a h => upd_ne fun z => hp (z ▸ h)) (fun _ _ h => h) fun a h => ?_
  rw [(e.fix a h).2]
  exact S.fthere a h
end
def wipeS (s : Sl) : List Nat → Sl
  | [] => s
  | i :: is => (wipeS s is).set i none
theorem wipeS_len (s : Sl) : ∀ is, (wipeS s is).length = s.length
  | [] => rfl
  | i :: is => by unfold wipeS; rw [List.length_set, wipeS_len s is]
theorem simS_wipe {K : PySem.W.Frag} {G : Gh} {s : Sl} {σ : L2.St} {H : Hp} (N : SimS K G s σ H) : ∀ is, SimS K G (wipeS s is) (wipe σ is) H
  | [] => N
  | i :: is => by
    have ih := simS_wipe N is
    unfold wipeS wipe
    refine ⟨by simp [ih.len], fun j v q => ?_⟩
    by_cases hj : i = j
    · subst hj
      by_cases hl : i < (wipeS s is).length
      · rw [List.getElem?_set_self hl] at q; cases q
      · have : ((wipeS s is).set i none)[i]? = none := List.getElem?_eq_none_iff.mpr (by rw [List.length_set]; omega)
        rw [this] at q; cases q
    · rw [List.getElem?_set_ne hj] at q
      obtain ⟨x, a, b⟩ := ih.at_ j v q
      exact ⟨x, by rw [List.getElem?_set_ne hj]; exact a, b⟩
/-- no exception leaves -/
def Out.noer {α : Type} (o : Out α) : Out α := match o with
  | .er _ _ => .bad
  | o => o
/-- the turns of a comprehension -/
def compL (g : GM) (t : TM) (e : EM) (s0 : Sl) : List Val → Mm → Out (List Val)
  | [], M => .ok [] M
  | v :: vs, M => match g v s0 M with
    | some (s1, M1) => (t s1 M1).noer.bind fun b M2 => if b = true then (e s1 M2).noer.bind fun y M3 => (compL g t e s0 vs M3).bind fun r M4 => .ok (y :: r) M4 else compL g t e s0 vs M2
    | none => .bad
theorem compL_noer {g : GM} {t : TM} {e : EM} {s0 : Sl} : ∀ (vs : List Val) (M : Mm) (x : Exc) (M' : Mm), compL g t e s0 vs M ≠ .er x M'
  | [], M, x, M' => fun h => by cases h
  | v :: vs, M, x, M' => by
    unfold compL
    cases g v s0 M with
    | none => exact fun h => by cases h
    | some q =>
      obtain ⟨s1, M1⟩ := q
      dsimp only
      cases t s1 M1 with
      | bad => exact fun h => by cases h
      | er _ _ => exact fun h => by cases h
      | ok b M2 =>
        cases b with
        | false => exact compL_noer vs M2 x M'
        | true =>
          show ((e s1 M2).noer.bind fun y M3 => (compL g t e s0 vs M3).bind fun r M4 => Out.ok (y :: r) M4) ≠ _
          cases e s1 M2 with
          | bad => exact fun h => by cases h
          | er _ _ => exact fun h => by cases h
          | ok y M3 =>
            show ((compL g t e s0 vs M3).bind fun r M4 => Out.ok (y :: r) M4) ≠ _
            have ih := compL_noer (g := g) (t := t) (e := e) (s0 := s0) vs M3 x M'
            cases q : compL g t e s0 vs M3 with
            | bad => exact fun h => by cases h
            | er a b =>
              rw [q] at ih
              exact ih
            | ok r M4 => exact fun h => by cases h
/-- a comprehension; k: what becomes of the list (lcK: by value, lcN: at a place) -/
def mComp (k : List Val → Mm → Out Val) (it : AM) (g : GM) (t : TM) (e : EM) (own : List Nat) : EM := fun s M => (it s M).bind fun vs M1 => (compL g t e (wipeS s own) vs M1).bind k
/-- the target of a comprehension stores its own names alone -/
def OwnG (g : TG) (vs : List Nat) : Prop := ∀ x σ H Q, g x (wipe σ vs) H Q → g x (wipe σ vs) H fun σ2 H2 => wipe σ2 vs = wipe σ vs ∧ Q σ2 H2
abbrev W0 : WX := fun _ _ _ _ => False
theorem wipe_set {σ : L2.St} {i : Nat} {v : Option V} : ∀ {vs : List Nat}, i ∈ vs → wipe (σ.set i v) vs = wipe σ vs
  | [], h => by cases h
  | j :: vs, h => by
    unfold wipe
    by_cases hi : i ∈ vs
    · rw [wipe_set hi]
    · have hij : i = j := by
        rcases List.mem_cons.mp h with h | h
        · exact h
        · exact absurd h hi
      subst hij
      have comm : ∀ (ws : List Nat), i ∉ ws → wipe (σ.set i v) ws = (wipe σ ws).set i v := by
        intro ws
        induction ws with
        | nil => intro _; rfl
        | cons k ws ih =>
          intro hk
          unfold wipe
          rw [ih (fun z => hk (List.mem_cons_of_mem _ z)), List.set_comm _ _ (fun z => hk (by rw [← z]; exact List.mem_cons_self))]
      rw [comm vs hi, List.set_set]
theorem wipe_idem {σ : L2.St} {vs : List Nat} : wipe (wipe σ vs) vs = wipe σ vs := by
  have len : ∀ (τ : L2.St) (ws : List Nat), (wipe τ ws).length = τ.length := wipe_length
  have key : ∀ (ws us : List Nat) (τ : L2.St), (∀ i ∈ ws, i ∈ us) → wipe (wipe τ us) ws = wipe τ us := by
    intro ws
    induction ws with
    | nil => intro us τ _; rfl
    | cons i ws ih =>
      intro us τ h
      show (wipe (wipe τ us) ws).set i none = wipe τ us
      rw [ih us τ fun j hj => h j (List.mem_cons_of_mem _ hj)]
      have hi := h i List.mem_cons_self
      refine List.ext_getElem? fun j => ?_
      by_cases hj : i = j
      · subst hj
        by_cases hl : i < (wipe τ us).length
        · rw [List.getElem?_set_self hl]
          cases q : (wipe τ us)[i]? with
          | none => exact absurd (List.getElem?_eq_none_iff.mp q) (by omega)
          | some o =>
            cases o with
            | none => rfl
            | some x => exact absurd hi (wipe_some q).2
        · rw [List.getElem?_eq_none_iff.mpr (by rw [List.length_set]; omega), List.getElem?_eq_none_iff.mpr (by omega)]
      · rw [List.getElem?_set_ne hj]
  exact key vs vs σ fun _ h => h
/-- a target that stores own names alone -/
def TGo (K : PySem.W.Frag) (mg : Str → Option Value) (own : List Nat) (g : GM) : TG := fun x σ H Q => ∃ G s M v, SimM K mg G M H ∧ SimS K G s σ H ∧ RW K G H x v ∧ PostG K mg G H (fun σ' H' => wipe σ' own = wipe σ own → Q σ' H') (g v s M)
def TGos (K : PySem.W.Frag) (mg : Str → Option Value) (own : List Nat) (g : GMs) : TGs := fun xs σ H Q => ∃ G s M vs, SimM K mg G M H ∧ SimS K G s σ H ∧ RWs K G H xs vs ∧ PostG K mg G H (fun σ' H' => wipe σ' own = wipe σ own → Q σ' H') (g vs s M)
structure SGo (X : Cx) (own : List Nat) (e : Expr) (m : GM) : Prop where
  pg : PG X e (TGo X.K X.mg own m)
structure SGos (X : Cx) (own : List Nat) (e : List Expr) (m : GMs) : Prop where
  pgs : PGs X e (TGos X.K X.mg own m)
section
variable {X : Cx} {own : List Nat}
theorem sgo_name {i : Nat} {e : Expr} (hi : i ∈ own) (h : PG X e (gName i)) : SGo X own e (gN i) :=
  ⟨pgImp h fun x σ H Q ⟨G, s, M, v, S, N, r, p⟩ => p G H _ .refl S (N.set r) (wipe_set hi)⟩
theorem sgos_nil : SGos X own [] gsNil := by
  refine ⟨pgsImp pgs_nil fun xs σ H Q ⟨G, s, M, vs, S, N, r, p⟩ => ?_⟩
  cases r with
  | nil => exact ⟨rfl, p G H σ .refl S N rfl⟩
  | cons r1 r2 => exact p.elim
theorem sgos_cons {e : Expr} {es : List Expr} {g : GM} {gs : GMs} (h : SGo X own e g) (h2 : SGos X own es gs) (hs : (assignEach (e :: es) X.env).map (·.2) = assign e X.env :: (assignEach es X.env).map (·.2) := by rfl) : SGos X own (e :: es) (gsCons g gs) := by
  refine ⟨pgsImp (pgs_cons h.pg h2.pgs hs) fun xs σ H Q ⟨G, s, M, vs, S, N, r, p⟩ => ?_⟩
  cases r with
  | nil => exact p.elim
  | @cons x v xs vs r1 r2 =>
    refine ⟨x, xs, rfl, G, s, M, v, S, N, r1, ?_⟩
    have p : PostG X.K X.mg G H (fun σ' H' => wipe σ' own = wipe σ own → Q σ' H') ((g v s M).bind fun p => gs vs p.1 p.2) := p
    cases e : g v s M with
    | none => rw [e] at p; exact p.elim
    | some q =>
      rw [e] at p
      intro G' H' σ' e' S' N' hw
      refine ⟨G', q.1, q.2, vs, S', N', RWs.ext e' r2, ?_⟩
      have p2 := PostG.ext e' p
      cases e2 : gs vs q.1 q.2 with
      | none =>
        have p2 : PostG X.K X.mg G' H' _ (gs vs q.1 q.2) := p2
        rw [e2] at p2
        exact p2.elim
      | some q2 =>
        have p2 : PostG X.K X.mg G' H' (fun σ' H' => wipe σ' own = wipe σ own → Q σ' H') (gs vs q.1 q.2) := p2
        rw [e2] at p2
        exact fun G3 H3 σ3 e3 S3 N3 hw3 => p2 G3 H3 σ3 e3 S3 N3 (hw3.trans hw)
theorem sgo_tup {es : List Expr} {k : Nat} {pos : Pos} {g : GMs} {n : Nat} (hc : X.calm = true) (h : SGos X own es g) (hn : (assignEach es X.env).length = n := by rfl) (hst : (assignEach es X.env).findIdx? (·.1) = none := by rfl) : SGo X own (.Tuple es k pos) (gT n g) := by
  refine ⟨pgImp (pg_tup hc h.pgs hn hst) fun x σ H Q ⟨G, s, M, v, S, N, r, p⟩ => ?_⟩
  unfold gT at p
  split at p
  · rename_i ds
    split at p
    · rename_i hl
      have r : RV X.K G.F H x (.tuple ds) := r
      cases r with
      | tup h1 h2 => exact ⟨_, _, rfl, SqT.of h1, by rw [h2.len]; exact hl, G, s, M, _, S, N, RVs.rws h2, p⟩
    · exact p.elim
  · exact p.elim
end
structure STs (X : Cx) (W : WX) (e : List Expr) (m : TM) : Prop where
  pts : PTs X e (TTm X.K X.mg W m)
def mYes : TM := fun _ M => .ok true M
theorem sts_nil {X : Cx} {W : WX} : STs X W [] mYes := ⟨⟨fun pins s σ H Q I ⟨G, sl, M, S, N, p⟩ => pts_nil.run pins s σ H Q I (p G H true .refl S rfl)⟩⟩
theorem sts_one {X : Cx} {W : WX} {c : Expr} {m : TM} (h : ST X W c m) : STs X W [c] m := ⟨pts_one h.pt⟩
section
variable {X : Cx} {W : WX}
theorem lc_sound {wi : TI} {it : AM} {gt : TG} {g : GM} {tt : TT} {t : TM} {te : TE} {e : EM} {own : List Nat} {k : List Val → Mm → Out Val}
    (hg : ∀ x σ H Q, TGm X.K X.mg g x (wipe σ own) H Q → gt x (wipe σ own) H fun σ2 H2 => wipe σ2 own = wipe σ own ∧ Q σ2 H2)
    (ht : ∀ σ H Q, TTm X.K X.mg W0 t σ H Q → tt σ H Q) (he : ∀ σ H Q, TEm X.K X.mg W0 e σ H Q → te σ H Q) (hw : ∀ σ H R, TIm X.K X.mg W it σ H R → wi σ H R)
    (hk : ∀ (G : Gh) (us : List Val) (M : Mm) (σ : L2.St) (H0 H : Hp) (D : Addr) (xs : List V) (G0 : Gh) (Q : VK), Ext G0 H0 G H → H0 D = none → ¬ G0.F D → SimM X.K X.mg G M H → D ∉ G.φ → ¬ G.F D → H D = some (.lst xs) → RWs X.K G H xs us → us.length ≤ sizeLine →
      Post X.K X.mg W G0 σ H0 (fun G' H' x v => RW X.K G' H' x v) Q (k us M) → Q (.ref D) H)
    (hs : ∀ us M, us.length > sizeLine → k us M = .bad) {σ : L2.St} {H : Hp} {Q : VK}
    (h : TEm X.K X.mg W (fun s M => (it s M).bind fun vs M1 => (compL g t e (wipeS s own) vs M1).bind k) σ H Q) : tLc wi gt tt te own σ H Q := by
  obtain ⟨G, s, M, S, N, p⟩ := h
  refine hw _ _ _ ⟨G, s, M, S, N, Post.bind p fun vs M1 G1 H1 J e1 S1 g1 p1 => fun D hD => ?_⟩
  have N1 := N.ext e1
  have nF1 : ¬ G1.F D := fun z => S1.fthere D z hD
  -- the state between two turns: what is made, what is to come
  refine ⟨fun i m H' => i + m = vs.length ∧ ∃ G' M' us xs, Ext G1 H1 G' H' ∧ SimM X.K X.mg G' M' H' ∧ D ∉ G'.φ ∧ ¬ G'.F D ∧ H' D = some (.lst xs) ∧ RWs X.K G' H' xs us ∧
      Post X.K X.mg W G1 σ H1 (fun G' H' x v => RW X.K G' H' x v) Q ((compL g t e (wipeS s own) (vs.drop i) M').bind fun r M2 => k (us ++ r) M2), ⟨vs.length, by omega, G1, M1, [], [], ?_⟩, ?_⟩
  · obtain ⟨S2, e2⟩ := S1.lay (o := .lst []) hD
    exact ⟨e2, S2, S1.newne hD, nF1, upd_same, .nil, by simpa using p1⟩
  rintro i m H' ⟨hm, G', M', us, xs, e', S', nφ, nF, hx, rx, p'⟩
  obtain ⟨q1, q2, q3⟩ := g1 G' H' e'
  by_cases hl : i < vs.length
  · refine .inr ⟨q1 i hl, fun H'' => ∃ G'' M'' us'' xs'', Ext G1 H1 G'' H'' ∧ SimM X.K X.mg G'' M'' H'' ∧ D ∉ G''.φ ∧ ¬ G''.F D ∧ H'' D = some (.lst xs'') ∧ RWs X.K G'' H'' xs'' us'' ∧
      Post X.K X.mg W G1 σ H1 (fun G' H' x v => RW X.K G' H' x v) Q ((compL g t e (wipeS s own) (vs.drop (i + 1)) M'').bind fun r M2 => k (us'' ++ r) M2), fun H'' h => ⟨m - 1, by omega, by omega, h⟩, fun x H'' y => ?_⟩
    obtain ⟨G2, e2, S2, r2⟩ := q3 i _ (List.getElem?_eq_getElem hl) M' S' x H'' y
    rw [List.drop_eq_getElem_cons hl] at p'
    unfold compL at p'
    have keepD : ∀ {Ga Gb : Gh} {Ha Hb : Hp}, Ext Ga Ha Gb Hb → D ∉ Ga.φ → ¬ Ga.F D → Ha D = some (.lst xs) → D ∉ Gb.φ ∧ ¬ Gb.F D ∧ Hb D = some (.lst xs) := by
      intro Ga Gb Ha Hb e a b c
      have nn : Ha D ≠ none := by rw [c]; simp
      refine ⟨fun z => (e.φnew D z).elim a nn, fun z => ?_, by rw [e.keep D nn a]; exact c⟩
      rcases e.Fnew D z with z | z | z
      · exact b z
      · exact nn z
      · exact a z
    obtain ⟨nφ2, nF2, hx2⟩ := keepD e2 nφ nF hx
    have rx2 := RWs.ext e2 rx
    refine hg x σ H'' _ ⟨G2, wipeS s own, M', vs[i], S2, simS_wipe (N1.ext (e'.trans e2)) own, r2, ?_⟩
    cases eg : g vs[i] (wipeS s own) M' with
    | none => rw [eg] at p'; exact p'.elim
    | some q =>
      obtain ⟨s1, M1'⟩ := q
      rw [eg] at p'
      dsimp only at p'
      intro G3 H3 σ3 e3 S3 N3
      obtain ⟨nφ3, nF3, hx3⟩ := keepD e3 nφ2 nF2 hx2
      have rx3 := RWs.ext e3 rx2
      refine ht _ _ _ ⟨G3, s1, M1', S3, N3, ?_⟩
      cases et : t s1 M1' with
      | bad => rw [et] at p'; exact p'.elim
      | er z M2 => rw [et] at p'; exact p'.elim
      | ok b M2 =>
        rw [et] at p'
        intro G4 H4 b' e4 S4 rb
        subst rb
        obtain ⟨nφ4, nF4, hx4⟩ := keepD e4 nφ3 nF3 hx3
        have rx4 := RWs.ext e4 rx3
        have eA := ((e'.trans e2).trans e3).trans e4
        cases b' with
        | false => exact ⟨G4, M2, us, xs, eA, S4, nφ4, nF4, hx4, rx4, p'⟩
        | true =>
          rw [if_pos rfl]
          have p' : Post X.K X.mg W G1 σ H1 (fun G' H' x v => RW X.K G' H' x v) Q (((e s1 M2).noer.bind fun y M3 => (compL g t e (wipeS s own) (vs.drop (i + 1)) M3).bind fun r M4 => .ok (y :: r) M4).bind fun r M2 => k (us ++ r) M2) := p'
          refine he _ _ _ ⟨G4, s1, M2, S4, N3.ext e4, ?_⟩
          cases ee : e s1 M2 with
          | bad => rw [ee] at p'; exact p'.elim
          | er z M3 => rw [ee] at p'; exact p'.elim
          | ok y M3 =>
            rw [ee] at p'
            have p' : Post X.K X.mg W G1 σ H1 (fun G' H' x v => RW X.K G' H' x v) Q (((compL g t e (wipeS s own) (vs.drop (i + 1)) M3).bind fun r M4 => .ok (y :: r) M4).bind fun r M2 => k (us ++ r) M2) := p'
            intro G5 H5 z e5 S5 rz
            obtain ⟨nφ5, nF5, hx5⟩ := keepD e5 nφ4 nF4 hx4
            have rx5 := RWs.ext e5 rx4
            have e0 := ext0_side (G := G5) (H := H5) (p := D) (o := .lst (xs ++ [z])) nF5 (fun xs z => by rw [hx5] at z; cases z) (fun q u z => by rw [hx5] at z; cases z)
            have p2 : Post X.K X.mg W G1 σ H1 (fun G' H' x v => RW X.K G' H' x v) Q ((compL g t e (wipeS s own) (vs.drop (i + 1)) M3).bind fun r M2 => k ((us ++ [y]) ++ r) M2) := by
              cases ec : compL g t e (wipeS s own) (vs.drop (i + 1)) M3 with
              | bad => rw [ec] at p'; exact p'
              | er a b => rw [ec] at p'; exact p'
              | ok r M4 =>
                rw [ec] at p'
                show Post _ _ _ _ _ _ _ _ (k ((us ++ [y]) ++ r) M4)
                rw [List.append_assoc]
                exact p'
            refine ⟨xs, hx5, ?_, G5, M3, us ++ [y], xs ++ [z], (eA.trans e5).side hD nF1, S5.side nφ5 nF5 (fun xs z => by rw [hx5] at z; cases z) (fun q u z => by rw [hx5] at z; cases z), nφ5, nF5, upd_same, RWs.ext0 e0 (Paired.app rx5 (.cons rz .nil)), p2⟩
            rw [Paired.len rx5]
            cases ec : compL g t e (wipeS s own) (vs.drop (i + 1)) M3 with
            | bad => rw [ec] at p2; exact p2.elim
            | er a b => exact (compL_noer _ _ _ _ ec).elim
            | ok r M4 =>
              rw [ec] at p2
              have p2 : Post X.K X.mg W G1 σ H1 (fun G' H' x v => RW X.K G' H' x v) Q (k ((us ++ [y]) ++ r) M4) := p2
              by_cases hz : (us ++ [y] ++ r).length > sizeLine
              · rw [hs _ _ hz] at p2
                exact p2.elim
              · simp only [List.length_append, List.length_cons, List.length_nil] at hz
                omega
  · have hi' : i = vs.length := by omega
    rw [hi', List.drop_length] at p'
    have p'' : Post X.K X.mg W G1 σ H1 (fun G' H' x v => RW X.K G' H' x v) Q (k us M') := by simpa [compL, Out.bind] using p'
    refine .inl ⟨hi' ▸ q2, hk G' us M' σ H1 H' D xs G1 Q e' hD nF1 S' nφ nF hx rx ?_ p''⟩
    by_cases hz : us.length > sizeLine
    · rw [hs _ _ hz] at p''
      exact p''.elim
    · omega
theorem go_wipe {own : List Nat} {g : GM} : ∀ x σ H Q, TGm X.K X.mg g x (wipe σ own) H Q → TGo X.K X.mg own g x (wipe σ own) H fun σ2 H2 => wipe σ2 own = wipe σ own ∧ Q σ2 H2 := by
  intro x σ H Q ⟨G, s, M, v, S, N, r, p⟩
  refine ⟨G, s, M, v, S, N, r, ?_⟩
  cases e : g v s M with
  | none => rw [e] at p; exact p
  | some q => rw [e] at p; exact fun G' H' σ' e' S' N' hw => ⟨by rw [hw, wipe_idem], p G' H' σ' e' S' N'⟩
variable {elt tg iter : Expr} {ifs : List Expr} {scope : Scope} {own : List (Str × Nat)} {pos : Pos} {it : AM} {g : GM} {t : TM} {e : EM}
def lcK (us : List Val) (M2 : Mm) : Out Val := match allD us with
  | some ds => if fitsL us.length then .ok (.d (.list ds)) M2 else .bad
  | none => .bad
def lcN (us : List Val) (M2 : Mm) : Out Val := if fitsL us.length then .ok (.obj M2.length) (M2 ++ [.lst us]) else .bad
theorem fitsL_no {n : Nat} (h : n > sizeLine) : fitsL n = false := decide_eq_false (by have e : sizeLine = 16777216 := sizeLine_eq; omega)
theorem lc_read {k : List Val → Mm → Out Val} {σ : L2.St} {H : Hp} {Q : VK} (hk : k = lcK ∨ k = lcN)
    (h : TEm X.K X.mg W (fun s M => (it s M).bind fun vs M1 => (compL g t e (wipeS s (own.map (·.2))) vs M1).bind k) σ H Q) :
    tLc (TIm X.K X.mg W it) (TGo X.K X.mg (own.map (·.2)) g) (TTm X.K X.mg W0 t) (TEm X.K X.mg W0 e) (own.map (·.2)) σ H Q := by
  refine lc_sound (fun x σ H Q => go_wipe x σ H Q) (fun _ _ _ h => h) (fun _ _ _ h => h) (fun _ _ _ h => h) (fun G us M σ H0 H D xs G0 Q e hD nF0 S nφ nF hx rx hz p => ?_) (fun us M hz => ?_) h
  · rcases hk with rfl | rfl
    · unfold lcK at p
      split at p
      · rename_i ds ed
        split at p
        · have e2 : Ext0 G H (G.fix D) H := ⟨⟨[], by simp [Gh.fix]⟩, fun _ _ h => h, fun _ _ _ h => h, fun b h => ⟨.inr h, rfl⟩⟩
          have S2 : SimM X.K X.mg (G.fix D) M H := S.grow e2 rfl (fun _ _ => rfl) (fun a ha h z => z.elim (fun z => nφ (z ▸ ha)) h) (fun a h => h.elim (fun z => by rw [z, hx]; simp) (S.fthere a))
          have e3 : Ext G0 H0 (G.fix D) H := ⟨e.toExt0.trans e2, e.keep, e.φnew, fun a h => h.elim (fun z => .inr (.inl (z ▸ hD))) (e.Fnew a)⟩
          exact p _ H _ e3 S2 (RV.lst (.inl rfl) hx (RVs.ext0 e2 _ _ (allD_ok ed rx)))
        · exact p.elim
      · exact p.elim
    · unfold lcN at p
      split at p
      · have e2 : Ext0 G H (G.push D) H := ext_push0 .refl
        have S2 := S.push nφ (by rw [hx]; simp) (o := .lst us) ⟨nF, xs, hx, RWs.ext0 e2 rx⟩
        have e3 : Ext G0 H0 (G.push D) H := ⟨e.toExt0.trans e2, e.keep, fun a h => (List.mem_append.mp h).elim (e.φnew a) fun h => by
          have : a = D := by simpa using h
          rw [this]
          exact .inr hD, e.Fnew⟩
        refine p _ H _ e3 S2 ⟨D, rfl, ?_⟩
        show (G.φ ++ [D])[M.length]? = some D
        rw [← S.len]
        simp
      · exact p.elim
  · rcases hk with rfl | rfl
    · unfold lcK
      rw [fitsL_no hz]
      split <;> rfl
    · unfold lcN
      rw [fitsL_no hz]
      rfl
theorem se_lc {k : List Val → Mm → Out Val} (hk : k = lcK ∨ k = lcN) (hc : X.calm = true) (hN : X.N.Nodup) (hi : SI X W tg iter it) (ok : BlkOk X.N X.env.scope scope own)
    (hg : ∀ (s : Shared) (H : Hp) (C : Addr) (cl : List (Str × Addr)) (fp : List Addr), SGo (X.blk s H scope (compEnvC scope cl C X.env) fp) (own.map (·.2)) tg g)
    (ht : ∀ (s : Shared) (H : Hp) (C : Addr) (cl : List (Str × Addr)) (fp : List Addr), STs (X.blk s H scope (compEnvC scope cl C X.env) fp) W0 ifs t)
    (he : ∀ (s : Shared) (H : Hp) (C : Addr) (cl : List (Str × Addr)) (fp : List Addr), SE (X.blk s H scope (compEnvC scope cl C X.env) fp) W0 elt e) (hs : ∀ x, foldedSetIterable iter X.env x = pure x := by intro _; rfl) :
    SE X W (.ListComp elt [⟨tg, iter, ifs, 0⟩] scope pos) (mComp k it g t e (own.map (·.2))) :=
  ⟨peImp (pe_lc (te := TEm X.K X.mg W0 e) (tt := TTm X.K X.mg W0 t) (g := TGo X.K X.mg (own.map (·.2)) g) hc hN hi.pi ok (fun s H C cl fp => (hg s H C cl fp).pg) (fun s H C cl fp => (ht s H C cl fp).pts) (fun s H C cl fp => (he s H C cl fp).pe) hs) fun _ _ _ h => lc_read hk h⟩
theorem ss_setLc {k : List Val → Mm → Out Val} {i : Nat} {y : Str} {py spos : Pos} (hk : k = lcK ∨ k = lcN) (hc : X.calm = true) (hN : X.N.Nodup) (hy : X.N[i]? = some y) (hyl : X.env.scope.names.lookup y = some .local)
    (hsw : swapsWith (.ListComp elt [⟨tg, iter, ifs, 0⟩] scope pos) (some (.Name y py)) spos.line X.env = pure true) (hi : SI X W tg iter it) (ok : BlkOk X.N X.env.scope scope own)
    (hg : ∀ (s : Shared) (H : Hp) (C : Addr) (cl : List (Str × Addr)) (fp : List Addr), SGo (X.blk s H scope (compEnvC scope cl C X.env) fp) (own.map (·.2)) tg g)
    (ht : ∀ (s : Shared) (H : Hp) (C : Addr) (cl : List (Str × Addr)) (fp : List Addr), STs (X.blk s H scope (compEnvC scope cl C X.env) fp) W0 ifs t)
    (he : ∀ (s : Shared) (H : Hp) (C : Addr) (cl : List (Str × Addr)) (fp : List Addr), SE (X.blk s H scope (compEnvC scope cl C X.env) fp) W0 elt e) (hs : ∀ x, foldedSetIterable iter X.env x = pure x := by intro _; rfl) :
    SS X W (.Assign [.Name y py] (.ListComp elt [⟨tg, iter, ifs, 0⟩] scope pos) spos) (sAsg (mComp k it g t e (own.map (·.2))) (gN i)) := by
  refine ⟨psImp (ps_setLc (te := TEm X.K X.mg W0 e) (tt := TTm X.K X.mg W0 t) (g := TGo X.K X.mg (own.map (·.2)) g) hc hN hy hyl hsw hi.pi ok (fun s H C cl fp => (hg s H C cl fp).pg) (fun s H C cl fp => (ht s H C cl fp).pts) (fun s H C cl fp => (he s H C cl fp).pe) hs) fun D σ H h => ?_⟩
  obtain ⟨G, s, M, S, N, p⟩ := h
  refine lc_read hk ⟨G, s, M, S, N, PostS.bind N p fun v M1 G1 H1 x e1 S1 r1 p1 => ?_⟩
  exact p1 G1 H1 _ .refl S1 ((N.ext e1).set r1)
end
end Zm
namespace Zm
open PySem PySem.Spec PyProof.Rows L2

/-! ### repr -/
section
variable {X : Cx} {pins : List (Addr × Obj)} {σ : L2.St} {H : Hp} {s : Shared} {F : Addr → Prop}
mutual
theorem RV.reads (I : Inv X pins σ H s) (hs : ∃ o u, H sysModules = some (.frz o u)) : ∀ (d : PyData) (v : V) (u : Value), RV X.K F H v d → RelV v u → ∃ as, Reads s.heap u d as ∧ sysModules ∉ as
  | .none, _, _, h, r => by cases h; cases r; exact ⟨_, Reads.none, by simp⟩
  | .bool b, _, _, h, r => by cases h; cases r; exact ⟨_, Reads.bool b, by simp⟩
  | .int i, _, _, h, r => by cases h; obtain ⟨t, rfl⟩ := r; exact ⟨_, Reads.int i t, by simp⟩
  | .str x, _, _, h, r => by cases h; obtain ⟨t, rfl⟩ := r; exact ⟨_, Reads.str x t, by simp⟩
  | .tuple ds, _, _, h, r => by
    cases h with
    | tup h1 h2 =>
      cases r
      obtain ⟨its, rv, ⟨o, ho, hc, n, hd⟩, _⟩ := I.tuple (SqT.of h1)
      obtain ⟨as, hr, hn⟩ := RVs.reads I hs ds _ its h2 rv
      exact ⟨_, Reads.tuple ho hc hd hr, hn⟩
  | .list ds, _, _, h, r => by
    cases h with
    | @lst a _ _ h0 h1 h2 =>
      cases r
      obtain ⟨its, rv, ⟨o, n, ho, hc, _, hd⟩, _⟩ := I.list (SqL.of h1)
      obtain ⟨as, hr, hn⟩ := RVs.reads I hs ds _ its h2 rv
      refine ⟨_, Reads.list ho hc hd hr, fun z => ?_⟩
      rcases List.mem_cons.mp z with z | z
      · obtain ⟨o', u', hs⟩ := hs
        rw [z, h1] at hs
        cases hs
      · exact hn z
  | .dict ds, _, _, h, r => by
    cases h with
    | @dct a kvs _ h0 h1 h2 =>
      cases r
      obtain ⟨_, hne, vs, kv, o, es, ep, ho, hex, hd, _, hp, _⟩ := I.hok a _ h1
      obtain ⟨as, bs, hr1, hr2, hn1, hn2⟩ := RKs.reads I hs ds kvs vs es.toList h2 kv hp
      refine ⟨_, Reads.dict ho hex.1 hd hr1 hr2, fun z => ?_⟩
      rcases List.mem_append.mp z with z | z
      · rcases List.mem_cons.mp z with z | z
        · rw [z] at hne
          simp at hne
        · exact hn1 z
      · exact hn2 z
theorem RVs.reads (I : Inv X pins σ H s) (hs : ∃ o u, H sysModules = some (.frz o u)) : ∀ (ds : List PyData) (vs : List V) (us : List Value), RVs X.K F H vs ds → Vals vs us → ∃ as, ReadsAll s.heap us ds as ∧ sysModules ∉ as
  | [], _, _, h, r => by cases h; cases r; exact ⟨_, ReadsAll.nil, by simp⟩
  | d :: ds, _, _, h, r => by
    cases h with
    | cons h1 h2 =>
      cases r with
      | cons r1 r2 =>
        obtain ⟨as, q1, n1⟩ := RV.reads I hs d _ _ h1 r1
        obtain ⟨bs, q2, n2⟩ := RVs.reads I hs ds _ _ h2 r2
        exact ⟨_, ReadsAll.cons q1 q2, fun z => (List.mem_append.mp z).elim n1 n2⟩
theorem RKs.reads (I : Inv X pins σ H s) (hs : ∃ o u, H sysModules = some (.frz o u)) : ∀ (ds : List (PyData × PyData)) (kvs : List (Key × V)) (vs : List (Key × Value)) (es : List DictEntry), RKs X.K F H kvs ds → KV kvs vs → Pairs (mixKind X.prog X.w) es vs →
    ∃ as bs, ReadsAll s.heap (es.map (·.key)) (ds.map (·.1)) as ∧ ReadsAll s.heap (es.map (·.val)) (ds.map (·.2)) bs ∧ sysModules ∉ as ∧ sysModules ∉ bs
  | [], _, _, _, h, r, p => by cases h; cases r; cases p; exact ⟨_, _, ReadsAll.nil, ReadsAll.nil, by simp, by simp⟩
  | (kd, d) :: ds, _, _, _, h, r, p => by
    cases h with
    | @cons k v _ _ _ h1 h2 =>
      cases r with
      | cons r1 r2 =>
        cases p with
        | @cons e kvv es vs p1 p2 p3 =>
          obtain ⟨as, q1, n1⟩ := RV.reads I hs d _ _ h1 r1.2
          obtain ⟨bs, cs, q2, q3, n2, n3⟩ := RKs.reads I hs ds _ _ _ h2 r2 p3
          have hk : ∃ ks, Reads s.heap e.key (keyD k) ks ∧ sysModules ∉ ks := by
            have e1 := r1.1
            have p1' : keyIs k e.key = true := by
              rw [show k = _ from e1]
              exact p1
            rcases keyIs_shape p1' with ⟨i, t, rfl, e2⟩ | ⟨x, t, rfl, e2⟩
            · rw [e2]; exact ⟨_, Reads.int i t, by simp⟩
            · rw [e2]; exact ⟨_, Reads.str x t, by simp⟩
          obtain ⟨ks, qk, nk⟩ := hk
          rw [← p2] at q1
          exact ⟨_, _, ReadsAll.cons qk q2, ReadsAll.cons q1 q3, fun z => (List.mem_append.mp z).elim nk n2, fun z => (List.mem_append.mp z).elim n1 n3⟩
end
end
def vRepr (vs : List Val) (M : Mm) : Out Val := match vs with
  | [.d d] => if d.showable && fitsL d.shown.length && decide (d.depth ≤ 64) then .ok (.d (.str d.shown)) M else .bad
  | _ => .bad
section
variable {X : Cx} {W : WX}
def rReprZ (K : PySem.W.Frag) : List V → Hp → VK → Prop := fun xs H Q => ∃ (F : Addr → Prop) (x : V) (d : PyData), xs = [x] ∧ RV K F H x d ∧ (∃ o u, H sysModules = some (.frz o u)) ∧ d.showable = true ∧ d.shown.length ≤ sizeLine ∧ d.depth ≤ 64 ∧ Q (.str d.shown) H
theorem call_reprZ (hG : X.A.guards = some []) (hu : X.A.units + 70 < cLine) : CallR X (.builtin "repr") (rReprZ X.K) := by
  intro pins s σ H xs us Q I r ⟨F, x, d, ex, rx, hs, h1, h2, h3, q⟩
  subst ex
  obtain ⟨u, rfl, ru⟩ := vals1 r
  obtain ⟨as, rd, hn⟩ := RV.reads I hs d x u rx ru
  have fin : ∀ h' t tk, (∀ b o, s.heap.get? b = some o → h'.get? b = some o) → EP X pins σ Q (.str d.shown t) { s with heap := h', toks := tk } := fun h' t tk hk => ⟨.str d.shown, H, I.kept hk, ⟨_, rfl⟩, q⟩
  cases d with
  | none =>
    cases rx; cases ru
    refine PySem.P.repr_of_none (fin s.heap s.toks (s.toks + 1) fun _ _ e => e)
  | bool b =>
    cases rx; cases ru
    have q := fin s.heap s.toks (s.toks + 1) fun _ _ e => e
    simp only [PyData.shown] at q
    exact PySem.P.repr_of_bool q
  | int i =>
    cases rx
    obtain ⟨t, rfl⟩ := ru
    have q := fin s.heap s.toks (s.toks + 1) fun _ _ e => e
    simp only [PyData.shown] at q
    exact PySem.P.repr_of_int (by simpa [PyData.showable] using h1) q
  | str z =>
    cases rx
    obtain ⟨t, rfl⟩ := ru
    have q := fin s.heap s.toks (s.toks + 1) fun _ _ e => e
    simp only [PyData.shown] at q h2
    exact PySem.P.repr_of_str q h2
  | list ds =>
    cases rx with
    | lst _ _ _ =>
      cases ru
      exact repr_of_reads' rd h1 (fun _ => hn) hG (by omega) (fun _ _ e => e) (fun h' u tk hk => fin h' u tk hk) h2
  | tuple ds =>
    cases rx with
    | tup _ _ =>
      cases ru
      exact repr_of_reads' rd h1 (fun _ => hn) hG (by omega) (fun _ _ e => e) (fun h' u tk hk => fin h' u tk hk) h2
  | dict ds =>
    cases rx with
    | dct _ _ _ =>
      cases ru
      exact repr_of_reads' rd h1 (fun _ => hn) hG (by omega) (fun _ _ e => e) (fun h' u tk hk => fin h' u tk hk) h2
theorem cz_repr : CallZ X (rReprZ X.K) vRepr := by
  intro W G M σ H Q xs vs S r p
  unfold vRepr at p
  split at p
  · rename_i d
    cases r with
    | @cons x _ _ _ r1 r2 =>
      cases r2
      split at p
      · rename_i h
        rw [Bool.and_eq_true, Bool.and_eq_true] at h
        exact ⟨G.F, x, d, rfl, r1, S.sys, h.1.1, fitsL_ok h.1.2, of_decide_eq_true h.2, p G H _ .refl S (RV.str _)⟩
      · exact p.elim
  · exact p.elim

/-! ### isinstance -/
def tyNm (v : Val) (M : Mm) : Option String := match v with
  | .d .none => some "NoneType"
  | .d (.bool _) => some "bool"
  | .d (.int _) => some "int"
  | .d (.str _) => some "str"
  | .d (.list _) => some "list"
  | .d (.tuple _) => some "tuple"
  | .d (.dict _) => some "dict"
  | .scr _ => none
  | .obj j => match M[j]? with
    | some (.lst _) => some "list"
    | some (.dct _) => some "dict"
    | _ => none
def isT (n T : String) : Bool := n == T || (n == "bool" && T == "int")
def kinds : List String := ["int", "bool", "tuple", "str", "list", "dict"]
def names7 : List String := ["NoneType", "bool", "int", "str", "list", "tuple", "dict"]
theorem kit_tab : ∀ n ∈ names7, ∀ T ∈ kinds, kitB n T = some (isT n T) := by decide +kernel
theorem tyNm_ok {mg : Str → Option Value} {G : Gh} {H : Hp} {M : Mm} {K : PySem.W.Frag} {x : V} {v : Val} {n : String} (S : SimM K mg G M H) (r : RW K G H x v) (h : tyNm v M = some n) : TyX K H x (.type n) ∧ n ∈ names7 := by
  unfold tyNm at h
  split at h
  · cases h; have r : RV K G.F H x .none := r; cases r; exact ⟨.base .non, by decide⟩
  · rename_i b; cases h; have r : RV K G.F H x (.bool b) := r; cases r; exact ⟨.base (.bl b), by decide⟩
  · rename_i b; cases h; have r : RV K G.F H x (.int b) := r; cases r; exact ⟨.base (.int b), by decide⟩
  · rename_i b; cases h; have r : RV K G.F H x (.str b) := r; cases r; exact ⟨.base (.str b), by decide⟩
  · rename_i ds; cases h; have r : RV K G.F H x (.list ds) := r
    cases r with | lst h0 h1 h2 => exact ⟨.base (.lst h1), by decide⟩
  · rename_i ds; cases h; have r : RV K G.F H x (.tuple ds) := r
    cases r with | tup h1 h2 => exact ⟨.base (.tup h1), by decide⟩
  · rename_i ds; cases h; have r : RV K G.F H x (.dict ds) := r
    cases r with | dct h0 h1 h2 => exact ⟨.base (.dK h1), by decide⟩
  · cases h
  · rename_i j
    obtain ⟨a, rfl, hj⟩ := r
    split at h
    · rename_i vs ev
      cases h
      obtain ⟨nF, xs, hx, _⟩ := S.obj j a _ hj ev
      exact ⟨.base (.lst hx), by decide⟩
    · rename_i kvs ev
      cases h
      obtain ⟨nF, hd⟩ := S.obj j a _ hj ev
      rcases hd with ⟨ys, h1, _⟩ | ⟨ys, h1, _⟩
      · exact ⟨.base (.dK h1), by decide⟩
      · exact ⟨.base (.dT h1), by decide⟩
    · cases h
def mIsI (T : String) (m : EM) : EM := fun s M => (m s M).bind fun v M1 => match tyNm v M1 with
  | some n => .ok (.d (.bool (isT n T))) M1
  | none => .bad
theorem se_isinst {T : String} {e : Expr} {m : EM} {p p2 pos : Pos} {TS : Str} (hT : T ∈ kinds) (hg : Gl X "isinstance") (hm : X.mg "isinstance" = none) (hgT : Gl X TS) (hmT : X.mg TS = none) (hbT : bootBuiltins TS = some (.type T)) (he : SE X W e m)
    (hn : TS ≠ "__name__" := by decide) (hd : (TS == ("__debug__" : Str)) = false := by decide)
    (h1 : starEach [e, .Name TS p2] X.env = (false, eval e X.env) :: starEach [.Name TS p2] X.env := by rfl) (h2 : starEach [.Name TS p2] X.env = (false, eval (.Name TS p2) X.env) :: starEach [] X.env := by rfl) (hpl : (backTo pos (starEach [.Name TS p2] X.env)).any (·.1) = false := by rfl) :
    SE X W (.Call (.Name "isinstance" p) [e, .Name TS p2] [] pos) (mIsI T m) := by
  have hq : PE X (.Name TS p2) (tC (.ty T)) := pe_bltn hgT hmT hbT rfl hn hd
  refine ⟨peImp (pe_callB call_isi hg hm (by decide +kernel) (pa_cons he.pe (pa_cons hq pa_nil h2) h1) (by decide) (by decide) h1 hpl) fun σ H Q ⟨G, s, M, S, N, p⟩ => ⟨G, s, M, S, N, Post.bind p fun v M1 G1 H1 x e1 S1 r1 p1 => ?_⟩⟩
  split at p1
  · rename_i n hn
    obtain ⟨ty, hmem⟩ := tyNm_ok S1 r1 hn
    exact ⟨x, .ty T, .type n, .type T, isT n T, rfl, .ty T, ty, kit_ty (kit_tab n hmem T hT), p1 G1 H1 _ .refl S1 (RV.bl _)⟩
  · exact p1.elim

/-! ### sorted -/
def sortI (ns : List Int) : List Int := ns.mergeSort fun a b => decide (a ≤ b)
theorem sortI_perm (ns : List Int) : (sortI ns).Perm ns := List.mergeSort_perm _ _
theorem sortI_sorted (ns : List Int) : (sortI ns).Pairwise (· ≤ ·) := by
  have h := List.pairwise_mergeSort (le := fun a b : Int => decide (a ≤ b)) (fun a b c h1 h2 => by simp at *; omega) (fun a b => by simp; omega) ns
  exact h.imp fun {a b} h => of_decide_eq_true h
theorem sortI_eq {ns ms : List Int} (hp : ms.Perm ns) (hs : ms.Pairwise (· ≤ ·)) : ms = sortI ns :=
  (hp.trans (sortI_perm ns).symm).eq_of_pairwise (fun x y _ _ h1 h2 => Int.le_antisymm h1 h2) hs (sortI_sorted ns)
def leP (a b : Int × Int) : Bool := decide (a.1 < b.1) || (decide (a.1 = b.1) && decide (a.2 ≤ b.2))
theorem leP_iff {a b : Int × Int} : leP a b = true ↔ a.1 < b.1 ∨ (a.1 = b.1 ∧ a.2 ≤ b.2) := by
  unfold leP
  simp
def sortP (ps : List (Int × Int)) : List (Int × Int) := ps.mergeSort leP
theorem sortP_perm (ps : List (Int × Int)) : (sortP ps).Perm ps := List.mergeSort_perm _ _
theorem sortP_sorted (ps : List (Int × Int)) : (sortP ps).Pairwise fun a b => leP a b = true :=
  List.pairwise_mergeSort (fun a b c h1 h2 => by rw [leP_iff] at *; omega) (fun a b => by rw [Bool.or_eq_true, leP_iff, leP_iff]; omega) ps
theorem sortP_eq {ps qs : List (Int × Int)} (hp : qs.Perm ps) (hs : qs.Pairwise fun a b => leP a b = true) : qs = sortP ps := by
  refine (hp.trans (sortP_perm ps).symm).eq_of_pairwise (fun x y _ _ h1 h2 => ?_) hs (sortP_sorted ps)
  rw [leP_iff] at h1 h2
  exact Prod.ext (by omega) (by omega)
def pairD (p : Int × Int) : PyData := .tuple [.int p.1, .int p.2]
def toP : PyData → Option (Int × Int)
  | .tuple [.int a, .int b] => some (a, b)
  | _ => none
theorem toP_ok {d : PyData} {p : Int × Int} (h : toP d = some p) : d = pairD p := by
  unfold toP at h
  split at h
  · cases h; rfl
  · cases h
def allP : List PyData → Option (List (Int × Int))
  | [] => some []
  | d :: r => match toP d, allP r with
    | some p, some ps => some (p :: ps)
    | _, _ => none
theorem allP_map : ∀ (ps : List (Int × Int)), allP (ps.map pairD) = some ps
  | [] => rfl
  | p :: ps => by
    show (match toP (pairD p), allP (ps.map pairD) with | some p, some ps => some (p :: ps) | _, _ => none) = _
    rw [allP_map ps]
    rfl
theorem allP_ok : ∀ {ds : List PyData} {ps : List (Int × Int)}, allP ds = some ps → ds = ps.map pairD
  | [], _, h => by cases h; rfl
  | d :: r, ps, h => by
    unfold allP at h
    split at h
    · rename_i p qs e1 e2
      cases h
      rw [toP_ok e1, allP_ok e2]
      rfl
    · cases h
def kP (H : Hp) (v : V) : Int × Int := match v with
  | .ref t => match H t with
    | some (.tup [.int a, .int b]) => (a, b)
    | _ => (0, 0)
  | _ => (0, 0)
theorem rvs_pairs {K : PySem.W.Frag} {F : Addr → Prop} {H : Hp} : ∀ {ps : List (Int × Int)} {xs : List V}, RVs K F H xs (ps.map pairD) → xs.map (kP H) = ps ∧ ∀ x ∈ xs, ∃ t, x = V.ref t ∧ H t = some (.tup [.int (kP H x).1, .int (kP H x).2])
  | [], _, h => by cases h; exact ⟨rfl, fun _ h => by cases h⟩
  | (a, b) :: ps, _, h => by
    cases h with
    | @cons v vs _ _ h1 h2 =>
      obtain ⟨e1, e2⟩ := rvs_pairs h2
      have h1 : RV K F H v (.tuple [.int a, .int b]) := h1
      cases h1 with
      | @tup t ys _ g1 g2 =>
        cases g2 with
        | cons g2 g3 =>
          cases g3 with
          | cons g3 g4 =>
            cases g4; cases g2; cases g3
            have ek : kP H (.ref t) = (a, b) := by simp [kP, g1]
            refine ⟨by rw [List.map_cons, e1, ek], fun x hx => ?_⟩
            rcases List.mem_cons.mp hx with rfl | hx
            · exact ⟨t, rfl, by rw [ek]; exact g1⟩
            · exact e2 x hx
theorem rvs_of_kP {K : PySem.W.Frag} {F : Addr → Prop} {H : Hp} : ∀ {xs : List V}, (∀ x ∈ xs, ∃ t, x = V.ref t ∧ H t = some (.tup [.int (kP H x).1, .int (kP H x).2])) → RVs K F H xs ((xs.map (kP H)).map pairD)
  | [], _ => .nil
  | x :: xs, h => by
    obtain ⟨t, e, ht⟩ := h x List.mem_cons_self
    subst e
    exact .cons (.tup ht (.cons (.int _) (.cons (.int _) .nil))) (rvs_of_kP fun y hy => h y (List.mem_cons_of_mem _ hy))
def sortD (ds : List PyData) : Option (List PyData) := match allI ds with
  | some ns => some ((sortI ns).map .int)
  | none => match allP ds with
    | some ps => some ((sortP ps).map pairD)
    | none => none
def vSorted (vs : List Val) (M : Mm) : Out Val := match vs with
  | [v] => match listD v M with
    | some ds => match sortD ds with
      | some es => .ok (.d (.list es)) M
      | none => .bad
    | none => .bad
  | _ => .bad
theorem cz_sorted : CallZ X (fun xs H Q => rSortedI X.K xs H Q ∨ rSortedPO X.K xs H Q) vSorted := by
  intro W G M σ H Q xs vs S r p
  unfold vSorted at p
  split at p
  · cases r with
    | cons r1 r2 =>
      cases r2
      split at p
      · rename_i ds hd
        obtain ⟨a, ys, rfl, h, hr⟩ := listD_ok S r1 hd
        split at p
        · rename_i es he
          unfold sortD at he
          split at he
          · rename_i ns hn
            cases he
            have e := allI_ok hn
            subst e
            have e := RVs.ints hr
            subst e
            refine .inl ⟨a, ns, rfl, h, fun ns' q hp hs hq => ?_⟩
            have e := sortI_eq hp hs
            subst e
            obtain ⟨S2, e2⟩ := S.layF (o := .lst ((sortI ns).map V.int)) hq
            exact p _ _ _ e2 S2 (RV.lst (.inl rfl) upd_same (rvs_ints (G := G.fix q) _))
          · split at he
            · rename_i ps hp
              cases he
              have e := allP_ok hp
              subst e
              obtain ⟨e1, e2⟩ := rvs_pairs hr
              refine .inr ⟨a, ys, kP H, rfl, h, e2, fun zs q hs hb hq => ?_⟩
              have hz : ∀ x ∈ zs, ∃ t, x = V.ref t ∧ H t = some (.tup [.int (kP H x).1, .int (kP H x).2]) := fun x hx => e2 x (hb.perm.mem_iff.mp hx)
              have e3 : zs.map (kP H) = sortP ps := by
                refine sortP_eq (by rw [← e1]; exact hb.perm.map _) ?_
                refine List.pairwise_map.mpr (List.Pairwise.imp (fun {x y} h => ?_) hs)
                have h : SrtO.lexB (kP H y) (kP H x) = false := h
                rw [leP_iff]
                have := SrtO.lexB_no.mp h
                omega
              obtain ⟨S2, e4⟩ := S.layF (o := .lst zs) hq
              refine p _ _ _ e4 S2 (RV.lst (.inl rfl) upd_same ?_)
              have := rvs_of_kP (K := X.K) (F := G.F) hz
              rw [e3] at this
              exact RVs.ext e4 _ _ this
            · cases he
        · exact p.elim
      · exact p.elim
  · exact p.elim
end
end Zm
namespace Zm
open PySem PySem.Spec PyProof.Rows L2

theorem law_callZ {P : Program} {w : World} {K : PySem.W.Frag} {mg mb : Str → Option Value} {k : Nat} {fa a : Addr} {fd : FuncData} {x : Str} {den : Den} {s₁ : Shared} {vs : List Value} {ns : List Int}
    (KX : K.In s₁.heap) (hns : s₁.heap.Ns mainGlobals mg) (hb : s₁.heap.Ns builtinsNs mb) (hbb : ∀ x : Str, x ≠ "__name__" → mb x = bootBuiltins x) (hlim : s₁.heap.NoLimit) (hg : s₁.gens = #[])
    (ha : s₁.heap.get? a = some { cls := .type "list", data := .seq vs.toArray }) (hi : IntsAre vs ns) (hl : ns.length ≤ sizeLine) (hr : Room k callerA)
    (hsm : ∃ mm, s₁.heap.Ns sysModules mm) (hsk : K.lookup sysModules = none)
    (F : ∀ base : Heap, K.In base → base.Ns mainGlobals mg → FnZ P w K mg base k fa fd [x] den) (hbind : ∀ (s : Shared) (u : Value), BindsTo s fd ⟨[u], []⟩ [(x, u)])
    (hden : ∃ M', den [.scr ns] [] = .ok (.d (.bool true)) M') :
    codeAny (model P w) callerA (.call (.ref fa) ⟨[.ref a], []⟩) (fun r s' => r = .ok (.ret (.bool true)) ∧ OldK s₁.heap s'.heap ∧ s'.os = s₁.os ∧ AllBare s'.gens) s₁ := by
  have rv := vals_ints hi
  have lenV := hi.length
  obtain ⟨mm, om, esm, epm, hom, hdm, _⟩ := hsm
  have hne : a ≠ sysModules := by
    intro z
    rw [z, hom] at ha
    cases ha
    cases hdm
  obtain ⟨H, hH⟩ : ∃ H : Hp, H = fun b => if b = sysModules then some (.frz om (.ext fun _ => True)) else if b = a ∧ K.lookup a = none then some (.frz { cls := .type "list", data := .seq vs.toArray } (.lst (ns.map V.int))) else none := ⟨_, rfl⟩
  have H1 : H sysModules = some (.frz om (.ext fun _ => True)) := by rw [hH]; exact if_pos rfl
  have H2 : K.lookup a = none → H a = some (.frz { cls := .type "list", data := .seq vs.toArray } (.lst (ns.map V.int))) := fun z => by
    rw [hH]
    show (if a = sysModules then _ else if a = a ∧ K.lookup a = none then _ else _) = _
    rw [if_neg hne, if_pos ⟨rfl, z⟩]
  have H3 : ∀ b, b ≠ sysModules → ¬ (b = a ∧ K.lookup a = none) → H b = none := fun b z1 z2 => by
    rw [hH]
    show (if b = sysModules then _ else if b = a ∧ K.lookup a = none then _ else _) = _
    rw [if_neg z1, if_neg z2]
  have HK : ∀ b o, K.lookup b = some o → H b = none := fun b o e => H3 b (fun z => by rw [z, hsk] at e; cases e) fun z => by rw [z.1, z.2] at e; cases e
  have HD : ∀ {b : Addr} {o : Obj} {es : Array DictEntry} {ep : Nat}, b ≠ sysModules → s₁.heap.get? b = some o → o.data = .dict es ep → H b = none := fun {b o es ep} z e d => H3 b z fun q => by
    rw [q.1, ha] at e
    cases e
    cases d
  have hok : HOk P w H s₁.heap := by
    intro b u e
    by_cases h1 : b = sysModules
    · subst h1
      rw [H1] at e
      cases e
      exact ⟨hom, trivial, ⟨_, hom⟩, fun _ _ _ _ => trivial⟩
    · by_cases h2 : b = a ∧ K.lookup a = none
      · obtain ⟨rfl, h2⟩ := h2
        rw [H2 h2] at e
        cases e
        exact ⟨ha, by rw [List.length_map]; exact hl, vs, _, rv, ha⟩
      · rw [H3 b h1 h2] at e
        cases e
  have hfrz : ∀ b u, H b = some u → ∃ o v, u = .frz o v := by
    intro b u e
    by_cases h1 : b = sysModules
    · subst h1
      rw [H1] at e
      cases e
      exact ⟨_, _, rfl⟩
    · by_cases h2 : b = a ∧ K.lookup a = none
      · obtain ⟨rfl, h2⟩ := h2
        rw [H2 h2] at e
        cases e
        exact ⟨_, _, rfl⟩
      · rw [H3 b h1 h2] at e
        cases e
  have nsK : ∀ {b : Addr} {m : Str → Option Value}, b ≠ sysModules → s₁.heap.Ns b m → (hidT s₁.heap H).Ns b m := by
    rintro b m z ⟨o, es, ep, e, d, r⟩
    exact ⟨o, es, ep, hidT_get e (HD z e d), d, r⟩
  have hKb : K.In (hidT s₁.heap H) := fun b o e => hidT_get (KX b o e) (HK b o e)
  have hM : Mod K mg (hidT s₁.heap H) := by
    obtain ⟨mc, h1, h2⟩ := hlim
    exact ⟨hKb, nsK (by decide) hns, ⟨mb, nsK (by decide) hb, hbb⟩, ⟨mc, nsK (by decide) h1, h2⟩⟩
  have e0 : Env0 P w K mg (hidT s₁.heap H) callerA [] s₁ H :=
    { frames := rfl, mod := hM, bs := fun b o e => of_hidT e, bsz := Nat.le_of_eq (hidT_size _ _), funs := trivial, frf := fun b hb => absurd (show b ∈ ([] : List Addr) from hb) (by simp), hok := hok, bare := .of_eq hg }
  have scr : Scr K H a (ns.map V.int) := by
    cases hk : K.lookup a with
    | none => exact .inl ⟨_, H2 hk⟩
    | some o =>
      have e := KX a o hk
      rw [ha] at e
      cases e
      exact .inr ⟨_, vs.toArray, _, hk, rfl, rfl, rfl, by rw [List.size_toArray, lenV]; exact hl, by simpa using rv⟩
  obtain ⟨M', hd⟩ := hden
  have sim : SimM K mg ⟨[], fun _ => False⟩ [] H := ⟨rfl, List.nodup_nil, fun i a o h => by simp at h, fun a h => by simp at h, fun a h => h.elim, ⟨_, _, H1⟩⟩
  have sp : SpZ K mg den [.ref a] H (fun v _ => v = .bl true) (fun _ _ _ => False) := by
    refine ⟨⟨[], fun _ => False⟩, [.scr ns], [], sim, .cons ⟨a, rfl, scr⟩ .nil, ?_⟩
    rw [hd]
    intro G' H' v _ _ r
    have r : RV K G'.F H' v (.bool true) := r
    cases r
    rfl
  refine codeAny_mono ((F _ hKb (nsK (by decide) hns)).run callerA [] s₁ H ⟨[.ref a], []⟩ [.ref a] [.ref a] _ _ hr rfl e0 (hbind s₁ (.ref a)) (.cons rfl .nil) rfl sp) fun r s' h => ?_
  cases r with
  | error e =>
    obtain ⟨_, _, _, _, _, _, _, _, _, _, _, _, z⟩ := h
    exact z.elim
  | ok fl =>
    cases fl with
    | next => exact False.elim h
    | brk => exact False.elim h
    | cont => exact False.elim h
    | ret u =>
      obtain ⟨v, H', os, bare, un, hok', r', q⟩ := h
      have q : v = .bl true := q
      subst q
      obtain rfl : u = Value.bool true := r'
      refine ⟨rfl, OldK.of_keep fun b o e => ?_, os, bare⟩
      cases q : H b with
      | none => exact un.keep b o e q (fun z => absurd (show b ∈ ([] : List Addr) from z) (by simp)) (by simp)
      | some u =>
        obtain ⟨ob, v, rfl⟩ := hfrz b u q
        obtain ⟨e1, _⟩ := hok b _ q
        obtain ⟨e2, _⟩ := hok' b _ (un.frzs b ob _ q)
        rw [e] at e1
        cases e1
        exact e2
/-- the goal that the head leaves -/
theorem walkZ {l : PySem.W.OpenLaw} {n k : Nat} {q : Program} {loose : List Str} {XP : (Str → Option Value) → Heap → Prop} {YP : World → Heap → Prop} {d : DefRec} {K : Params → PySem.W.Frag} {den : Den} {x : Str}
    (hn : l.most = some n) (hn2 : n ≤ sizeLine) (hdf : d.params.defaults = []) (hr : Room k callerA) (himp : importsNone q = true) (hsk : ∀ w : World, (K w.params).lookup sysModules = none)
    (hY : ∀ (w : World) (h : Heap), YP w h → (K w.params).In h)
    (F : ∀ (w : World) (mg : Str → Option Value) (fa : Addr) (h : Heap), (K w.params).In h → h.Ns mainGlobals mg → mg d.name = some (.ref fa) →
      ∃ fd : FuncData, (∀ (s : Shared) (u : Value), BindsTo s fd ⟨[u], []⟩ [(x, u)]) ∧
        ∀ base : Heap, (K w.params).In base → base.Ns mainGlobals mg → FnZ l.prog w (K w.params) mg base k fa fd [x] den)
    (hden : ∀ ns : List Int, ns.length ≤ n → ∃ M', den [.scr ns] [] = .ok (.d (.bool true)) M') :
    PySem.W.WalkO q loose XP YP l.row.toRowW d [] (fun f vs => PySem.call f vs) := by
  refine Att.attach_call hn hdf fun w s₀ s₁ mg mb fa o pm cd doc a vs ns G Y ho hd hcd hmg hobj hints hlen hg => ?_
  obtain ⟨fd, hb, hF⟩ := F w mg fa _ (hY w _ Y) G.T.g hmg
  obtain ⟨mm, hmm, _⟩ := (G.T.seer himp).mods
  exact law_callZ (hY w _ Y) G.T.g G.T.b G.T.builtins G.T.nolimit hg hobj hints (Nat.le_trans hlen hn2) hr ⟨mm, hmm⟩ (hsk w) hF hb (hden ns hlen)
end Zm
namespace Zm
open PySem PySem.Spec PyProof.Rows L2

/-! ### tests that are comparisons -/
section
variable {X : Cx} {W : WX} {a b : Expr} {ma mb : EM} {pos : Pos}
theorem st_lt (ha : SE X W a ma) (hb : SE X W b mb) (hm : behindInMarks .Lt b = false := by rfl) : ST X W (.Compare a [.Lt] [b] pos) (mT (mOp vLt ma mb)) := st_cmp op_lt oz_bool ha hb hm
theorem st_gt (ha : SE X W a ma) (hb : SE X W b mb) (hm : behindInMarks .Gt b = false := by rfl) : ST X W (.Compare a [.Gt] [b] pos) (mT (mOp vGt ma mb)) := st_cmp op_gt oz_bool ha hb hm
theorem st_ge (ha : SE X W a ma) (hb : SE X W b mb) (hm : behindInMarks .GtE b = false := by rfl) : ST X W (.Compare a [.GtE] [b] pos) (mT (mOp vGe ma mb)) := st_cmp op_ge oz_bool ha hb hm
theorem st_le (hu : X.A.units < cLine) (ha : SE X W a ma) (hb : SE X W b mb) (hm : behindInMarks .LtE b = false := by rfl) : ST X W (.Compare a [.LtE] [b] pos) (mT (mOp vLe ma mb)) := st_cmp (OpR.or op_le (op_leT hu)) oz_le ha hb hm
theorem st_eq (hu : X.A.units + 64 < cLine) (ha : SE X W a ma) (hb : SE X W b mb) (hm : behindInMarks .Eq b = false := by rfl) : ST X W (.Compare a [.Eq] [b] pos) (mT (mOp vEq ma mb)) := st_cmp (OpR.or op_eq (op_eqD hu)) oz_eq ha hb hm
theorem st_ne (hu : X.A.units + 64 < cLine) (ha : SE X W a ma) (hb : SE X W b mb) (hm : behindInMarks .NotEq b = false := by rfl) : ST X W (.Compare a [.NotEq] [b] pos) (mT (mOp vNe ma mb)) := st_cmp (OpR.or op_ne (op_neD hu)) oz_ne ha hb hm
theorem st_isN (ha : SE X W a ma) (hb : SE X W b mb) (hm : behindInMarks .Is b = false := by rfl) : ST X W (.Compare a [.Is] [b] pos) (mT (mOp vIsN ma mb)) := st_cmp op_isN oz_isN ha hb hm
theorem st_notN (ha : SE X W a ma) (hb : SE X W b mb) (hm : behindInMarks .IsNot b = false := by rfl) : ST X W (.Compare a [.IsNot] [b] pos) (mT (mOp vNotN ma mb)) := st_cmp op_notN oz_notN ha hb hm
theorem st_in (hu : X.A.units + 65 < cLine) (ha : SE X W a ma) (hb : SE X W b mb) (hm : behindInMarks .In b = false := by rfl) : ST X W (.Compare a [.In] [b] pos) (mT (mOp (vIn false) ma mb)) := st_cmp (op_inA hu) oz_in ha hb hm
theorem st_notIn (hu : X.A.units + 65 < cLine) (ha : SE X W a ma) (hb : SE X W b mb) (hm : behindInMarks .NotIn b = false := by rfl) : ST X W (.Compare a [.NotIn] [b] pos) (mT (mOp (vIn true) ma mb)) := st_cmp (op_notInA hu) oz_in ha hb hm
theorem room_u {k : Nat} {A : Around} (r : Room k A) : A.units < cLine := r.units0
theorem room_u64 {k : Nat} {A : Around} (r : Room k A) : A.units + 64 < cLine := r.units
theorem room_u65 {k : Nat} {A : Around} (r : Room k A) : A.units + 65 < cLine := by have := r.un; omega
theorem room_u70 {k : Nat} {A : Around} (r : Room k A) : A.units + 70 < cLine := by have := r.un; omega
/-- names of what the module holds -/
theorem se_gint {x : Str} {i : Int} {pos : Pos} (hg : Gl X x) (hm : ∃ t, X.mg x = some (.int i t)) (hd : (x == ("__debug__" : Str)) = false := by decide) : SE X W (.Name x pos) (mC (.int i)) := by
  obtain ⟨t, hm⟩ := hm
  exact se_c (pe_glob (v := V.int i) hg hm ⟨t, rfl⟩ hd) fun _ _ => .int i
theorem se_gstr {x z : Str} {pos : Pos} (hg : Gl X x) (hm : ∃ t, X.mg x = some (.str z t)) (hd : (x == ("__debug__" : Str)) = false := by decide) : SE X W (.Name x pos) (mC (.str z)) := by
  obtain ⟨t, hm⟩ := hm
  exact se_c (pe_glob (v := V.str z) hg hm ⟨t, rfl⟩ hd) fun _ _ => .str z
end

/-! ### x[::-1] -/
section
variable {prog : Program} {w : World} {A : Around} {E : Value → Shared → Prop} {s : Shared}
theorem filterMap_same {α β : Type} {f g : α → Option β} : ∀ {l : List α}, (∀ x ∈ l, f x = g x) → l.filterMap f = l.filterMap g
  | [], _ => rfl
  | x :: l, h => by
    rw [List.filterMap_cons, List.filterMap_cons, h x List.mem_cons_self, filterMap_same fun y hy => h y (List.mem_cons_of_mem _ hy)]
theorem adjust_rev (n : Nat) : Builtin.Slice.sliceAdjust none none (-1) (n : Int) = ((n : Int) - 1, -1) := by
  unfold Builtin.Slice.sliceAdjust
  simp
theorem places_rev (n : Nat) : Builtin.Slice.slicePlaces ((n : Int) - 1) (-1) (-1) = n := by
  unfold Builtin.Slice.slicePlaces
  have h : ¬ ((-1 : Int) > 0) := by decide
  simp only [h, if_false]
  rw [show (- -1 : Int) = 1 by decide, Int.ediv_one]
  split <;> omega
theorem getItem_tuple_rev {t sl : Addr} {items : Array Value} {u : Tok} {Q : Value → Shared → Prop} (ht : IsTup s.heap t items) (hs : s.heap.IsSliceOf sl .none .none (.int (-1) u))
    (h : Q (.ref s.heap.objs.size) { s with heap := s.heap.push { cls := .type "tuple", data := .seq items.toList.reverse.toArray } }) (hsz : items.size ≤ sizeLine) : wpAny (model prog w) A (getItem (.ref t) (.ref sl)) Q E s := by
  have hfit : sizeOk (.seq items.toList.reverse.toArray) := by
    show items.toList.reverse.toArray.size ≤ sizeLine
    simpa using hsz
  obtain ⟨os, hos, hcs, hds⟩ := id hs
  have hTs : s.TypeIs (.ref sl) "slice" := ⟨os, hos, hcs⟩
  unfold getItem
  try with_reducible refine wpAny_holding ?_
  first | refine wpAny_bind (wpAny_pure ?_) | skip
  refine wpAny_bind (wpAny_sequenceKey ht.typeIs (by decide) (wpAny_bind (wpAny_callSpecial?_slot (name := Str.ofString "__getitem__") ht.typeIs PyProof.Rows.slot_tuple_getitem
    (wpAny_call_entry PyProof.Rows.slot_tuple_getitem ht.typeIs entry_tuple_getitem ?_ (args_tuple_getitem _ _)))))
  show wpAny _ _ (Builtin.Tuple.tupleItemsOf (.ref t) >>= _) _ _ s
  refine wpAny_bind (tupleItemsOf_ ht (wpAny_bind (wpAny_typeOf hTs ?_)))
  rw [if_pos (by decide)]
  have app : ∀ {Q' : Int × Int × Nat → Shared → Prop} {E' : Value → Shared → Prop} {A' : Around}, Q' ((items.size : Int) - 1, -1, items.size) s → wpAny (model prog w) A' (Builtin.Slice.sliceApplied (.ref sl) (pure (items.size : Int))) Q' E' s := by
    intro Q' E' A' q
    unfold Builtin.Slice.sliceApplied Builtin.Slice.sliceFields
    refine wpAny_bind (wpAny_bind (wpAny_field hos hds (x := .none) rfl (wpAny_bind (wpAny_field hos hds (x := .none) rfl (wpAny_bind (wpAny_field hos hds (x := .int (-1) u) rfl (wpAny_pure ?_)))))))
    refine wpAny_bind (slicePart_int ?_)
    show wpAny _ _ (if ((-1 : Int) == 0) = true then _ else _) _ _ s
    rw [if_neg (by decide)]
    refine wpAny_bind (slicePart_none (wpAny_bind (slicePart_none (wpAny_bind (wpAny_pure ?_)))))
    show wpAny _ _ (match Builtin.Slice.sliceAdjust none none (-1) (items.size : Int) with | (lo, hi) => pure (lo, (-1 : Int), Builtin.Slice.slicePlaces lo hi (-1))) _ _ s
    rw [adjust_rev]
    show wpAny _ _ (pure ((items.size : Int) - 1, (-1 : Int), Builtin.Slice.slicePlaces ((items.size : Int) - 1) (-1) (-1))) _ _ s
    rw [places_rev]
    exact wpAny_pure q
  refine wpAny_bind (app ?_)
  show wpAny _ _ (if (((items.size : Int) - 1) == 0 && (-1 : Int) == 1 && items.size == items.size) = true then _ else _) _ _ s
  rw [if_neg (by intro q; rw [Bool.and_eq_true, Bool.and_eq_true] at q; exact absurd q.1.2 (by decide))]
  have pick : ((List.range items.size).filterMap fun (k : Nat) => items[((items.size : Int) - 1 + (k : Int) * (-1)).toNat]?).toArray = items.toList.reverse.toArray := by
    have e1 : (List.range items.size).filterMap (fun (k : Nat) => items[((items.size : Int) - 1 + (k : Int) * (-1)).toNat]?) = (List.range items.size).filterMap (fun k => items[items.size - 1 - k]?) := by
      refine filterMap_same fun k hk => ?_
      have hk := List.mem_range.mp hk
      have : ((items.size : Int) - 1 + (k : Int) * (-1)).toNat = items.size - 1 - k := by omega
      rw [this]
    rw [e1]
    have e2 : (List.range items.size).filterMap (fun k => items[items.size - 1 - k]?) = ((List.range items.size).map fun k => items.size - 1 - k).filterMap (items[·]?) := by
      rw [List.filterMap_map]
      rfl
    rw [e2, PySem.W.krv_range, List.filterMap_reverse, PySem.W.krv_all]
  rw [pick]
  first
    | exact wpAny_bind (m := Builtin.Tuple.tupleExact _) (wpAny_newObj_type (wpAny_pure ⟨_, rfl, wpAny_pure h⟩) hfit)
    | exact wpAny_bind (m := Builtin.Tuple.tupleExact _) (wpAny_newObj_type (wpAny_bind (wpAny_pure (wpAny_pure ⟨_, rfl, wpAny_pure h⟩))) hfit)
    | exact wpAny_bind (wpAny_bind (m := Builtin.Tuple.tupleExact _) (wpAny_newObj_type (wpAny_pure (wpAny_pure ⟨_, rfl, wpAny_pure h⟩)) hfit))
    | exact wpAny_bind (wpAny_bind (m := Builtin.Tuple.tupleExact _) (wpAny_newObj_type (wpAny_pure ⟨_, rfl, wpAny_pure h⟩) hfit))
end
section
variable {X : Cx} {W : WX} {pos : Pos}
def tRevT (K : PySem.W.Frag) (te : TE) : TE := fun σ H Q => te σ H fun x H1 => ∃ a xs, x = .ref a ∧ SqT K H1 a xs ∧ ∀ p, H1 p = none → Q (.ref p) (upd H1 p (.tup xs.reverse))
theorem pe_revT {e : Expr} {te : TE} {k : Nat} {p1 p2 p3 : Pos} (he : PE X e te) : PE X (.Subscript e (.Slice none none (some (.UnaryOp .USub (.Constant (.int 1) k p1) p2)) p3) pos) (tRevT X.K te) := by
  refine ⟨fun pins s σ H Q I h => Subscript_ (thn (he.run pins s σ H _ I h) fun v s1 ⟨x, H1, I1, r1, a, xs, ex, hx, q⟩ => ?_)⟩
  subst ex
  cases r1
  have hst : PO X (some (.UnaryOp .USub (.Constant (.int 1) k p1) p2)) (tPart (tUn (rU fun i => .int (-i)) (tC (.int 1)))) := po_some (pe_un un_neg pe_int)
  refine wpAny_Slice (thn (po_none.run pins s1 σ H1 (fun o H2 => o = none ∧ H2 = H1) I1 ⟨rfl, rfl⟩) fun vl s2 ⟨l, H2, I2, pl, el, e2⟩ => ?_)
  subst el e2
  refine thn (po_none.run pins s2 σ H2 (fun o H3 => o = none ∧ H3 = H2) I2 ⟨rfl, rfl⟩) fun vu s3 ⟨u, H3, I3, pu, eu, e3⟩ => ?_
  subst eu e3
  refine thn (hst.run pins s3 σ H3 (fun o H4 => o = some (-1) ∧ H4 = H3) I3 ⟨1, rfl, -1, rfl, rfl, rfl⟩) fun vs s4 ⟨o, H4, I4, ps, eo, e4⟩ => ?_
  subst eo e4
  cases pl
  cases pu
  cases ps with
  | int i tk =>
    have I5 : Inv X pins σ H4 { s4 with heap := s4.heap.push { cls := .type "slice", data := .fields #[.none, .none, .int (-1) tk] } } := I4.kept (t' := s4.toks) fun b ob q => Heap.get?_push_of_some _ q
    obtain ⟨its, r, ht, hz⟩ := I5.tuple hx
    have hlen := r.length
    show wpAny (model X.prog X.w) X.A (subscriptTail e (.Slice none none (some (.UnaryOp .USub (.Constant (.int 1) k p1) p2)) p3) (.ref a) (.ref s4.heap.objs.size)) (EP X pins σ Q) X.xe { s4 with heap := s4.heap.push { cls := .type "slice", data := .fields #[.none, .none, .int (-1) tk] } }
    refine tail_any (ops := [.ref a, .ref s4.heap.objs.size]) ht.typeIs (PyProof.Rows.slot_tuple_getitem.lookup) ?_ (by with_unfolding_all rfl)
    refine getItem_tuple_rev (u := tk) ht (Heap.IsSliceOf.new _ _ _ _) ?_ (by rw [List.size_toArray]; omega)
    refine ⟨.ref _, _, I5.laid (t' := s4.toks) (o := .tup xs.reverse) (fun b ob q => Heap.get?_push_of_some _ q) (Nat.le_refl _) ?_, rfl, q _ (I5.hok.fresh (Nat.le_refl _))⟩
    exact ⟨by rw [List.length_reverse]; exact hz, its.reverse, r.reverse, ⟨_, Heap.get?_push_size _ rfl, rfl, 0, by simp⟩⟩
theorem RVs.reverse {K : PySem.W.Frag} {F : Addr → Prop} {H : Hp} : ∀ {xs : List V} {ds : List PyData}, RVs K F H xs ds → RVs K F H xs.reverse ds.reverse
  | _, [], h => by cases h; exact .nil
  | _, d :: ds, h => by
    cases h with
    | cons h1 h2 =>
      rw [List.reverse_cons, List.reverse_cons]
      exact RVs.append (RVs.reverse h2) (.cons h1 .nil)
def vRev (v : Val) (M : Mm) : Out Val := match v with
  | .d (.tuple ds) => .ok (.d (.tuple ds.reverse)) M
  | v => match listD v M with
    | some ds => .ok (.d (.list ds.reverse)) M
    | none => .bad
def mRev (m : EM) : EM := fun s M => (m s M).bind vRev
theorem se_rev {e : Expr} {m : EM} {k : Nat} {p1 p2 p3 : Pos} (he : SE X W e m) : SE X W (.Subscript e (.Slice none none (some (.UnaryOp .USub (.Constant (.int 1) k p1) p2)) p3) pos) (mRev m) := by
  refine ⟨⟨fun pins s σ H Q I h => ?_⟩⟩
  obtain ⟨G, sl, M, S, N, p⟩ := h
  cases q : m sl M with
  | bad => unfold mRev at p; rw [q] at p; exact p.elim
  | er x M' => exact (pe_revT he.pe).run pins s σ H Q I ⟨G, sl, M, S, N, by unfold mRev at p; rw [q] at p ⊢; exact p⟩
  | ok v M1 =>
    unfold mRev at p
    rw [q] at p
    replace p : Post X.K X.mg W G σ H (fun G' H' x v => RW X.K G' H' x v) Q (vRev v M1) := p
    unfold vRev at p
    split at p
    · rename_i ds
      refine (pe_revT he.pe).run pins s σ H Q I ⟨G, sl, M, S, N, ?_⟩
      rw [q]
      intro G1 H1 x e1 S1 r1
      have r1 : RV X.K G1.F H1 x (.tuple ds) := r1
      cases r1 with
      | @tup a xs _ h1 h2 =>
        refine ⟨a, xs, rfl, SqT.of h1, fun p' hp' => ?_⟩
        obtain ⟨S2, e2⟩ := S1.lay (o := .tup xs.reverse) hp'
        exact p G1 _ _ (e1.trans e2) S2 (RV.tup upd_same (RVs.reverse (RVs.ext e2 _ _ h2)))
    · split at p
      · rename_i ds ed
        refine (pe_revL he.pe).run pins s σ H Q I ⟨G, sl, M, S, N, ?_⟩
        rw [q]
        intro G1 H1 x e1 S1 r1
        obtain ⟨a, xs, rfl, h1, h2⟩ := listD_ok S1 r1 ed
        refine ⟨a, xs, rfl, h1, fun p' hp' => ?_⟩
        obtain ⟨S2, e2⟩ := S1.layF (o := .lst xs.reverse) hp'
        exact p _ _ _ (e1.trans e2) S2 (RV.lst (.inl rfl) upd_same (RVs.reverse (RVs.ext e2 _ _ h2)))
      · exact p.elim

/-! ### dict displays with written keys -/
def mDct0 : EM := fun _ M => .ok (.d (.dict [])) M
theorem se_dct0 : SE X W (.Dict [] [] pos) mDct0 := by
  refine ⟨peImp pe_dnewK fun σ H Q ⟨G, s, M, S, N, p⟩ q hq => ?_⟩
  obtain ⟨S2, e2⟩ := S.layF (o := .dK []) hq
  exact p _ _ _ e2 S2 (RV.dct (.inl rfl) upd_same .nil)
/-- {} at a place of its own -/
def mDctN : EM := fun _ M => .ok (.obj M.length) (M ++ [.dct []])
theorem pushD {K : PySem.W.Frag} {mg : Str → Option Value} {G : Gh} {M : Mm} {H : Hp} {o : HO} {u : MO} (S : SimM K mg G M H) {p : Addr} (hp : H p = none) (r : Ext G H (G.push p) (upd H p o) → RO K mg (G.push p) (upd H p o) p u) :
    SimM K mg (G.push p) (M ++ [u]) (upd H p o) ∧ Ext G H (G.push p) (upd H p o) ∧ RW K (G.push p) (upd H p o) (.ref p) (.obj M.length) := by
  obtain ⟨S1, e1⟩ := S.lay (o := o) hp
  have e2 : Ext G H (G.push p) (upd H p o) := ext_push hp e1
  refine ⟨S1.push (S.newne hp) (by rw [upd_same]; simp) (r e2), e2, p, rfl, ?_⟩
  show (G.φ ++ [p])[M.length]? = some p
  rw [← S.len]
  simp
theorem se_dctN : SE X W (.Dict [] [] pos) mDctN := by
  refine ⟨peImp pe_dnewK fun σ H Q ⟨G, s, M, S, N, p⟩ q hq => ?_⟩
  obtain ⟨S2, e2, r2⟩ := pushD S (o := .dK []) (u := .dct []) hq fun e => ⟨fun z => S.fthere q z hq, .inl ⟨[], upd_same, .nil⟩⟩
  exact p _ _ _ e2 S2 r2
theorem se_dctNT : SE X W (.Dict [] [] pos) mDctN := by
  refine ⟨peImp pe_dnewT fun σ H Q ⟨G, s, M, S, N, p⟩ q hq => ?_⟩
  obtain ⟨S2, e2, r2⟩ := pushD S (o := .dT []) (u := .dct []) hq fun e => ⟨fun z => S.fthere q z hq, .inr ⟨[], upd_same, .nil⟩⟩
  exact p _ _ _ e2 S2 r2
theorem putK_new {κ : Type} [DecidableEq κ] {kvs : List (κ × V)} {k : κ} {v : V} (h : k ∉ kvs.map (·.1)) : putK kvs k v = kvs ++ [(k, v)] := by
  unfold putK
  rw [if_neg]
  intro z
  obtain ⟨p, hp, e⟩ := List.any_eq_true.mp z
  exact h (List.mem_map.mpr ⟨p, hp, of_decide_eq_true e⟩)
theorem mergeK_new : ∀ (more kvs : List (Key × V)), ((kvs ++ more).map (·.1)).Nodup → mergeK kvs more = kvs ++ more
  | [], kvs, _ => by simp [mergeK]
  | p :: more, kvs, h => by
    have h' : (((kvs ++ [p]) ++ more).map (·.1)).Nodup := by simpa using h
    have hn : p.1 ∉ kvs.map (·.1) := by
      rw [List.map_append, List.nodup_append] at h
      exact fun z => h.2.2 _ z _ (by simp) rfl
    show mergeK (putK kvs p.1 p.2) more = _
    rw [putK_new hn]
    have := mergeK_new more (kvs ++ [(p.1, p.2)]) h'
    rw [this]
    simp
/-- the values of a display, from the left -/
structure SPs (X : Cx) (W : WX) (pos : Pos) (keys : List (Option Expr)) (values : List Expr) (ks : List Key) (ms : AM) : Prop where
  ex : ∃ trs, PPs X pos keys values trs ∧ ∀ σ H Q, TAm X.K X.mg W ms σ H (fun ys H' => ys.length = ks.length ∧ Q ((ks.zip ys).map fun p => (kV p.1, p.2)) H') → tPairs trs σ H Q
theorem sps_nil {pos : Pos} : SPs X W pos [] [] [] mNil := ⟨[], pps_nil, fun σ H Q ⟨G, s, M, S, N, p⟩ => (p G H [] .refl S .nil).2⟩
theorem sps_cons {pos : Pos} {k v : Expr} {ks : List (Option Expr)} {vs : List Expr} {key : Key} {keys : List Key} {m : EM} {ms : AM} (hk : PE X k (tC (kV key))) (hv : SE X W v m) (hr : SPs X W pos ks vs keys ms) : SPs X W pos (some k :: ks) (v :: vs) (key :: keys) (mCons m ms) := by
  obtain ⟨trs, h1, h2⟩ := hr.ex
  refine ⟨_, pps_cons hk hv.pe h1, fun σ H Q ⟨G, s, M, S, N, p⟩ => ?_⟩
  refine ⟨G, s, M, S, N, Post.bind p fun u M1 G1 H1 y e1 S1 r1 p1 => h2 _ _ _ ⟨G1, s, M1, S1, N.ext e1, Post.bind p1 fun us M2 G2 H2 ys e2 S2 r2 p2 => ?_⟩⟩
  have q := p2 G2 H2 (y :: ys) .refl S2 (.cons (RW.ext e2 r1) r2)
  exact ⟨by simpa using q.1, by simpa using q.2⟩
def dispK (ks : List Key) (vs : List Val) (M : Mm) : Out Val := match allD vs with
  | some ds => if vs.length = ks.length ∧ ks.Nodup ∧ ks.length ≤ 15 then .ok (.d (.dict ((ks.zip ds).map fun p => (keyD p.1, p.2)))) M else .bad
  | none => .bad
def dispN (ks : List Key) (vs : List Val) (M : Mm) : Out Val := if vs.length = ks.length ∧ ks.Nodup ∧ ks.length ≤ 15 then .ok (.obj M.length) (M ++ [.dct ((ks.zip vs).map fun p => (keyD p.1, p.2))]) else .bad
def mDisp (k : List Val → Mm → Out Val) (ms : AM) : EM := fun s M => (ms s M).bind k
theorem rks_zip {K : PySem.W.Frag} {F : Addr → Prop} {H : Hp} : ∀ {ks : List Key} {ys : List V} {ds : List PyData}, RVs K F H ys ds → RKs K F H (ks.zip ys) ((ks.zip ds).map fun p => (keyD p.1, p.2))
  | [], _, _, _ => by simpa using RKs.nil
  | k :: ks, _, [], h => by cases h; simpa using RKs.nil
  | k :: ks, _, d :: ds, h => by
    cases h with
    | cons h1 h2 => exact .cons h1 (rks_zip h2)
theorem rws_zip {K : PySem.W.Frag} {G : Gh} {H : Hp} : ∀ {ks : List Key} {ys : List V} {vs : List Val}, RWs K G H ys vs → Paired (fun (y : Key × V) (k : PyData × Val) => k.1 = keyD y.1 ∧ RW K G H y.2 k.2) (ks.zip ys) ((ks.zip vs).map fun p => (keyD p.1, p.2))
  | [], _, _, _ => by simpa using Paired.nil
  | k :: ks, _, _, .nil => by simpa using Paired.nil
  | k :: ks, _, _, .cons h t => .cons ⟨rfl, h⟩ (rws_zip t)
theorem zip_keys {ks : List Key} {ys : List V} (h : ys.length = ks.length) : (ks.zip ys).map (·.1) = ks := by
  rw [List.map_fst_zip]
  omega
theorem se_disp {keys : List (Option Expr)} {values : List Expr} {ks : List Key} {ms : AM} {k : List Val → Mm → Out Val} (hk : k = dispK ks ∨ k = dispN ks) (h : SPs X W pos keys values ks ms) (hall : keys.all (·.isSome) = true := by rfl) (hl : keys.length = values.length := by rfl) (h0 : keys ≠ [] := by intro z; cases z)
    (h15 : keys.length ≤ 15 := by decide) : SE X W (.Dict keys values pos) (mDisp k ms) := by
  obtain ⟨trs, hp, hr⟩ := h.ex
  refine ⟨peImp (pe_disp hp hall hl h0 h15) fun σ H Q ⟨G, s, M, S, N, p⟩ q hq => ?_⟩
  obtain ⟨S1, e1⟩ := S.lay (o := .dK []) hq
  have nF : ¬ G.F q := fun z => S.fthere q z hq
  have nφ := S.newne hq
  have p : Post X.K X.mg W G σ H (fun G' H' x v => RW X.K G' H' x v) Q ((ms s M).bind k) := p
  refine hr _ _ _ ⟨G, s, M, S1, N.ext e1, ?_⟩
  cases em : ms s M with
  | bad => rw [em] at p; exact p.elim
  | er x M1 => rw [em] at p; exact fun G' H' c d e => p G' H' c d (e1.trans e)
  | ok vs M1 =>
    rw [em] at p
    replace p : Post X.K X.mg W G σ H (fun G' H' x v => RW X.K G' H' x v) Q (k vs M1) := p
    intro G2 H2 ys e2 S2 r2
    have hx : (upd H q (.dK [])) q = some (.dK []) := upd_same
    have nn : (upd H q (.dK [])) q ≠ none := by rw [hx]; simp
    have hx2 : H2 q = some (.dK []) := by rw [e2.keep q nn nφ]; exact hx
    have nφ2 : q ∉ G2.φ := fun z => (e2.φnew q z).elim nφ nn
    have nF2 : ¬ G2.F q := fun z => (e2.Fnew q z).elim nF fun z => z.elim nn nφ
    have eA : Ext G H G2 H2 := e1.trans e2
    have hlen := Paired.len r2
    have common : ∀ (hc : vs.length = ks.length ∧ ks.Nodup ∧ ks.length ≤ 15), ys.length = ks.length ∧ mergeK [] (ks.zip ys) = ks.zip ys := fun hc => by
      have hy : ys.length = ks.length := by rw [hlen]; exact hc.1
      refine ⟨hy, ?_⟩
      have := mergeK_new (ks.zip ys) [] (by rw [List.nil_append, zip_keys hy]; exact hc.2.1)
      simpa using this
    have e0 : ∀ o, Ext0 G2 H2 G2 (upd H2 q o) := fun o => ext0_side nF2 (fun xs z => by rw [hx2] at z; cases z) (fun a b z => by rw [hx2] at z; cases z)
    have S3 : ∀ o, SimM X.K X.mg G2 M1 (upd H2 q o) := fun o => S2.side nφ2 nF2 (fun xs z => by rw [hx2] at z; cases z) (fun a b z => by rw [hx2] at z; cases z)
    have eB : ∀ o, Ext G H G2 (upd H2 q o) := fun o => eA.side hq nF
    rcases hk with rfl | rfl
    · unfold dispK at p
      split at p
      · rename_i ds ed
        split at p
        · rename_i hc
          obtain ⟨c1, c2⟩ := common hc
          refine ⟨c1, hx2, ks.zip ys, rfl, by rw [List.length_zip]; have := hc.2.2; omega, ?_⟩
          rw [c2]
          have e4 : Ext0 G2 (upd H2 q (.dK (ks.zip ys))) (G2.fix q) (upd H2 q (.dK (ks.zip ys))) := ⟨⟨[], by simp [Gh.fix]⟩, fun _ _ h => h, fun _ _ _ h => h, fun b h => ⟨.inr h, rfl⟩⟩
          have S4 := (S3 (.dK (ks.zip ys))).grow e4 rfl (fun _ _ => rfl) (fun a ha h z => z.elim (fun z => nφ2 (z ▸ ha)) h) (fun a h => h.elim (fun z => by rw [z, upd_same]; simp) ((S3 _).fthere a))
          refine p (G2.fix q) _ _ ⟨(eB _).toExt0.trans e4, (eB _).keep, (eB (.dK [])).φnew, fun a h => h.elim (fun z => .inr (.inl (z ▸ hq))) ((eB (.dK [])).Fnew a)⟩ S4 (RV.dct (.inl rfl) upd_same ?_)
          exact rks_zip (RVs.ext0 ((e0 _).trans e4) _ _ (allD_ok ed r2))
        · exact p.elim
      · exact p.elim
    · unfold dispN at p
      split at p
      · rename_i hc
        obtain ⟨c1, c2⟩ := common hc
        refine ⟨c1, hx2, ks.zip ys, rfl, by rw [List.length_zip]; have := hc.2.2; omega, ?_⟩
        rw [c2]
        have e4 : Ext0 G2 (upd H2 q (.dK (ks.zip ys))) (G2.push q) (upd H2 q (.dK (ks.zip ys))) := ext_push0 .refl
        have S4 := (S3 (.dK (ks.zip ys))).push nφ2 (by rw [upd_same]; simp) (o := .dct ((ks.zip vs).map fun p => (keyD p.1, p.2))) ⟨nF2, .inl ⟨_, upd_same, rws_zip (RWs.ext0 ((e0 _).trans e4) r2)⟩⟩
        refine p (G2.push q) _ _ ⟨(eB _).toExt0.trans e4, (eB _).keep, fun a h => (List.mem_append.mp h).elim ((eB (.dK [])).φnew a) fun h => by
          have : a = q := by simpa using h
          rw [this]
          exact .inr hq, (eB (.dK [])).Fnew⟩ S4 ⟨q, rfl, ?_⟩
        show (G2.φ ++ [q])[M1.length]? = some q
        rw [← S2.len]
        simp
      · exact p.elim

/-! ### (a, b, ..) = (x, y, ..): through a tuple -/
def sTup (n : Nat) (a : AM) (g : GMs) : SM := fun s M => (a s M).bindS s fun vs M1 => if vs.length = n ∧ n ≤ 1000 then match g vs s M1 with
  | some (s', M') => .nx s' M'
  | none => .bad else .bad
theorem ss_tup {es ts : List Expr} {k k2 : Nat} {p1 p2 : Pos} {ma : AM} {g : GMs} {n : Nat} (hc : X.calm = true) (ha : SA X W es ma) (hg : SGs X ts g) (hn : (assignEach ts X.env).length = n := by rfl) (hst : (assignEach ts X.env).findIdx? (·.1) = none := by rfl)
    (hs : swapsWithSole [.Tuple ts k p1] (.Tuple es k2 p2) pos.line X.env = pure false := by rfl) (hw : swappedStores [.Tuple ts k p1] (.Tuple es k2 p2) X.env = pure none := by rfl)
    (h1 : (assignEach [.Tuple ts k p1] X.env).map (·.2) = [assign (.Tuple ts k p1) X.env] := by rfl) : SS X W (.Assign [.Tuple ts k p1] (.Tuple es k2 p2) pos) (sTup n ma g) := by
  refine ⟨psImp (ps_asg (pe_tup ha.pa) (pg_tup hc hg.pgs hn hst) hs hw h1) fun D σ H ⟨G, s, M, S, N, p⟩ => ⟨G, s, M, S, N, PostS.bind N p fun vs M1 G1 H1 xs e1 S1 r1 p1 => ?_⟩⟩
  split at p1
  · rename_i hl
    have hlen := Paired.len r1
    refine ⟨by rw [hlen, hl.1]; exact Nat.le_trans hl.2 (by decide), fun q hq => ?_⟩
    obtain ⟨S2, e2⟩ := S1.lay (o := .tup xs) hq
    refine ⟨q, xs, rfl, .inl (.inl upd_same), by rw [hlen]; exact hl.1, G1, s, M1, vs, S2, (N.ext e1).ext e2, RWs.ext e2 r1, ?_⟩
    exact PostG.ext e2 (PostG.of p1)
  · exact p1.elim
end
end Zm
namespace Zm
open PySem PySem.Spec PyProof.Rows L2

/-- where a def of the text stands -/
structure DefAt (K : PySem.W.Frag) (mg : Str → Option Value) (x : Str) (st : Stmt) : Prop where
  ex : ∃ f fd, Fun K x x st f fd ∧ mg x = some (.ref f)
/-- what a def does -/
structure DefZ (P : Program) (w : World) (K : PySem.W.Frag) (mg : Str → Option Value) (base : Heap) (k : Nat) (x : Str) (st : Stmt) (ps : List Str) (den : Den) : Prop where
  ex : ∃ f fd, Fun K x x st f fd ∧ mg x = some (.ref f) ∧ FnZ P w K mg base k f fd ps den
/-- how the arguments of a def of the text bind -/
def BindZ (x : Str) (st : Stmt) (ps : List Str) : Prop := ∀ (kV doc pm : Value) (an : Option Addr) (cdv ct : Value) (us : List Value), us.length = ps.length →
  bindArgs (PySem.W.fnOf x x (defArgs st) (defBody st) (defScope st) .none kV doc pm an cdv ct) ⟨us, []⟩ = pure (ps.zip us)
def KBindZ (x : Str) (st : Stmt) (ps ks : List Str) (np nk : Nat) (ix : List Nat) : Prop := ∀ (kV doc pm : Value) (an : Option Addr) (cdv ct : Value) (us ws : List Value), us.length = np → ws.length = nk →
  bindArgs (PySem.W.fnOf x x (defArgs st) (defBody st) (defScope st) .none kV doc pm an cdv ct) ⟨us, ks.zip ws⟩ = pure (ps.zip (pickBy ix (us ++ ws))) ∧ (pickBy ix (us ++ ws)).length = ps.length
theorem defZ {P : Program} {w : World} {K : PySem.W.Frag} {mg : Str → Option Value} {base : Heap} {x : Str} {st : Stmt} {N ps : List Str} {k : Nat} {b : SM} (D : DefAt K mg x st) (S : FnScope N ps (defScope st)) (hps : ps.length ≤ N.length)
    (hbody : ∀ (f : Addr) (cdv : Value) (A : Around) (outer : List Env) (s : Shared) (H : Hp) (E : XK), Room k (A.deeper (envOfC x (defScope st) s.heap.objs.size f cdv)) → (CxZ P w K mg base N x (defScope st) f cdv A outer s H E).A.guards = some [] →
      SSs (CxZ P w K mg base N x (defScope st) f cdv A outer s H E) (fun c d _ H' => E c d H') (defBody st) b) : DefZ P w K mg base (k + 1) x st ps (trim (body N.length b)) := by
  obtain ⟨f, fd, F, g⟩ := D.ex
  exact ⟨f, fd, F, g, (Fun.fnz F S hps fun cdv A outer s H E hr hG => hbody f cdv A outer s H E hr hG).trim⟩
theorem defAt {K : PySem.W.Frag} {h : Heap} {mg : Str → Option Value} {x : Str} {st : Stmt} {f : Addr} {oc : Value} {od an : Option Addr} {osl : Array (Option Value)} {kV doc pm cdv ct : Value} (X : K.In h) (G : h.Ns mainGlobals mg) (a : PySem.W.nsIn K mainGlobals x = some (some (.ref f)))
    (l : K.lookup f = some ⟨oc, od, .func (PySem.W.fnOf x x (defArgs st) (defBody st) (defScope st) .none kV doc pm an cdv ct), osl⟩) (c : PySem.W.codeIn K cdv x = true) (k : PySem.W.keepIn K (.ref f) = true) : DefAt K mg x st :=
  ⟨f, _, fun_mk l c k, PySem.W.mg_of X G a⟩
/-- the law's own def, for the end -/
theorem defZ_law {P : Program} {w : World} {K : PySem.W.Frag} {mg : Str → Option Value} {k : Nat} {st : Stmt} {den : Den} {fa : Addr} (hfa : mg "law" = some (.ref fa)) (hb : BindZ "law" st ["script"])
    (D : ∀ base : Heap, DefZ P w K mg base k "law" st ["script"] den) (D0 : DefAt K mg "law" st) : ∃ fd : FuncData, (∀ (s : Shared) (u : Value), BindsTo s fd ⟨[u], []⟩ [("script", u)]) ∧ ∀ base : Heap, FnZ P w K mg base k fa fd ["script"] den := by
  obtain ⟨f, fd, F, g⟩ := D0.ex
  have e := hfa.symm.trans g
  cases e
  refine ⟨fd, fun s u => ?_, fun base => ?_⟩
  · obtain ⟨oc, od, kV, doc, pm, an, cdv, ct, osl, rfl, lk, hcd⟩ := F.ex
    exact .of_eq (hb kV doc pm an cdv ct [u] rfl)
  · obtain ⟨f', fd', F', g', Z⟩ := (D base).ex
    have e := g.symm.trans g'
    cases e
    obtain ⟨_, _, _, _, _, _, _, _, _, _, l1, _⟩ := F.ex
    obtain ⟨_, _, _, _, _, _, _, _, _, _, l2, _⟩ := F'.ex
    rw [l1] at l2
    cases l2
    exact Z
section
variable {X : Cx} {W : WX} {k : Nat} {ps : List Str} {den : Den} {x : Str} {st : Stmt} {p pos : Pos} {e : Expr} {es : List Expr} {ms mk : AM}
theorem se_callD {n : Nat} (D : DefZ X.prog X.w X.K X.mg X.base k x st ps den) (hb : BindZ x st ps) (hr : Room k X.A) (hG : X.A.guards = some []) (tk : Takes X W) (hg : Gl X x)
    (ha : SA X W (e :: es) ms) (hn : ps.length = n := by rfl) (hdb : (x == ("__debug__" : Str)) = false := by decide) (he : starEach (e :: es) X.env = (false, eval e X.env) :: starEach es X.env := by rfl)
    (hpl : (backTo pos (starEach es X.env)).any (·.1) = false := by rfl) : SE X W (.Call (.Name x p) (e :: es) [] pos) (mCall n den ms) := by
  obtain ⟨f, fd, F, g, Z⟩ := D.ex
  exact se_call Z hr hG tk hg g F.kp (F.binds hb) ha hn hdb he hpl
theorem se_callD0 (D : DefZ X.prog X.w X.K X.mg X.base k x st [] den) (hb : BindZ x st []) (hr : Room k X.A) (hG : X.A.guards = some []) (tk : Takes X W) (hg : Gl X x)
    (hdb : (x == ("__debug__" : Str)) = false := by decide) : SE X W (.Call (.Name x p) [] [] pos) (mCall 0 den mNil) := by
  obtain ⟨f, fd, F, g, Z⟩ := D.ex
  exact se_call0 Z hr hG tk hg g F.kp (F.binds hb) hdb
theorem se_callDK {np nk : Nat} {ks : List Str} {ix : List Nat} {kws : List Keyword} (D : DefZ X.prog X.w X.K X.mg X.base k x st ps den) (hb : KBindZ x st ps ks np nk ix) (hr : Room k X.A) (hG : X.A.guards = some []) (tk : Takes X W) (hg : Gl X x)
    (ha : SA X W (e :: es) ms) (hkw : SK X W kws mk)
    (hall : (backToKw pos (keywordEach kws X.env)).all (·.1.isSome) = true := by rfl) (hks : (backToKw pos (keywordEach kws X.env)).filterMap (·.1) = ks := by rfl)
    (hdb : (x == ("__debug__" : Str)) = false := by decide) (he : starEach (e :: es) X.env = (false, eval e X.env) :: starEach es X.env := by rfl)
    (hpl : ((backTo pos (starEach (e :: es) X.env)).any (·.1) || (backToKw pos (keywordEach kws X.env)).any (·.1.isNone)) = false := by rfl) : SE X W (.Call (.Name x p) (e :: es) kws pos) (mCallK np nk den ix ms mk) := by
  obtain ⟨f, fd, F, g, Z⟩ := D.ex
  exact se_callK Z hr hG tk hg g F.kp (kbz F hb) ha hkw hall hks hdb he hpl
theorem se_callDK0 {nk : Nat} {ks : List Str} {ix : List Nat} {kws : List Keyword} (D : DefZ X.prog X.w X.K X.mg X.base k x st ps den) (hb : KBindZ x st ps ks 0 nk ix) (hr : Room k X.A) (hG : X.A.guards = some []) (tk : Takes X W) (hg : Gl X x)
    (hkw : SK X W kws mk)
    (hall : (backToKw pos (keywordEach kws X.env)).all (·.1.isSome) = true := by rfl) (hks : (backToKw pos (keywordEach kws X.env)).filterMap (·.1) = ks := by rfl)
    (hdb : (x == ("__debug__" : Str)) = false := by decide)
    (hpl : ((backTo pos (starEach [] X.env)).any (·.1) || (backToKw pos (keywordEach kws X.env)).any (·.1.isNone)) = false := by rfl) : SE X W (.Call (.Name x p) [] kws pos) (mCallK 0 nk den ix mNil mk) := by
  obtain ⟨f, fd, F, g, Z⟩ := D.ex
  exact se_callK0 Z hr hG tk hg g F.kp (kbz F hb) hkw hall hks hdb hpl
/-! ### what is walked, in short -/
theorem si_seqE {tg e : Expr} {m : EM} (h : SE X W e m) : SI X W tg e (mIt m) := si_seq h (pi_list h.pe) (pi_tup h.pe)
theorem si_enumE {ts : List Expr} {kk : Nat} {tpos : Pos} (hg : Gl X "enumerate") (hm : X.mg "enumerate" = none) (ha : SA X W [e] ms) (hs : starEach [e] X.env = [(false, eval e X.env)] := by rfl) : SI X W (.Tuple ts kk tpos) (.Call (.Name "enumerate" p) [e] [] pos) (mEnum ms) :=
  si_enum ha (pi_enum hg hm ha.pa hs) (pi_enumT hg hm ha.pa hs)
theorem si_range1E {tg : Expr} (hg : Gl X "range") (hm : X.mg "range" = none) (ha : SA X W [e] ms) (hs : starEach [e] X.env = [(false, eval e X.env)] := by rfl) : SI X W tg (.Call (.Name "range" p) [e] [] pos) (mRange1 ms) :=
  si_range1 (pi_range1 hg hm ha.pa hs)
theorem si_range2E {tg a b : Expr} (hg : Gl X "range") (hm : X.mg "range" = none) (ha : SA X W [a, b] ms) (hs : starEach [a, b] X.env = [(false, eval a X.env), (false, eval b X.env)] := by rfl) (hs2 : starEach [b] X.env = [(false, eval b X.env)] := by rfl) : SI X W tg (.Call (.Name "range" p) [a, b] [] pos) (mRange2 ms) :=
  si_range2 (pi_range2 hg hm ha.pa hs hs2)
end
end Zm
namespace Zm
open PySem PySem.Spec PyProof.Rows L2
variable {X : Cx} {W : WX}
/-! ### a range, laid out as a list -/
def ranD (lo hi : Int) : List PyData := (List.range (hi - lo).toNat).map fun i => .int (lo + (i : Nat))
def okR (i : Int) : Bool := decide (0 ≤ i) && decide (i ≤ 16777216)
theorem okR_rg {a b : Int} (h1 : okR a = true) (h2 : okR b = true) : RgOk a b := by
  unfold okR at h1 h2
  rw [Bool.and_eq_true, decide_eq_true_eq, decide_eq_true_eq] at h1 h2
  exact .of_le h1.1 h2.2 h1.2 h2.1
theorem rvs_rgV {K : PySem.W.Frag} {F : Addr → Prop} {H : Hp} (a b : Int) : RVs K F H (rgV a b) (ranD a b) := by
  unfold rgV ranD
  induction List.range (b - a).toNat with
  | nil => exact .nil
  | cons n ns ih => exact .cons (.int _) ih
theorem rws_rgV {K : PySem.W.Frag} {G : Gh} {H : Hp} (a b : Int) : RWs K G H (rgV a b) ((ranD a b).map .d) := RVs.rws (rvs_rgV a b)
def mLR1 (m : EM) : EM := fun s M => (m s M).bind fun v M1 => match v with
  | .d (.int j) => if okR j then .ok (.d (.list (ranD 0 j))) M1 else .bad
  | _ => .bad
def mLR1N (m : EM) : EM := fun s M => (m s M).bind fun v M1 => match v with
  | .d (.int j) => if okR j then .ok (.obj M1.length) (M1 ++ [.lst ((ranD 0 j).map .d)]) else .bad
  | _ => .bad
theorem se_lr1 {a : Expr} {m : EM} {p p2 pos pos2 : Pos} (hc : X.calm = true) (hgl : Gl X "list") (hml : X.mg "list" = none) (hg : Gl X "range") (hm : X.mg "range" = none) (ha : SE X W a m)
    (na : starEach [a] X.env = (false, eval a X.env) :: starEach [] X.env := by rfl)
    (nb : starEach [.Call (.Name "range" p2) [a] [] pos2] X.env = (false, eval (.Call (.Name "range" p2) [a] [] pos2) X.env) :: starEach [] X.env := by rfl) : SE X W (.Call (.Name "list" p) [.Call (.Name "range" p2) [a] [] pos2] [] pos) (mLR1 m) := by
  refine ⟨peImp (pe_listRg hc hgl hml (prg_1 hg hm ha.pe na) nb) fun σ H Q ⟨G, s, M, S, N, p⟩ => ⟨G, s, M, S, N, Post.bind p fun v M1 G1 H1 x e1 S1 r1 p1 => ?_⟩⟩
  split at p1
  · rename_i j
    have r1 : RV X.K G1.F H1 x (.int j) := r1
    cases r1
    split at p1
    · rename_i hj
      refine ⟨j, rfl, okR_rg (by decide) hj, fun q hq => ?_⟩
      obtain ⟨S2, e2⟩ := S1.layF (o := .lst (rgV 0 j)) hq
      exact p1 _ _ _ e2 S2 (RV.lst (.inl rfl) upd_same (rvs_rgV 0 j))
    · exact p1.elim
  · exact p1.elim
theorem se_lr1N {a : Expr} {m : EM} {p p2 pos pos2 : Pos} (hc : X.calm = true) (hgl : Gl X "list") (hml : X.mg "list" = none) (hg : Gl X "range") (hm : X.mg "range" = none) (ha : SE X W a m)
    (na : starEach [a] X.env = (false, eval a X.env) :: starEach [] X.env := by rfl)
    (nb : starEach [.Call (.Name "range" p2) [a] [] pos2] X.env = (false, eval (.Call (.Name "range" p2) [a] [] pos2) X.env) :: starEach [] X.env := by rfl) : SE X W (.Call (.Name "list" p) [.Call (.Name "range" p2) [a] [] pos2] [] pos) (mLR1N m) := by
  refine ⟨peImp (pe_listRg hc hgl hml (prg_1 hg hm ha.pe na) nb) fun σ H Q ⟨G, s, M, S, N, p⟩ => ⟨G, s, M, S, N, Post.bind p fun v M1 G1 H1 x e1 S1 r1 p1 => ?_⟩⟩
  split at p1
  · rename_i j
    have r1 : RV X.K G1.F H1 x (.int j) := r1
    cases r1
    split at p1
    · rename_i hj
      refine ⟨j, rfl, okR_rg (by decide) hj, fun q hq => ?_⟩
      obtain ⟨S2, e2, r3⟩ := S1.pushL hq (rws_rgV 0 j)
      exact p1 _ _ _ e2 S2 r3
    · exact p1.elim
  · exact p1.elim
def rg2 (vs : List Val) : Option (List PyData) := match vs with
  | [.d (.int i), .d (.int j)] => if okR i && okR j then some (ranD i j) else none
  | _ => none
/-! ### a tuple times a number -/
theorem tuple_mul1 (l : Addr) (items : Array Value) (n : Nat) (dd : Option Addr) (sl : Array (Option Value)) (x : Int) (u : Tok) (c0 : (decide (x < -(2 ^ 63)) || decide (x ≥ 2 ^ 63)) = false) (c1 : (items.isEmpty || x == 1) = true) :
    Meets (Builtin.«tuple.__mul__» ⟨[.ref l, .int x u], []⟩) (fun _ R s => s.heap.get? l = some { cls := .type "tuple", dict := dd, data := .seq items n, slots := sl } ∧ R (.ok (.ret (Value.ref l))) s) :=
  .of_wp fun prog w A R s h => by
    obtain ⟨hp, g, d, tk, os⟩ := s
    obtain ⟨hl, h⟩ := h
    have f1 := AutoSeq1.idx_int
    wp_walk using wpAny_loadPart' hl
    repeat (first
      | (refine wpAny_ite_false (decide_eq_false (by rw [c0]; exact Bool.false_ne_true)) ?_; wp_walk using wpAny_loadPart' hl)
      | (refine wpAny_ite_true (decide_eq_true (by rw [c1])) ?_; wp_walk using wpAny_loadPart' hl))
    exact ⟨_, rfl, h⟩
def rRepT1 (K : PySem.W.Frag) : R2 := fun x y H Q => ∃ l k xs, x = .ref l ∧ y = .int k ∧ SqT K H l xs ∧ (xs = [] ∨ k = 1) ∧ k.natAbs ≤ 1000 ∧ Q x H
theorem op_repT1 : OpR X (binaryOp .Mult) (rRepT1 X.K) := by
  intro pins s σ H x y v u Q I rx ry h
  obtain ⟨l, k, xs, rfl, rfl, hT, hk, hz, q⟩ := h
  cases rx
  obtain ⟨t, rfl⟩ := ry
  obtain ⟨its, r, ⟨⟨cls, dd, data, sl⟩, ho, hc, n, hd⟩, hs⟩ := I.tuple hT
  simp only at hc hd
  subst hc hd
  have hle : its.length = xs.length := r.length.symm
  have c0 : (decide (k < -(2 ^ 63)) || decide (k ≥ 2 ^ 63)) = false := by
    rw [decide_eq_false (by omega), decide_eq_false (by omega)] <;> rfl
  have c1 : (its.toArray.isEmpty || k == 1) = true := by
    rcases hk with rfl | rfl
    · have : its = [] := List.eq_nil_of_length_eq_zero hle
      subst this
      rfl
    · rw [Bool.or_eq_true]
      exact .inr rfl
  refine wpAny_binaryOp_repeat_ref (T := "tuple") (U := "int") (by decide) ⟨_, ho, rfl⟩ (fun s' => typeIs_int s' k t) noFill_tuple_mul F.fills_int_mul F.slot_int_rmul repeat_tuple F.slot_int_index.lookup
    (call_meets F.slot_int_rmul (typeIs_int s k t) F.entry_int_rmul (F.args_int_rmul_2 _ _) (int_rmul_tuple k t l its.toArray n dd sl)
      ⟨ho, rfl, ⟨_, ho, rfl⟩, call_meets F.slot_tuple_mul ⟨_, ho, rfl⟩ F.entry_tuple_mul (F.args_tuple_mul_2 _ _) (tuple_mul1 l its.toArray n dd sl k t c0 c1) ⟨ho, ?_⟩⟩)
  exact ⟨.ref l, _, I, rfl, q⟩
theorem tuple_mul0 (l : Addr) (items : Array Value) (n : Nat) (dd : Option Addr) (sl : Array (Option Value)) (x : Int) (u : Tok) (c0 : (decide (x < -(2 ^ 63)) || decide (x ≥ 2 ^ 63)) = false) (c1 : (items.isEmpty || x == 1) = false) (c2 : (decide (x ≤ 0) || items.isEmpty) = true) :
    Meets (Builtin.«tuple.__mul__» ⟨[.ref l, .int x u], []⟩) (fun _ R s => s.heap.get? l = some { cls := .type "tuple", dict := dd, data := .seq items n, slots := sl } ∧
      R (.ok (.ret (Value.ref s.heap.objs.size))) { s with heap := s.heap.push { cls := Value.type "tuple", data := Data.seq #[] }, toks := s.toks }) :=
  .of_wp fun prog w A R s h => by
    obtain ⟨hp, g, d, tk, os⟩ := s
    obtain ⟨hl, h⟩ := h
    have f1 := AutoSeq1.idx_int
    wp_walk using wpAny_loadPart' hl
    repeat (first
      | (refine wpAny_ite_false (decide_eq_false (by rw [c0]; exact Bool.false_ne_true)) ?_; wp_walk using wpAny_loadPart' hl)
      | (refine wpAny_ite_false (decide_eq_false (by rw [c1]; exact Bool.false_ne_true)) ?_; wp_walk using wpAny_loadPart' hl)
      | (refine wpAny_ite_true (decide_eq_true (by rw [c2])) ?_; wp_walk using wpAny_loadPart' hl))
    exact ⟨_, rfl, h⟩
def rRepT0 (K : PySem.W.Frag) : R2 := fun x y H Q => ∃ l k xs, x = .ref l ∧ y = .int k ∧ SqT K H l xs ∧ xs ≠ [] ∧ k ≤ 0 ∧ -1000 ≤ k ∧ ∀ p, H p = none → Q (.ref p) (upd H p (.tup []))
theorem op_repT0 : OpR X (binaryOp .Mult) (rRepT0 X.K) := by
  intro pins s σ H x y v u Q I rx ry h
  obtain ⟨l, k, xs, rfl, rfl, hT, hne, h1, h2, q⟩ := h
  cases rx
  obtain ⟨t, rfl⟩ := ry
  obtain ⟨its, r, ⟨⟨cls, dd, data, sl⟩, ho, hc, n, hd⟩, hs⟩ := I.tuple hT
  simp only at hc hd
  subst hc hd
  have hle : its.length = xs.length := r.length.symm
  have hi : its.toArray.isEmpty = false := by
    cases its with
    | nil => exact absurd (List.eq_nil_of_length_eq_zero hle.symm) hne
    | cons a b => rfl
  have c0 : (decide (k < -(2 ^ 63)) || decide (k ≥ 2 ^ 63)) = false := by
    rw [decide_eq_false (by omega), decide_eq_false (by omega)] <;> rfl
  have c1 : (its.toArray.isEmpty || k == 1) = false := by
    rw [hi, Bool.false_or]
    exact beq_eq_false_iff_ne.mpr (by omega)
  have c2 : (decide (k ≤ 0) || its.toArray.isEmpty) = true := by
    rw [decide_eq_true h1]
    rfl
  refine wpAny_binaryOp_repeat_ref (T := "tuple") (U := "int") (by decide) ⟨_, ho, rfl⟩ (fun s' => typeIs_int s' k t) noFill_tuple_mul F.fills_int_mul F.slot_int_rmul repeat_tuple F.slot_int_index.lookup
    (call_meets F.slot_int_rmul (typeIs_int s k t) F.entry_int_rmul (F.args_int_rmul_2 _ _) (int_rmul_tuple k t l its.toArray n dd sl)
      ⟨ho, rfl, ⟨_, ho, rfl⟩, call_meets F.slot_tuple_mul ⟨_, ho, rfl⟩ F.entry_tuple_mul (F.args_tuple_mul_2 _ _) (tuple_mul0 l its.toArray n dd sl k t c0 c1 c2) ⟨ho, ?_⟩⟩)
  refine ⟨.ref s.heap.objs.size, _, I.laid (t' := s.toks) (o := .tup []) (fun b ob q => Heap.get?_push_of_some _ q) (Nat.le_refl _) ?_, rfl, q _ (I.hok.fresh (Nat.le_refl _))⟩
  exact ⟨Nat.zero_le _, [], .nil, IsTup.new _ _⟩
/-- a product of ints, or so many times a tuple or a list -/
def vMulX (v w : Val) (M : Mm) : Out Val := match v, w with
  | .d (.int a), .d (.int b) => if smallI a || smallI b then .ok (.d (.int (a * b))) M else .bad
  | .d (.tuple ds), .d (.int k) => if ds.isEmpty || decide (k = 1) then (if k.natAbs ≤ 1000 then .ok (.d (.tuple ds)) M else .bad)
    else if 2 ≤ k ∧ k ≤ 1000 ∧ ds.length ≤ 1000 then .ok (.d (.tuple (List.replicate k.toNat ds).flatten)) M else if k ≤ 0 ∧ -1000 ≤ k then .ok (.d (.tuple [])) M else .bad
  | v, .d (.int k) => match trackD v M with
    | some ds => if k.natAbs ≤ 1000000000 ∧ ds.length * k.toNat ≤ 16777216 then .ok (.d (.list (List.replicate k.toNat ds).flatten)) M else .bad
    | none => .bad
  | _, _ => .bad
theorem RVs.rep {K : PySem.W.Frag} {F : Addr → Prop} {H : Hp} {xs : List V} {ds : List PyData} (h : RVs K F H xs ds) : ∀ n : Nat, RVs K F H (List.replicate n xs).flatten (List.replicate n ds).flatten
  | 0 => .nil
  | n + 1 => by
    rw [List.replicate_succ, List.replicate_succ, List.flatten_cons, List.flatten_cons]
    exact RVs.append h (RVs.rep h n)
theorem oz_mulx : OpZ X (fun x y H Q => (rI CMul fun i j => .int (i * j)) x y H Q ∨ rRepT1 X.K x y H Q ∨ rRepT X.K x y H Q ∨ rRep x y H Q ∨ rRepT0 X.K x y H Q) vMulX := by
  intro W G M σ H Q x y v w S r1 r2 p
  unfold vMulX at p
  split at p
  · rename_i a b
    have r1 : RV X.K G.F H x (.int a) := r1
    have r2 : RV X.K G.F H y (.int b) := r2
    cases r1; cases r2
    split at p
    · rename_i hc
      rw [Bool.or_eq_true] at hc
      exact .inl ⟨a, b, rfl, rfl, hc.imp smallI_ok smallI_ok, p G H _ .refl S (RV.int _)⟩
    · exact p.elim
  · rename_i ds k
    have q1 := r1
    have r1 : RV X.K G.F H x (.tuple ds) := r1
    have r2 : RV X.K G.F H y (.int k) := r2
    cases r2
    cases r1 with
    | @tup pa xs _ h1 h2 =>
      split at p
      · rename_i hc
        split at p
        · rename_i hz
          refine .inr (.inl ⟨pa, k, xs, rfl, rfl, SqT.of h1, ?_, hz, p G H _ .refl S q1⟩)
          rw [Bool.or_eq_true, decide_eq_true_eq] at hc
          refine hc.imp (fun e => ?_) id
          cases ds with
          | nil => cases h2; rfl
          | cons _ _ => cases e
        · exact p.elim
      · rename_i hc
        split at p
        · rename_i hz
          refine .inr (.inr (.inl ⟨pa, k, xs, rfl, rfl, SqT.of h1, fun e => ?_, hz.1, hz.2.1, by rw [h2.len]; exact hz.2.2, fun q hq => ?_⟩))
          · subst e
            cases h2
            exact hc rfl
          · obtain ⟨S2, e2⟩ := S.lay (o := .tup (List.replicate k.toNat xs).flatten) hq
            exact p _ _ _ e2 S2 (RV.tup upd_same (RVs.rep (RVs.ext e2 _ _ h2) _))
        · split at p
          · rename_i hz
            refine .inr (.inr (.inr (.inr ⟨pa, k, xs, rfl, rfl, SqT.of h1, fun e => ?_, hz.1, hz.2, fun q hq => ?_⟩)))
            · subst e
              cases h2
              exact hc rfl
            · obtain ⟨S2, e2⟩ := S.lay (o := .tup []) hq
              exact p _ _ _ e2 S2 (RV.tup upd_same .nil)
          · exact p.elim
  · rename_i k n1 n2
    split at p
    · rename_i ds hd
      split at p
      · rename_i hz
        obtain ⟨pa, xs, rfl, h1, h2⟩ := trackD_ok S r1 hd
        have r2 : RV X.K G.F H y (.int k) := r2
        cases r2
        refine .inr (.inr (.inr (.inl ⟨pa, k, xs, rfl, rfl, h1, by omega, by omega, by rw [h2.len]; exact hz.2, fun q hq => ?_⟩)))
        obtain ⟨S2, e2⟩ := S.layF (o := .lst (List.replicate k.toNat xs).flatten) hq
        exact p _ _ _ e2 S2 (RV.lst (.inl rfl) upd_same (RVs.rep (RVs.ext e2 _ _ h2) _))
      · exact p.elim
    · exact p.elim
  · exact p.elim
theorem se_mulx {a b : Expr} {ma mb : EM} {pos : Pos} (ha : SE X W a ma) (hb : SE X W b mb) : SE X W (.BinOp a .Mult b pos) (mOp vMulX ma mb) :=
  se_op (OpR.or op_mul (OpR.or op_repT1 (OpR.or op_repT (OpR.or op_rep op_repT0)))) oz_mulx ha hb
end Zm
namespace Zt
open PySem PySem.Spec PyProof.Rows L2 SrtO Srt
variable {prog : Program} {w : World} {A : Around} {s : Shared} {E : Value → Shared → Prop}
/-- a tuple of one word and two numbers -/
def IsTri (h : Heap) (z : Str) (v : Value) (x y : Int) : Prop := ∃ a o r t u n, v = .ref a ∧ h.get? a = some o ∧ o.cls = .type "tuple" ∧ o.data = .seq #[.str z r, .int x t, .int y u] n
theorem IsTri.keeps {h h' : Heap} {z : Str} {v : Value} {x y : Int} (p : IsTri h z v x y) (k : ∀ b o, h.get? b = some o → o.cls = .type "tuple" → h'.get? b = some o) : IsTri h' z v x y := by
  obtain ⟨a, o, r, t, u, n, e, ho, hc, hd⟩ := p
  exact ⟨a, o, r, t, u, n, e, k _ _ ho hc, hc, hd⟩
theorem tri_firsts {h : Heap} {z : Str} : ∀ {its : List Value}, (∀ v ∈ its, ∃ x y, IsTri h z v x y) → ∃ heads : List Value, PySem.W.KatTups h its heads ∧ heads.length = its.length ∧ ∀ f ∈ heads, ∃ t, f = Value.str z t
  | [], _ => ⟨[], PySem.W.KatTups.nil, rfl, fun _ mp => by simp at mp⟩
  | v :: its, trs => by
    obtain ⟨heads, g1, g2, g3⟩ := tri_firsts (its := its) fun v' mp => trs v' (List.mem_cons_of_mem _ mp)
    obtain ⟨x, y, a, o, r, t, u, n, e, go1, gc, gd⟩ := trs v (List.mem_cons_self ..)
    subst e
    refine ⟨.str z r :: heads, PySem.W.KatTups.cons go1 gc gd rfl g1, by rw [List.length_cons, List.length_cons, g2], fun f mp => ?_⟩
    rcases List.mem_cons.mp mp with rfl | mp
    · exact ⟨_, rfl⟩
    · exact g3 f mp
theorem tri_cmp {z : Str} {its : List Value} {k : Value → Int × Int} (trs : ∀ v ∈ its, IsTri s.heap z v (k v).1 (k v).2) : Cmp prog w A s (tuples' true) (fun p => p.1 ∈ its) (lt2 fun v u => lexB (k v) (k u)) := by
  intro p q mp mq
  have g1 := trs _ mp
  have g2 := trs _ mq
  show wpAny (model prog w) A (keyLt' (tuples' true) p.1 q.1) (fun r s' => s' = s ∧ r = lexB (k p.1) (k q.1)) (fun _ _ => False) s
  unfold lexB
  generalize (k p.1).1 = x at g1 ⊢
  generalize (k p.1).2 = y at g1 ⊢
  generalize (k q.1).1 = x' at g2 ⊢
  generalize (k q.1).2 = y' at g2 ⊢
  obtain ⟨a, o, r0, t, u, n, e, go1, gc, gd⟩ := g1
  obtain ⟨a', o', r1, t', u', n', e', go2, gc2, gd2⟩ := g2
  rw [e, e']
  refine PySem.W.kat_lt go1 gd go2 gd2 ?_
  show PySem.W.KatLex prog w A true (decide (3 < 3)) _ [(.str z r0, .str z r1), (.int x t, .int x' t'), (.int y u, .int y' u')] 0 s
  refine PySem.W.kat_cons (SeqAt.EqAt.str_str z r0 z r1 prog w _ _ ?_)
  refine PySem.W.kat_go (fun _ => ?_) (fun e0 => absurd e0 (by simp))
  refine PySem.W.kat_yes (PySem.W.kat_cons (SeqAt.EqAt.int_int x t x' t' prog w _ _ ?_))
  refine PySem.W.kat_go (fun c1 => ?_) (fun c1 => ?_)
  · have same1 : x = x' := by simpa using c1
    refine PySem.W.kat_yes (PySem.W.kat_cons (SeqAt.EqAt.int_int y u y' u' prog w _ _ ?_))
    refine PySem.W.kat_go (fun c2 => ?_) (fun c2 => ?_)
    · have same2 : y = y' := by simpa using c2
      have both : (if x = x' then decide (y < y') else decide (x < x')) = false := by
        rw [if_pos same1, same2]
        exact decide_eq_false (Int.lt_irrefl _)
      exact PySem.W.kat_yes (PySem.W.kat_nil ⟨rfl, both.symm⟩)
    · have both : (if x = x' then decide (y < y') else decide (x < x')) = decide (y < y') := if_pos same1
      refine PySem.W.kat_no (PySem.W.kat_one _ _ (PyProof.Rows.lt_int ?_))
      exact (show s = s ∧ decide (y < y') = (if x = x' then decide (y < y') else decide (x < x')) from ⟨rfl, both.symm⟩)
  · have same1 : ¬ x = x' := by simpa using c1
    have both : (if x = x' then decide (y < y') else decide (x < x')) = decide (x < x') := if_neg same1
    refine PySem.W.kat_no (PySem.W.kat_one _ _ (PyProof.Rows.lt_int ?_))
    exact (show s = s ∧ decide (x < x') = (if x = x' then decide (y < y') else decide (x < x')) from ⟨rfl, both.symm⟩)
theorem tris_sortable {z : Str} {a : Addr} {its : List Value} {k : Value → Int × Int} (some1 : 0 < its.length) (trs : ∀ v ∈ its, IsTri s.heap z v (k v).1 (k v).2) (tops : ∀ o, s.heap.get? a = some o → o.cls ≠ .type "tuple") : SortableO prog w A s a its fun v u => lexB (k v) (k u) := by
  intro h' stay
  have held : ∀ v ∈ its, IsTri h' z v (k v).1 (k v).2 := fun v mp => (trs v mp).keeps fun b o e c => stay b o (fun z => by subst z; exact tops o e c) e
  obtain ⟨heads, g1, g2, g3⟩ := tri_firsts fun v mp => ⟨_, _, held v mp⟩
  refine ⟨tuples' true, fun Q E fin => ?_, tri_cmp held⟩
  refine PySem.W.kat_kind (T := .type "str") g1 (by omega) (fun f mp => ?_) (by rfl) ?_
  · obtain ⟨t, rfl⟩ := g3 f mp
    exact PySem.W.Looks.now
  · have e : (Value.type "str" != Value.type "tuple") = true := by first | decide +kernel | rfl | decide
    rw [e]
    exact fin
theorem sorted_tris {z : Str} {l : Addr} {its : List Value} {k : Value → Int × Int} {Q : Value → Shared → Prop} (lst : s.heap.IsList l its.toArray) (short : its.length ≤ sizeLine) (trs : ∀ v ∈ its, IsTri s.heap z v (k v).1 (k v).2)
    (h : ∀ (h' : Heap) (d : Addr) (res : List Value), Srtd (fun v u => lexB (k v) (k u)) res → Stb (fun v u => lexB (k v) (k u)) res its → (∀ b o, s.heap.get? b = some o → h'.get? b = some o) → s.heap.objs.size ≤ d → (∃ n, h'.get? d = some (seqObj "list" res.toArray n)) → Q (.ref d) { s with heap := h' }) :
    wpAny (model prog w) A (call (.builtin "sorted") [.ref l]) Q E s := by
  refine sorted_ord (swo_lex k) lst short (fun g2 hN a tops old => ?_) fun res srt stb => ?_
  · refine tris_sortable (z := z) (s := { s with heap := hN }) (by omega) (fun v mp => (trs v mp).keeps fun b o e _ => (old b o e).2) fun o e => ?_
    have e' : some o = some (seqObj "list" its.toArray 0) := e.symm.trans tops
    cases e'
    intro c
    exact absurd (Value.type.inj c) (by decide)
  · exact h _ _ res srt stb (fun b o e => sortedAll_old e) (Nat.le_succ _) (sortedAll_at s.heap its res.toArray)
end Zt
namespace Zm
open PySem PySem.Spec PyProof.Rows L2
/-- a tuple of one word and two numbers -/
def triD (z : Str) (p : Int × Int) : PyData := .tuple [.str z, .int p.1, .int p.2]
def toT (z : Str) : PyData → Option (Int × Int)
  | .tuple [.str y, .int a, .int b] => if y = z then some (a, b) else none
  | _ => none
theorem toT_ok {z : Str} {d : PyData} {p : Int × Int} (h : toT z d = some p) : d = triD z p := by
  unfold toT at h
  split at h
  · split at h
    · rename_i e; cases h; subst e; rfl
    · cases h
  · cases h
def allT (z : Str) : List PyData → Option (List (Int × Int))
  | [] => some []
  | d :: r => match toT z d, allT z r with
    | some p, some ps => some (p :: ps)
    | _, _ => none
theorem toT_at (z : Str) (p : Int × Int) : toT z (triD z p) = some p := by
  show (if z = z then some (p.1, p.2) else none) = _
  rw [if_pos rfl]
theorem allT_map (z : Str) : ∀ (ps : List (Int × Int)), allT z (ps.map (triD z)) = some ps
  | [] => rfl
  | p :: ps => by
    show (match toT z (triD z p), allT z (ps.map (triD z)) with | some p, some ps => some (p :: ps) | _, _ => none) = _
    rw [allT_map z ps, toT_at]
theorem allT_ok {z : Str} : ∀ {ds : List PyData} {ps : List (Int × Int)}, allT z ds = some ps → ds = ps.map (triD z)
  | [], _, h => by cases h; rfl
  | d :: r, ps, h => by
    unfold allT at h
    split at h
    · rename_i p qs e1 e2
      cases h
      rw [toT_ok e1, allT_ok e2]
      rfl
    · cases h
/-- the word ahead -/
def headW : List PyData → Option Str
  | .tuple (.str z :: _) :: _ => some z
  | _ => none
def kT (H : Hp) (v : V) : Int × Int := match v with
  | .ref t => match H t with
    | some (.tup [_, .int a, .int b]) => (a, b)
    | _ => (0, 0)
  | _ => (0, 0)
theorem rvs_tris {K : PySem.W.Frag} {F : Addr → Prop} {H : Hp} {z : Str} : ∀ {ps : List (Int × Int)} {xs : List V}, RVs K F H xs (ps.map (triD z)) → xs.map (kT H) = ps ∧ ∀ x ∈ xs, ∃ t, x = V.ref t ∧ H t = some (.tup [.str z, .int (kT H x).1, .int (kT H x).2])
  | [], _, h => by cases h; exact ⟨rfl, fun _ h => by cases h⟩
  | (a, b) :: ps, _, h => by
    cases h with
    | @cons v vs _ _ h1 h2 =>
      obtain ⟨e1, e2⟩ := rvs_tris h2
      have h1 : RV K F H v (.tuple [.str z, .int a, .int b]) := h1
      cases h1 with
      | @tup t ys _ g1 g2 =>
        cases g2 with
        | cons g2 g3 =>
          cases g3 with
          | cons g3 g4 =>
            cases g4 with
            | cons g4 g5 =>
              cases g5; cases g2; cases g3; cases g4
              have ek : kT H (.ref t) = (a, b) := by simp [kT, g1]
              refine ⟨by rw [List.map_cons, e1, ek], fun x hx => ?_⟩
              rcases List.mem_cons.mp hx with rfl | hx
              · exact ⟨t, rfl, by rw [ek]; exact g1⟩
              · exact e2 x hx
theorem rvs_of_kT {K : PySem.W.Frag} {F : Addr → Prop} {H : Hp} {z : Str} : ∀ {xs : List V}, (∀ x ∈ xs, ∃ t, x = V.ref t ∧ H t = some (.tup [.str z, .int (kT H x).1, .int (kT H x).2])) → RVs K F H xs ((xs.map (kT H)).map (triD z))
  | [], _ => .nil
  | x :: xs, h => by
    obtain ⟨t, e, ht⟩ := h x List.mem_cons_self
    subst e
    exact .cons (.tup ht (.cons (.str _) (.cons (.int _) (.cons (.int _) .nil)))) (rvs_of_kT fun y hy => h y (List.mem_cons_of_mem _ hy))
def rSortT (K : PySem.W.Frag) : List V → Hp → VK → Prop := fun vs H Q => ∃ (a : Addr) (xs : List V) (z : Str) (k : V → Int × Int), vs = [V.ref a] ∧ SqL K H a xs ∧ (∀ x ∈ xs, ∃ t, x = V.ref t ∧ H t = some (.tup [.str z, .int (k x).1, .int (k x).2])) ∧
  ∀ ys p, SrtO.Srtd (ltP k) ys → SrtO.Stb (ltP k) ys xs → H p = none → Q (.ref p) (upd H p (.lst ys))
section
variable {X : Cx}
theorem vals3 {x y z : V} {us : List Value} (r : Vals [x, y, z] us) : ∃ u v w, us = [u, v, w] ∧ RelV x u ∧ RelV y v ∧ RelV z w := by
  cases r with
  | cons a r => cases r with
    | cons b r => cases r with
      | cons c r => cases r; exact ⟨_, _, _, rfl, a, b, c⟩
theorem cr_sortT3 : CallR X (.builtin "sorted") (rSortT X.K) := by
  intro pins s σ H vs us Q I r h
  obtain ⟨a, xs, z, k, rfl, hs, hx, q⟩ := h
  obtain ⟨ivs, rv, isl, big⟩ := I.list hs
  obtain ⟨u, rfl, ru⟩ := vals1 r
  obtain rfl : u = Value.ref a := ru
  obtain ⟨b1, b2⟩ := refs_back rv fun x m => by
    obtain ⟨t, e, _⟩ := hx x m
    exact ⟨t, e⟩
  refine Zt.sorted_tris (z := z) (k := fun u => k (backV u)) isl.isList (by rw [← rv.length]; exact big) (fun v hv => ?_) fun h' d res h1 h2 kp hd hn => ?_
  · obtain ⟨t, rfl⟩ := b2 v hv
    have hm : V.ref t ∈ xs := by rw [b1]; exact List.mem_map.mpr ⟨_, hv, rfl⟩
    obtain ⟨t', e, ht⟩ := hx _ hm
    cases e
    obtain ⟨_, jts, r2, o, ho, hc, n, hd⟩ := I.hok _ _ ht
    obtain ⟨u0, u1, u2, rfl, rz, ri, rj⟩ := vals3 r2
    obtain ⟨t0, rfl⟩ := rz
    obtain ⟨t1, rfl⟩ := ri
    obtain ⟨t2, rfl⟩ := rj
    exact ⟨t, o, t0, t1, t2, n, rfl, ho, hc, hd⟩
  · have back : ∀ u ∈ res, ∃ a, u = Value.ref a := fun u hu => b2 u (h2.perm.mem_iff.mp hu)
    obtain ⟨n, hn⟩ := hn
    have stb : SrtO.Stb (ltP k) (res.map backV) xs := by
      rw [b1]
      exact SrtO.Stb.map (ltP_swo k) backV h2
    refine ⟨.ref d, upd H d (.lst (res.map backV)), I.laid (t' := s.toks) kp hd ⟨?_, res, n, vals_back back, hn⟩, rfl, q _ d (SrtO.srtd_map h1) stb (I.hok.fresh hd)⟩
    rw [stb.len]
    exact big
/-- sorted of ints, of pairs, of words with two numbers -/
def vSortX (vs : List Val) (M : Mm) : Out Val := match vs with
  | [v] => match listD v M with
    | some ds => match sortD ds with
      | some es => .ok (.d (.list es)) M
      | none => match headW ds with
        | some z => match allT z ds with
          | some ps => .ok (.d (.list ((sortP ps).map (triD z)))) M
          | none => .bad
        | none => .bad
    | none => .bad
  | _ => .bad
theorem cz_sortX : CallZ X (fun xs H Q => (rSortedI X.K xs H Q ∨ rSortedPO X.K xs H Q) ∨ rSortT X.K xs H Q) vSortX := by
  intro W G M σ H Q xs vs S r p
  unfold vSortX at p
  split at p
  · rename_i v
    split at p
    · rename_i ds hd
      split at p
      · rename_i es he
        refine .inl (cz_sorted W G M σ H Q xs [v] S r ?_)
        have e : vSorted [v] M = .ok (.d (.list es)) M := by
          show (match listD v M with
            | some ds => match sortD ds with
              | some es => Out.ok (Val.d (.list es)) M
              | none => .bad
            | none => .bad) = _
          rw [hd]
          show (match sortD ds with
              | some es => Out.ok (Val.d (.list es)) M
              | none => .bad) = _
          rw [he]
        rw [e]
        exact p
      · split at p
        · rename_i z hz
          split at p
          · rename_i ps hp
            cases r with
            | cons r1 r2 =>
              cases r2
              obtain ⟨a, ys, rfl, h, hr⟩ := listD_ok S r1 hd
              have e := allT_ok hp
              subst e
              obtain ⟨e1, e2⟩ := rvs_tris hr
              refine .inr ⟨a, ys, z, kT H, rfl, h, e2, fun zs q hs hb hq => ?_⟩
              have hz : ∀ x ∈ zs, ∃ t, x = V.ref t ∧ H t = some (.tup [.str z, .int (kT H x).1, .int (kT H x).2]) := fun x hx => e2 x (hb.perm.mem_iff.mp hx)
              have e3 : zs.map (kT H) = sortP ps := by
                refine sortP_eq (by rw [← e1]; exact hb.perm.map _) ?_
                refine List.pairwise_map.mpr (List.Pairwise.imp (fun {x y} h => ?_) hs)
                have h : SrtO.lexB (kT H y) (kT H x) = false := h
                rw [leP_iff]
                have := SrtO.lexB_no.mp h
                omega
              obtain ⟨S2, e4⟩ := S.layF (o := .lst zs) hq
              refine p _ _ _ e4 S2 (RV.lst (.inl rfl) upd_same ?_)
              have := rvs_of_kT (K := X.K) (F := G.F) hz
              rw [e3] at this
              exact RVs.ext e4 _ _ this
          · exact p.elim
        · exact p.elim
    · exact p.elim
  · exact p.elim
end
end Zm
namespace Zm
open PySem PySem.Spec PyProof.Rows L2
variable {X : Cx} {W : WX}
/-! ### a star in a display -/
def mStar (a : EM) (r : AM) : AM := fun s M => (a s M).bind fun v M1 => match seqD v M1 with
  | some ds => (r s M1).bind fun ys M2 => .ok (ds.map .d ++ ys) M2
  | none => .bad
theorem sa_star {e : Expr} {es : List Expr} {p : Pos} {ma : EM} {mr : AM} (ha : SE X W e ma) (hr : SA X W es mr) (hs : starEach (.Starred e p :: es) X.env = (true, eval e X.env) :: starEach es X.env := by rfl) : SA X W (.Starred e p :: es) (mStar ma mr) := by
  refine ⟨paImp (StX.pa_star ha.pe hr.pa) fun σ H Q ⟨G, s, M, S, N, p⟩ => ?_⟩
  refine ⟨G, s, M, S, N, Post.bind p fun v M1 G1 H1 x e1 S1 r1 p1 => ?_⟩
  split at p1
  · rename_i ds hd
    obtain ⟨a, xs, rfl, h, hr⟩ := seqD_ok S1 r1 hd
    refine ⟨a, xs, rfl, ?_, ⟨G1, s, M1, S1, N.ext e1, Post.bind p1 fun ys M2 G2 H2 zs e2 S2 r2 p2 => ?_⟩⟩
    · exact h.symm.imp SqT.of id
    · exact p2 G2 H2 _ .refl S2 (Paired.app (RVs.rws (RVs.ext e2 _ _ hr)) r2)
  · exact p1.elim
/-! ### list(range(a, b)) -/
def mLR2 (a b : EM) : EM := fun s M => (a s M).bind fun v M1 => (b s M1).bind fun w M2 => match v, w with
  | .d (.int i), .d (.int j) => if decide (-1000 ≤ i) && decide (i ≤ 1000000) && decide (-1000 ≤ j) && decide (j ≤ 1000000) then .ok (.d (.list (ranD i j))) M2 else .bad
  | _, _ => .bad
theorem se_lr2 {a b : Expr} {m n : EM} {p p2 pos pos2 : Pos} (hc : X.calm = true) (hgl : Gl X "list") (hml : X.mg "list" = none) (hg : Gl X "range") (hm : X.mg "range" = none) (ha : SE X W a m) (hb : SE X W b n)
    (na : starEach [a, b] X.env = (false, eval a X.env) :: starEach [b] X.env := by rfl) (nb : starEach [b] X.env = (false, eval b X.env) :: starEach [] X.env := by rfl) (hp : (backTo pos2 (starEach [b] X.env)).any (·.1) = false := by rfl)
    (nc : starEach [.Call (.Name "range" p2) [a, b] [] pos2] X.env = (false, eval (.Call (.Name "range" p2) [a, b] [] pos2) X.env) :: starEach [] X.env := by rfl) : SE X W (.Call (.Name "list" p) [.Call (.Name "range" p2) [a, b] [] pos2] [] pos) (mLR2 m n) := by
  refine ⟨peImp (pe_listRg hc hgl hml (prg_2 hg hm ha.pe hb.pe na nb hp) nc) fun σ H Q ⟨G, s, M, S, N, p⟩ => ⟨G, s, M, S, N, Post.bind p fun v M1 G1 H1 x e1 S1 r1 p1 => ⟨G1, s, M1, S1, N.ext e1, Post.bind p1 fun w M2 G2 H2 y e2 S2 r2 p2 => ?_⟩⟩⟩
  have r3 := RW.ext e2 r1
  clear r1
  split at p2
  · rename_i i j
    have r1 : RV X.K G2.F H2 x (.int i) := r3
    have r2 : RV X.K G2.F H2 y (.int j) := r2
    cases r1; cases r2
    split at p2
    · rename_i hj
      rw [Bool.and_eq_true, Bool.and_eq_true, Bool.and_eq_true, decide_eq_true_eq, decide_eq_true_eq, decide_eq_true_eq, decide_eq_true_eq] at hj
      refine ⟨i, j, rfl, rfl, ⟨by omega, by omega, by omega, by omega, by omega⟩, fun q hq => ?_⟩
      obtain ⟨S3, e3⟩ := S2.layF (o := .lst (rgV i j)) hq
      exact p2 _ _ _ e3 S3 (RV.lst (.inl rfl) upd_same (rvs_rgV i j))
    · exact p2.elim
  · exact p2.elim
end Zm
namespace Zm
open PySem PySem.Spec PyProof.Rows L2
/-! ### what the denotations come to, step by step -/
section
variable {α β γ : Type} {s : Sl} {M : Mm}
theorem z_bok {v : α} {f : α → Mm → Out γ} : Out.bind (.ok v M) f = f v M := rfl
theorem z_bsok {v : α} {f : α → Mm → SO} : Out.bindS (.ok v M) s f = f v M := rfl
theorem z_bbad {f : α → Mm → Out γ} : Out.bind (.bad : Out α) f = .bad := rfl
theorem z_bsbad {f : α → Mm → SO} : Out.bindS (.bad : Out α) s f = .bad := rfl
theorem z_seqbad {b : SM} : SO.seq .bad b = .bad := rfl
theorem z_outbad : SO.out .bad = .bad := rfl
theorem z_asgbad {g : GM} : Out.asg .bad s g = .bad := rfl
theorem small_fmod {x m : Int} (h1 : 0 < m) (h2 : m ≤ 18446744073709551616) : smallI (x.fmod m) = true := by
  have a := Int.fmod_nonneg_of_pos x h1
  have b := Int.fmod_lt_of_pos x h1
  unfold smallI
  rw [decide_eq_true (by omega), decide_eq_true (by omega)]; rfl
theorem small_lit {i : Int} (h1 : -18446744073709551616 < i) (h2 : i < 18446744073709551616) : smallI i = true := by
  unfold smallI
  rw [decide_eq_true h1, decide_eq_true h2]; rfl
theorem fits_le {n : Nat} (h : n ≤ 16777216) : fitsL n = true := decide_eq_true h
theorem smallR_lit {i : Int} (h1 : -4611686018427387904 ≤ i) (h2 : i < 4611686018427387904) : smallR i = true := by
  unfold smallR
  rw [decide_eq_true h1, decide_eq_true h2]; rfl
theorem z_na64 : Int.natAbs 64 = 64 := rfl
theorem z_r1 {j : Int} (h1 : -4611686018427387904 ≤ j) (h2 : j < 4611686018427387904) : range1 [.d (.int j)] M = .ok (rangeL 0 j.toNat) M := by
  show (if smallR j then Out.ok (rangeL 0 j.toNat) M else .bad) = _
  rw [smallR_lit h1 h2]
  rfl
theorem z_r2 {i j : Int} (h3 : -4611686018427387904 ≤ i) (h4 : i < 4611686018427387904) (h1 : -4611686018427387904 ≤ j) (h2 : j < 4611686018427387904) : range2 [.d (.int i), .d (.int j)] M = .ok (rangeL i (j - i).toNat) M := by
  show (if smallR i && smallR j then Out.ok (rangeL i (j - i).toNat) M else .bad) = _
  rw [smallR_lit h1 h2, smallR_lit h3 h4]
  rfl
theorem z_bif {c : Prop} [Decidable c] {x y : Out α} {f : α → Mm → Out γ} : Out.bind (if c then x else y) f = if c then x.bind f else y.bind f := by split <;> rfl
theorem z_bsif {c : Prop} [Decidable c] {x y : Out α} {f : α → Mm → SO} : Out.bindS (if c then x else y) s f = if c then x.bindS s f else y.bindS s f := by split <;> rfl
theorem z_noer {v : α} : Out.noer (.ok v M) = .ok v M := rfl
theorem z_seqn {b : SM} : SO.seq (.nx s M) b = b s M := rfl
theorem z_seqr {b : SM} {v : Val} : SO.seq (.rt v M) b = .rt v M := rfl
theorem z_seqif {b : SM} {c : Prop} [Decidable c] {x y : SO} : SO.seq (if c then x else y) b = if c then x.seq b else y.seq b := by split <;> rfl
theorem z_outr {v : Val} : SO.out (.rt v M) = .ok v M := rfl
theorem z_outn : SO.out (.nx s M) = .ok (.d .none) M := rfl
theorem z_outif {c : Prop} [Decidable c] {x y : SO} : SO.out (if c then x else y) = if c then x.out else y.out := by split <;> rfl
theorem z_var {i : Nat} {v : Val} (h : s[i]? = some (some v)) : mVar i s M = .ok (rd v M) M := by unfold mVar; rw [h]
theorem z_C {x : PyData} : mC x s M = .ok (.d x) M := rfl
theorem z_op {f : Val → Val → Mm → Out Val} {a b : EM} : mOp f a b s M = (a s M).bind fun x M1 => (b s M1).bind fun y M2 => f x y M2 := rfl
theorem z_T {m : EM} : mT m s M = (m s M).bind fun v M1 => match v with
  | .d (.bool b) => .ok b M1
  | _ => .bad := rfl
theorem z_tand {a b : TM} : mTAnd a b s M = (a s M).bind fun c M1 => if c = true then b s M1 else .ok false M1 := rfl
theorem z_tor {a b : TM} : mTOr a b s M = (a s M).bind fun c M1 => if c = true then .ok true M1 else b s M1 := rfl
theorem z_tnot {a : TM} : mTNot a s M = (a s M).bind fun c M1 => .ok (!c) M1 := rfl
theorem z_and {a b : EM} : mAnd a b s M = (mT a s M).bind fun c M1 => if c = true then b s M1 else .ok (.d (.bool false)) M1 := rfl
theorem z_or {a b : EM} : mOr a b s M = (mT a s M).bind fun c M1 => if c = true then .ok (.d (.bool true)) M1 else b s M1 := rfl
theorem z_not {a : EM} : mNot a s M = (mT a s M).bind fun c M1 => .ok (.d (.bool (!c))) M1 := rfl
theorem z_if {c : TM} {a b : EM} : mIf c a b s M = (c s M).bind fun k M1 => if k = true then a s M1 else b s M1 := rfl
theorem z_nil : mNil s M = .ok [] M := rfl
theorem z_cons {a : EM} {r : AM} : mCons a r s M = (a s M).bind fun x M1 => (r s M1).bind fun xs M2 => .ok (x :: xs) M2 := rfl
theorem z_tup {a : AM} : mTup a s M = (a s M).bind fun vs M1 => match allD vs with
  | some ds => if fitsL ds.length then .ok (.d (.tuple ds)) M1 else .bad
  | none => .bad := rfl
theorem z_lst {a : AM} : mLst a s M = (a s M).bind fun vs M1 => match allD vs with
  | some ds => if fitsL ds.length then .ok (.d (.list ds)) M1 else .bad
  | none => .bad := rfl
theorem z_new {a : AM} : mNew a s M = (a s M).bind fun vs M1 => if fitsL vs.length then .ok (.obj M1.length) (M1 ++ [.lst vs]) else .bad := rfl
theorem z_allD0 : allD [] = some [] := rfl
theorem z_allD1 {x : PyData} {r : List Val} : allD (.d x :: r) = (allD r).map (x :: ·) := rfl
theorem z_allDm {ds : List PyData} : allD (ds.map .d) = some ds := by
  induction ds with
  | nil => rfl
  | cons d ds ih => rw [List.map_cons, z_allD1, ih]; rfl
theorem z_map {x : α} {f : α → β} : Option.map f (some x) = some (f x) := rfl
theorem z_sNil : sNil s M = .nx s M := rfl
theorem z_sSeq {a b : SM} : sSeq a b s M = (a s M).seq b := rfl
theorem z_sIf {c : TM} {a b : SM} : sIf c a b s M = (c s M).bindS s fun k M1 => if k = true then a s M1 else b s M1 := rfl
theorem z_sDrop {m : EM} : sDrop m s M = (m s M).bindS s fun _ M1 => .nx s M1 := rfl
theorem z_sRet {m : EM} : sRet m s M = (m s M).bindS s fun v M1 => .rt v M1 := rfl
theorem z_sAsg {m : EM} {g : GM} : sAsg m g s M = (m s M).asg s g := rfl
theorem z_asg {v : Val} {g : GM} : Out.asg (.ok v M) s g = match g v s M with
  | some (s', M') => .nx s' M'
  | none => .bad := rfl
theorem z_asgif {c : Prop} [Decidable c] {x y : Out Val} {g : GM} : Out.asg (if c then x else y) s g = if c then x.asg s g else y.asg s g := by split <;> rfl
theorem z_sPar {is : List Nat} {a : AM} : sPar is a s M = (a s M).bindS s fun vs M1 => if vs.length = is.length then .nx ((is.zip vs).foldl (fun s p => s.set p.1 (some p.2)) s) M1 else .bad := rfl
theorem z_gN {i : Nat} {v : Val} : gN i v s M = some (s.set i (some v), M) := rfl
theorem z_gT {n : Nat} {g : GMs} {ds : List PyData} : gT n g (.d (.tuple ds)) s M = if ds.length = n then g (ds.map .d) s M else none := rfl
theorem z_gsNil : gsNil [] s M = some (s, M) := rfl
theorem z_gsCons {g : GM} {r : GMs} {v : Val} {vs : List Val} : gsCons g r (v :: vs) s M = (g v s M).bind fun p => r vs p.1 p.2 := rfl
theorem z_obind {x : α} {f : α → Option β} : Option.bind (some x) f = f x := rfl
theorem z_gSet {mo mi : EM} {f : SetF} {v : Val} : gSet mo mi f v s M = match mo s M with
  | .ok o M1 => match mi s M1 with
    | .ok i M2 => (f o i v M2).map fun M3 => (s, M3)
    | _ => none
  | _ => none := rfl
theorem z_B {f : List Val → Mm → Out Val} {ms : AM} : mB f ms s M = (ms s M).bind f := rfl
theorem z_It {m : EM} : mIt m s M = (m s M).bind itK := rfl
theorem z_Enum {m : AM} : mEnum m s M = (m s M).bind enumK := rfl
theorem z_R1 {m : AM} : mRange1 m s M = (m s M).bind range1 := rfl
theorem z_R2 {m : AM} : mRange2 m s M = (m s M).bind range2 := rfl
theorem z_Comp {k : List Val → Mm → Out Val} {it : AM} {g : GM} {t : TM} {e : EM} {own : List Nat} : mComp k it g t e own s M = (it s M).bind fun vs M1 => (compL g t e (wipeS s own) vs M1).bind k := rfl
theorem z_For {it : AM} {g : GM} {b : SM} : sFor it g b s M = (it s M).bindS s fun vs M1 => forL g b vs s M1 := rfl
theorem z_Yes : mYes s M = .ok true M := rfl
theorem z_M {T : String} {f : MF} {o : EM} {ms : AM} : mM T f o ms s M = (o s M).bind fun v M1 => if tyOk T v M1 = true then (ms s M1).bind fun vs M2 => f v vs M2 else .bad := rfl
theorem z_Sl {m : EM} {l h : OM} : mSl m l h s M = (m s M).bind fun v M1 => (l s M1).bind fun lo M2 => (h s M2).bind fun hi M3 => vSl v lo hi M3 := rfl
theorem z_oN : oNone s M = .ok none M := rfl
theorem z_oS {m : EM} : oSome m s M = (m s M).bind fun v M1 => match v with
  | .d (.int i) => .ok (some i) M1
  | _ => .bad := rfl
theorem z_Rev {m : EM} : mRev m s M = (m s M).bind vRev := rfl
theorem z_Neg {m : EM} : mNeg m s M = (m s M).bind fun v M1 => match v with
  | .d (.int i) => .ok (.d (.int (-i))) M1
  | _ => .bad := rfl
theorem z_IsI {T : String} {m : EM} : mIsI T m s M = (m s M).bind fun v M1 => match tyNm v M1 with
  | some n => .ok (.d (.bool (isT n T))) M1
  | none => .bad := rfl
theorem z_call {n : Nat} {den : Den} {ms : AM} : mCall n den ms s M = (ms s M).bind fun vs M1 => if vs.length = n then den vs M1 else .bad := rfl
theorem z_callK {np nk : Nat} {den : Den} {ix : List Nat} {ms mk : AM} : mCallK np nk den ix ms mk s M = (ms s M).bind fun vs M1 => (mk s M1).bind fun us M2 => if vs.length = np ∧ us.length = nk then den (pickBy ix (vs ++ us)) M2 else .bad := rfl
theorem z_chain {f g : Val → Val → Mm → Out Val} {a b c : EM} : mChain f g a b c s M = (a s M).bind fun x M1 => (b s M1).bind fun y M2 => (f x y M2).bind fun z M3 => match z with
  | .d (.bool k) => if k = true then (c s M3).bind fun w M4 => g y w M4 else .ok (.d (.bool false)) M3
  | _ => .bad := rfl
theorem z_body {n : Nat} {b : SM} {vs : List Val} : body n b vs M = (b (slots0 n vs) M).out := rfl
theorem z_rdd {x : PyData} : rd (.d x) M = .d x := rfl
theorem z_rds {x : List Int} : rd (.scr x) M = .scr x := rfl
theorem cut_len {n : Nat} (h : M.length = n) : cut n M = M := by
  subst h
  unfold cut
  rw [List.take_length]
  exact ite_self _
/-- a result that is a datum, the store as long as before -/
theorem z_trim {den : Den} {vs : List Val} {x : PyData} {M' : Mm} (h : den vs M = .ok (.d x) M') (hl : M'.length = M.length) : trim den vs M = .ok (.d x) M' := by
  unfold trim
  rw [h]
  show Out.ok (Val.d x) (cut M.length M') = _
  rw [cut_len hl]
theorem z_trimo {den : Den} {vs : List Val} {i : Nat} {M' : Mm} (h : den vs M = .ok (.obj i) M') : trim den vs M = .ok (.obj i) M' := by
  unfold trim
  rw [h]
theorem cut_app {M1 R : Mm} {n : Nat} (h : M1.length = n) (hb : M1.all (MO.below n) = true) : cut n (M1 ++ R) = M1 := by
  subst h
  unfold cut
  rw [List.take_left, if_pos hb]
theorem z_trimc {den : Den} {vs : List Val} {x : PyData} {M1 R : Mm} (h : den vs M = .ok (.d x) (M1 ++ R)) (hl : M1.length = M.length) (hb : M1.all (MO.below M.length) = true) : trim den vs M = .ok (.d x) M1 := by
  unfold trim
  rw [h]
  show Out.ok (Val.d x) (cut M.length (M1 ++ R)) = _
  rw [cut_app hl hb]
theorem z_int {v w : Int} : vAdd (.d (.int v)) (.d (.int w)) M = .ok (.d (.int (v + w))) M := rfl
theorem z_vI {c : Int → Int → Bool} {f : Int → Int → Int} {a b : Int} : vI c f (.d (.int a)) (.d (.int b)) M = if c a b then .ok (.d (.int (f a b))) M else .bad := rfl
theorem z_vB {f : Int → Int → Bool} {a b : Int} : vB f (.d (.int a)) (.d (.int b)) M = .ok (.d (.bool (f a b))) M := rfl
theorem z_le {a b : Int} : vLe (.d (.int a)) (.d (.int b)) M = .ok (.d (.bool (decide (a ≤ b)))) M := rfl
theorem z_eqi {a b : Int} : vEq (.d (.int a)) (.d (.int b)) M = .ok (.d (.bool (decide (a = b)))) M := by
  show (match some (xor false (decide (a = b))) with | some b => Out.ok (Val.d (.bool b)) M | none => .bad) = _
  rw [Bool.false_xor]
theorem z_nei {a b : Int} : vNe (.d (.int a)) (.d (.int b)) M = .ok (.d (.bool (!decide (a = b)))) M := by
  show (match some (xor true (decide (a = b))) with | some b => Out.ok (Val.d (.bool b)) M | none => .bad) = _
  rw [Bool.true_xor]
theorem z_nes {a b : Str} : vNe (.d (.str a)) (.d (.str b)) M = .ok (.d (.bool (!decide (a = b)))) M := by
  show (match some (xor true (decide (a = b))) with | some b => Out.ok (Val.d (.bool b)) M | none => .bad) = _
  rw [Bool.true_xor]
theorem z_eqs {a b : Str} : vEq (.d (.str a)) (.d (.str b)) M = .ok (.d (.bool (decide (a = b)))) M := by
  show (match some (xor false (decide (a = b))) with | some b => Out.ok (Val.d (.bool b)) M | none => .bad) = _
  rw [Bool.false_xor]
theorem z_vInt {i : Int} : vInt [.d (.int i)] M = .ok (.d (.int i)) M := rfl
theorem z_vI2 {f : Int → Int → Int} {i j : Int} : vI2 f [.d (.int i), .d (.int j)] M = .ok (.d (.int (f i j))) M := rfl
theorem z_isN {v : Val} : vIsN v (.d .none) M = .ok (.d (.bool (isN v))) M := rfl
theorem z_notN {v : Val} : vNotN v (.d .none) M = .ok (.d (.bool (!isN v))) M := rfl
end
/-! ### the deck -/
/-- what the law draws from: the script's great numbers, a seed, a count -/
structure Dk where
  cells : List Int
  st : Int
  n : Int
  pos : ∀ c ∈ cells, 0 ≤ c
def Dk.mem (q : Dk) (rest : Mm) : Mm := .lst (q.cells.map fun i => .d (.int i)) :: .lst [.obj 0, .d (.int q.st), .d (.int q.n)] :: rest
section
variable {q : Dk} {rest : Mm}
theorem dk_0 : (q.mem rest)[0]? = some (.lst (q.cells.map fun i => .d (.int i))) := rfl
theorem dk_1 : (q.mem rest)[1]? = some (.lst [.obj 0, .d (.int q.st), .d (.int q.n)]) := rfl
theorem dk_s (i : Nat) : (q.mem rest)[i + 2]? = rest[i]? := rfl
theorem dk_rd0 : rd (.obj 0) (q.mem rest) = .obj 0 := rfl
theorem dk_rd1 : rd (.obj 1) (q.mem rest) = .obj 1 := rfl
theorem dk_len : (q.mem rest).length = rest.length + 2 := rfl
theorem dk_ix0 : vIx (.obj 1) (.d (.int 0)) (q.mem rest) = .ok (.obj 0) (q.mem rest) := rfl
theorem dk_ix1 : vIx (.obj 1) (.d (.int 1)) (q.mem rest) = .ok (.d (.int q.st)) (q.mem rest) := rfl
theorem dk_ix2 : vIx (.obj 1) (.d (.int 2)) (q.mem rest) = .ok (.d (.int q.n)) (q.mem rest) := rfl
end
end Zm
namespace Zm
open PySem PySem.Spec PyProof.Rows L2
theorem lay_ints : ∀ ns : List Int, PyData.canLayAll0 (ns.map .int) = true
  | [] => rfl
  | n :: ns => by rw [List.map_cons, PyData.canLayAll0, lay_ints ns]; rfl
theorem depth_ints : ∀ ns : List Int, PyData.depthAll (ns.map .int) = 0
  | [] => rfl
  | n :: ns => by rw [List.map_cons, PyData.depthAll, depth_ints ns]; rfl
theorem shaped_ints (ns : List Int) : SeqAt.shaped (.list (ns.map .int)) = true := by
  unfold SeqAt.shaped
  rw [PyData.canLay0, lay_ints, PyData.depth, depth_ints]
  rfl
theorem shaped_intt (ns : List Int) : SeqAt.shaped (.tuple (ns.map .int)) = true := by
  unfold SeqAt.shaped
  rw [PyData.canLay0, lay_ints, PyData.depth, depth_ints]
  rfl
theorem fzL_d (ds : List PyData) (M : Mm) : fzL (ds.map .d) M = some ds := by
  unfold fzL
  rw [List.map_map]
  exact z_allDm
theorem seqD_obj {i : Nat} {M : Mm} {ds : List PyData} (h : M[i]? = some (.lst (ds.map .d))) : seqD (.obj i) M = some ds := by
  unfold seqD
  simp only [h]
  exact fzL_d ds M
theorem dmap (ns : List Int) : (ns.map fun i => Val.d (.int i)) = (ns.map PyData.int).map .d := by rw [List.map_map]; rfl
section
variable {q : Dk} {rest : Mm}
theorem dk_setn (v : Int) : vSetL (.obj 1) (.d (.int 2)) (.d (.int v)) (q.mem rest) = some ((Dk.mk q.cells q.st v q.pos).mem rest) := rfl
theorem dk_ne : vNe (.obj 0) (.d (.list [])) (q.mem rest) = .ok (.d (.bool (!q.cells.isEmpty))) (q.mem rest) := by
  have h : datum (.obj 0) (q.mem rest) = some (.list (q.cells.map .int)) := by
    show Option.map PyData.list (seqD (.obj 0) (q.mem rest)) = _
    rw [seqD_obj (i := 0) (ds := q.cells.map .int) (by rw [dk_0, dmap])]
    rfl
  have e : eqOut true (.obj 0) (.d (.list [])) (q.mem rest) = some (!q.cells.isEmpty) := by
    show (match datum (.obj 0) (q.mem rest), datum (.d (.list [])) (q.mem rest) with
      | some a, some b => if SeqAt.shaped a && SeqAt.shaped b then some (xor true (PyData.eqv a b)) else none
      | _, _ => none) = _
    rw [h]
    show (if SeqAt.shaped (.list (q.cells.map .int)) && SeqAt.shaped (.list []) then some (xor true (PyData.eqv (.list (q.cells.map .int)) (.list []))) else none) = _
    rw [shaped_ints]
    rw [if_pos (by decide +kernel), Bool.true_xor]
    cases q.cells <;> rfl
  unfold vNe
  rw [e]
/-- the first number is there -/
theorem dk_ix00 {c : Int} {cs : List Int} (h : q.cells = c :: cs) : vIx (.obj 0) (.d (.int 0)) (q.mem rest) = .ok (.d (.int c)) (q.mem rest) := by
  have e : (q.mem rest)[0]? = some (.lst (.d (.int c) :: cs.map fun i => .d (.int i))) := by rw [dk_0, h]; rfl
  have z : atI (Val.d (.int c) :: cs.map fun i => .d (.int i)) 0 = some (.d (.int c)) := by
    unfold atI ixN
    simp
  unfold vIx
  simp only [e, z]
  rfl
theorem dk_set0 {c v : Int} {cs : List Int} (hp : ∀ x ∈ c :: cs, 0 ≤ x) (hv : 0 ≤ v) {st n : Int} :
    vSetL (.obj 0) (.d (.int 0)) (.d (.int v)) ((Dk.mk (c :: cs) st n hp).mem rest) = some ((Dk.mk (v :: cs) st n (fun x h => by rcases List.mem_cons.mp h with rfl | h; exact hv; exact hp x (List.mem_cons_of_mem _ h))).mem rest) := by
  have z : ixN (Val.d (.int c) :: cs.map fun i => .d (.int i)).length 0 = some 0 := by
    unfold ixN
    simp
  show (match ((Dk.mk (c :: cs) st n hp).mem rest)[0]? with
    | some (.lst vs) => match ixN vs.length 0 with
      | some n' => some (((Dk.mk (c :: cs) st n hp).mem rest).set 0 (.lst (vs.set n' (.d (.int v)))))
      | none => none
    | _ => none) = _
  have e : ((Dk.mk (c :: cs) st n hp).mem rest)[0]? = some (.lst (.d (.int c) :: cs.map fun i => .d (.int i))) := rfl
  simp only [e, z]
  rfl
theorem dk_pop {c : Int} {cs : List Int} (hp : ∀ x ∈ c :: cs, 0 ≤ x) {st n : Int} :
    vPop (.obj 0) [.d (.int 0)] ((Dk.mk (c :: cs) st n hp).mem rest) = .ok (.d (.int c)) ((Dk.mk cs st n (fun x h => hp x (List.mem_cons_of_mem _ h))).mem rest) := by
  have z : seqIndex? 0 (Val.d (.int c) :: cs.map fun i => .d (.int i)).length = some 0 := by
    unfold seqIndex?
    simp
  have e : ((Dk.mk (c :: cs) st n hp).mem rest)[0]? = some (.lst (.d (.int c) :: cs.map fun i => .d (.int i))) := rfl
  unfold vPop
  simp only [e, z]
  rfl
theorem dk_ty1 : tyOk "list" (.obj 1) (q.mem rest) = true := rfl
theorem dk_ty0 : tyOk "list" (.obj 0) (q.mem rest) = true := rfl
end
end Zm
namespace Zm
open PySem PySem.Spec PyProof.Rows L2
/-! ### sizes of data, for repr -/
structure Sz (k w : Nat) (x : PyData) : Prop where
  lv : x.leavesShort 40 = true
  sh : x.showable = true
  dp : x.depth ≤ k
  wt : x.weight ≤ w
structure SzL (k w : Nat) (ds : List PyData) : Prop where
  lv : PyData.leavesShortAll 40 ds = true
  sh : PyData.showableAll ds = true
  dp : PyData.depthAll ds ≤ k
  wt : PyData.weightAll ds ≤ w
variable {k k' w w' w1 w2 : Nat} {x : PyData} {ds es : List PyData}
theorem Sz.mono (h : Sz k w x) (hk : k ≤ k' := by omega) (hw : w ≤ w' := by omega) : Sz k' w' x := ⟨h.lv, h.sh, Nat.le_trans h.dp hk, Nat.le_trans h.wt hw⟩
theorem SzL.mono (h : SzL k w ds) (hk : k ≤ k' := by omega) (hw : w ≤ w' := by omega) : SzL k' w' ds := ⟨h.lv, h.sh, Nat.le_trans h.dp hk, Nat.le_trans h.wt hw⟩
theorem SzL.nil : SzL k w [] := ⟨rfl, rfl, Nat.zero_le _, Nat.zero_le _⟩
theorem SzL.cons (h : Sz k w1 x) (r : SzL k w2 ds) : SzL k (w1 + 1 + w2) (x :: ds) :=
  ⟨by rw [PyData.leavesShortAll, h.lv, r.lv]; rfl, by rw [PyData.showableAll, h.sh, r.sh]; rfl, by have := h.dp; have := r.dp; rw [PyData.depthAll]; omega, by have := h.wt; have := r.wt; rw [PyData.weightAll]; omega⟩
theorem SzL.uncons (h : SzL k w (x :: ds)) : Sz k w x ∧ SzL k w ds := by
  obtain ⟨a, b, c, d⟩ := h
  rw [PyData.leavesShortAll, Bool.and_eq_true] at a
  rw [PyData.showableAll, Bool.and_eq_true] at b
  rw [PyData.depthAll] at c
  rw [PyData.weightAll] at d
  exact ⟨⟨a.1, b.1, by omega, by omega⟩, ⟨a.2, b.2, by omega, by omega⟩⟩
theorem SzL.uncons2 (h : SzL k w (x :: ds)) : ∃ w1 w2, w1 + 1 + w2 ≤ w ∧ Sz k w1 x ∧ SzL k w2 ds := by
  obtain ⟨a, b, c, d⟩ := h
  rw [PyData.leavesShortAll, Bool.and_eq_true] at a
  rw [PyData.showableAll, Bool.and_eq_true] at b
  rw [PyData.depthAll] at c
  rw [PyData.weightAll] at d
  exact ⟨x.weight, PyData.weightAll ds, by omega, ⟨a.1, b.1, by omega, by omega⟩, ⟨a.2, b.2, by omega, by omega⟩⟩
theorem SzL.mem (h : SzL k w ds) (hx : x ∈ ds) : Sz k w x := by
  induction ds with
  | nil => cases hx
  | cons y ds ih =>
    have := h.uncons
    rcases List.mem_cons.mp hx with rfl | hx
    · exact this.1
    · exact ih this.2 hx
theorem SzL.append : ∀ {ds : List PyData} {w1 : Nat}, SzL k w1 ds → SzL k w2 es → SzL k (w1 + w2) (ds ++ es)
  | [], _, _, r => r.mono (hk := Nat.le_refl _) (hw := by omega)
  | x :: ds, _, h, r => by
    obtain ⟨a, b, e, h1, h2⟩ := h.uncons2
    exact (SzL.cons h1 (SzL.append h2 r)).mono (hk := Nat.le_refl _) (hw := by omega)
theorem SzL.sub (h : SzL k w ds) (s : List.Sublist es ds) : SzL k w es := by
  induction s generalizing w with
  | slnil => exact h
  | cons a s ih => exact ih h.uncons.2
  | cons_cons a s ih =>
    obtain ⟨u, v, e, h1, h2⟩ := h.uncons2
    exact (SzL.cons h1 (ih h2)).mono (hk := Nat.le_refl _) (hw := by omega)
theorem SzL.perm (h : SzL k w ds) (s : List.Perm ds es) : SzL k w es := by
  induction s generalizing w with
  | nil => exact h
  | cons a s ih =>
    obtain ⟨u, v, e, h1, h2⟩ := h.uncons2
    exact (SzL.cons h1 (ih h2)).mono (hk := Nat.le_refl _) (hw := by omega)
  | swap a b s =>
    obtain ⟨u, v, e, h1, h2⟩ := h.uncons2
    obtain ⟨u', v', e', h1', h2'⟩ := h2.uncons2
    exact (SzL.cons h1' (SzL.cons h1 h2')).mono (hk := Nat.le_refl _) (hw := by omega)
  | trans _ _ i j => exact j (i h)
theorem cutL_sub {α : Type} (xs : List α) (lo hi : Option Int) : (cutL xs lo hi).Sublist xs := (List.take_sublist _ _).trans (List.drop_sublist _ _)
theorem SzL.cut (h : SzL k w ds) (lo hi : Option Int) : SzL k w (cutL ds lo hi) := h.sub (cutL_sub _ _ _)
theorem SzL.rev (h : SzL k w ds) : SzL k w ds.reverse := h.perm (List.reverse_perm _).symm
theorem SzL.len (h : SzL k w ds) : ds.length ≤ w := by
  induction ds generalizing w with
  | nil => exact Nat.zero_le _
  | cons y ds ih =>
    obtain ⟨u, v, e, h1, h2⟩ := h.uncons2
    have := ih h2
    rw [List.length_cons]
    omega
theorem Sz.tup (h : SzL k w ds) : Sz (k + 1) w (.tuple ds) := ⟨by rw [PyData.leavesShort]; exact h.lv, by rw [PyData.showable]; exact h.sh, by rw [PyData.depth]; exact Nat.succ_le_succ h.dp, by rw [PyData.weight]; exact h.wt⟩
theorem Sz.lst (h : SzL k w ds) : Sz (k + 1) w (.list ds) := ⟨by rw [PyData.leavesShort]; exact h.lv, by rw [PyData.showable]; exact h.sh, by rw [PyData.depth]; exact Nat.succ_le_succ h.dp, by rw [PyData.weight]; exact h.wt⟩
theorem Sz.untup (h : Sz k w (.tuple ds)) : SzL (k - 1) w ds := by
  obtain ⟨a, b, c, d⟩ := h
  rw [PyData.leavesShort] at a
  rw [PyData.showable] at b
  rw [PyData.depth] at c
  rw [PyData.weight] at d
  exact ⟨a, b, by omega, d⟩
theorem log_lt {n m : Nat} (h : n < 2 ^ m) (hm : 0 < m) : n.log2 < m := by
  by_cases z : n = 0
  · subst z; exact hm
  · exact (Nat.log2_lt z).mpr h
theorem Sz.int {i : Int} (h : i.natAbs < 10 ^ 12) : Sz k 40 (.int i) := by
  have hl : i.natAbs.log2 < 40 := log_lt (Nat.lt_trans h (by decide)) (by decide)
  refine ⟨?_, ?_, Nat.zero_le _, ?_⟩
  · rw [PyData.leavesShort]
    exact decide_eq_true (Nat.le_trans (PyData.shown_int_le h) (by decide))
  · rw [PyData.showable]
    exact decide_eq_true (Nat.lt_trans hl (by decide))
  · rw [PyData.weight]
    split
    · exact Nat.zero_le _
    · omega
theorem Sz.int8 {i : Int} (h : i.natAbs < 256) : Sz k 8 (.int i) := by
  have hl : i.natAbs.log2 < 8 := log_lt h (by decide)
  obtain ⟨a, b, c, d⟩ := Sz.int (k := k) (i := i) (Nat.lt_trans h (by decide))
  refine ⟨a, b, c, ?_⟩
  rw [PyData.weight]
  split
  · exact Nat.zero_le _
  · omega
theorem Sz.none : Sz k w .none := ⟨rfl, rfl, Nat.zero_le _, Nat.zero_le _⟩
theorem Sz.bool {b : Bool} : Sz k w (.bool b) := ⟨rfl, rfl, Nat.zero_le _, Nat.zero_le _⟩
theorem Sz.shown (h : Sz k w x) (hk : k ≤ 64 := by omega) (hw : w ≤ 399000 := by omega) : fitsL x.shown.length = true := by
  refine fits_le (Nat.le_trans (PyData.shown_le 40 (by decide) x h.lv) ?_)
  have := h.wt
  omega
theorem z_repr {M : Mm} (h : Sz k w x) (hk : k ≤ 64 := by omega) (hw : w ≤ 399000 := by omega) : vRepr [.d x] M = .ok (.d (.str x.shown)) M := by
  show (if (x.showable && fitsL x.shown.length && decide (x.depth ≤ 64)) = true then Out.ok (Val.d (.str x.shown)) M else .bad) = _
  rw [h.sh, h.shown hk hw, decide_eq_true (Nat.le_trans h.dp hk)]
  rfl
/-! ### loops -/
theorem pairs0_eq (ds : List PyData) : pairs0 ds = (ds.zipIdx 0).map fun p => .d (.tuple [.int (p.2 : Nat), p.1]) := rfl
def pairsN (n : Nat) (ds : List PyData) : List Val := (ds.zipIdx n).map fun p => .d (.tuple [.int (p.2 : Nat), p.1])
theorem pairsN_0 (ds : List PyData) : pairs0 ds = pairsN 0 ds := rfl
theorem pairsN_c (n : Nat) (x : PyData) (ds : List PyData) : pairsN n (x :: ds) = .d (.tuple [.int n, x]) :: pairsN (n + 1) ds := rfl
theorem z_enumt {M : Mm} : enumK [.d (.tuple ds)] M = .ok (pairsN 0 ds) M := rfl
theorem z_enuml {M : Mm} : enumK [.d (.list ds)] M = .ok (pairsN 0 ds) M := rfl
theorem z_itl {M : Mm} : itK (.d (.list ds)) M = .ok (ds.map .d) M := rfl
theorem z_itt {M : Mm} : itK (.d (.tuple ds)) M = .ok (ds.map .d) M := rfl
theorem z_its {M : Mm} {ns : List Int} : itK (.scr ns) M = .ok (ns.map fun n => .d (.int n)) M := rfl
theorem z_forn {g : GM} {b : SM} {s : Sl} {M : Mm} : forL g b [] s M = .nx s M := rfl
theorem z_forc {g : GM} {b : SM} {s s1 : Sl} {M M1 : Mm} {v : Val} {vs : List Val} (hg : g v s M = some (s1, M1)) : forL g b (v :: vs) s M = match b s1 M1 with
  | .nx s2 M2 => forL g b vs s2 M2
  | .ct s2 M2 => forL g b vs s2 M2
  | .bk s2 M2 => .nx s2 M2
  | o => o := by
  show (match g v s M with
    | some (s1, M1) => match b s1 M1 with
      | .nx s2 M2 => forL g b vs s2 M2
      | .ct s2 M2 => forL g b vs s2 M2
      | .bk s2 M2 => .nx s2 M2
      | o => o
    | none => .bad) = _
  rw [hg]
/-- a loop that keeps a word, with no return -/
theorem forL_inv {g : GM} {b : SM} (I : Sl → Mm → Prop) : ∀ (vs : List Val), (∀ v ∈ vs, ∀ s M, I s M → ∃ s1 M1, g v s M = some (s1, M1) ∧ ∃ s2 M2, b s1 M1 = .nx s2 M2 ∧ I s2 M2) →
    ∀ s M, I s M → ∃ s' M', forL g b vs s M = .nx s' M' ∧ I s' M'
  | [], _, s, M, h => ⟨s, M, rfl, h⟩
  | v :: vs, st, s, M, h => by
    obtain ⟨s1, M1, hg, s2, M2, hb, h2⟩ := st v (List.mem_cons_self ..) s M h
    obtain ⟨s', M', e, h'⟩ := forL_inv I vs (fun v hv => st v (List.mem_cons_of_mem _ hv)) s2 M2 h2
    refine ⟨s', M', ?_, h'⟩
    rw [z_forc hg, hb]
    exact e
/-- a loop whose word counts the turns -/
theorem forL_cnt {g : GM} {b : SM} (I : Nat → Sl → Mm → Prop) (N : Nat) : ∀ (vs : List Val) (n : Nat), n + vs.length ≤ N → (∀ v ∈ vs, ∀ n s M, n < N → I n s M → ∃ s1 M1, g v s M = some (s1, M1) ∧ ∃ s2 M2, b s1 M1 = .nx s2 M2 ∧ I (n + 1) s2 M2) →
    ∀ s M, I n s M → ∃ s' M', forL g b vs s M = .nx s' M' ∧ I (n + vs.length) s' M'
  | [], n, _, _, s, M, h => ⟨s, M, rfl, h⟩
  | v :: vs, n, hN, st, s, M, h => by
    rw [List.length_cons] at hN
    obtain ⟨s1, M1, hg, s2, M2, hb, h2⟩ := st v (List.mem_cons_self ..) n s M (by omega) h
    obtain ⟨s', M', e, h'⟩ := forL_cnt I N vs (n + 1) (by omega) (fun v hv => st v (List.mem_cons_of_mem _ hv)) s2 M2 h2
    refine ⟨s', M', ?_, by rw [List.length_cons, show n + (vs.length + 1) = n + 1 + vs.length by omega]; exact h'⟩
    rw [z_forc hg, hb]
    exact e
/-- a comprehension whose turns keep a word and put out what is wanted -/
theorem compL_inv {g : GM} {t : TM} {e : EM} {s0 : Sl} (I : Mm → Prop) (R : Val → Prop) : ∀ (vs : List Val), (∀ v ∈ vs, ∀ M, I M → ∃ s1 M1, g v s0 M = some (s1, M1) ∧ ∃ c M2, t s1 M1 = .ok c M2 ∧
      if c = true then ∃ y M3, e s1 M2 = .ok y M3 ∧ I M3 ∧ R y else I M2) → ∀ M, I M → ∃ ys M', compL g t e s0 vs M = .ok ys M' ∧ I M' ∧ (∀ y ∈ ys, R y) ∧ ys.length ≤ vs.length
  | [], _, M, h => ⟨[], M, rfl, h, (fun _ h => by cases h), Nat.le_refl _⟩
  | v :: vs, st, M, h => by
    obtain ⟨s1, M1, hg, c, M2, ht, h2⟩ := st v (List.mem_cons_self ..) M h
    have u : compL g t e s0 (v :: vs) M = (t s1 M1).noer.bind fun b M2 => if b = true then (e s1 M2).noer.bind fun y M3 => (compL g t e s0 vs M3).bind fun r M4 => .ok (y :: r) M4 else compL g t e s0 vs M2 := by
      show (match g v s0 M with
        | some (s1, M1) => (t s1 M1).noer.bind fun b M2 => if b = true then (e s1 M2).noer.bind fun y M3 => (compL g t e s0 vs M3).bind fun r M4 => .ok (y :: r) M4 else compL g t e s0 vs M2
        | none => .bad) = _
      rw [hg]
    rw [ht, z_noer, z_bok] at u
    cases c with
    | false =>
      obtain ⟨ys, M', q, h3, h4, h5⟩ := compL_inv I R vs (fun v hv => st v (List.mem_cons_of_mem _ hv)) M2 h2
      exact ⟨ys, M', u.trans q, h3, h4, Nat.le_succ_of_le h5⟩
    | true =>
      obtain ⟨y, M3, he, h3, hy⟩ := h2
      obtain ⟨ys, M', q, h3, h4, h5⟩ := compL_inv I R vs (fun v hv => st v (List.mem_cons_of_mem _ hv)) M3 h3
      refine ⟨y :: ys, M', ?_, h3, (fun z hz => by rcases List.mem_cons.mp hz with rfl | hz; exact hy; exact h4 z hz), Nat.succ_le_succ h5⟩
      rw [u, if_pos rfl, he, z_noer, z_bok, q, z_bok]
/-- a comprehension that is plain -/
theorem compL_eq {g : GM} {t : TM} {e : EM} {s0 : Sl} {M : Mm} (p : Val → Bool) (f : Val → Val) : ∀ (vs : List Val), (∀ v ∈ vs, ∃ s1, g v s0 M = some (s1, M) ∧ t s1 M = .ok (p v) M ∧ (p v = true → e s1 M = .ok (f v) M)) →
    compL g t e s0 vs M = .ok ((vs.filter p).map f) M
  | [], _ => rfl
  | v :: vs, st => by
    obtain ⟨s1, hg, ht, he⟩ := st v (List.mem_cons_self ..)
    have ih := compL_eq p f vs fun v hv => st v (List.mem_cons_of_mem _ hv)
    have u : compL g t e s0 (v :: vs) M = (t s1 M).noer.bind fun b M2 => if b = true then (e s1 M2).noer.bind fun y M3 => (compL g t e s0 vs M3).bind fun r M4 => .ok (y :: r) M4 else compL g t e s0 vs M2 := by
      show (match g v s0 M with
        | some (s1, M1) => (t s1 M1).noer.bind fun b M2 => if b = true then (e s1 M2).noer.bind fun y M3 => (compL g t e s0 vs M3).bind fun r M4 => .ok (y :: r) M4 else compL g t e s0 vs M2
        | none => .bad) = _
      rw [hg]
    rw [ht, z_noer, z_bok] at u
    cases hp : p v with
    | false => rw [u, hp, if_neg (by decide), ih, List.filter_cons_of_neg (by rw [hp]; decide)]
    | true =>
      rw [u, hp, if_pos rfl, he hp, z_noer, z_bok, ih, z_bok, List.filter_cons_of_pos hp, List.map_cons]
/-- the first place that is bad -/
def scan (bad : Option PyData → PyData → Bool) : Option PyData → Nat → List PyData → Option Nat
  | _, _, [] => none
  | p, n, x :: r => if bad p x then some n else scan bad (some x) (n + 1) r
theorem scan_all {bad : Option PyData → PyData → Bool} {P : PyData → Prop} (h : ∀ p x, bad p x = false → P x) : ∀ {ds : List PyData} {p : Option PyData} {n : Nat}, scan bad p n ds = none → ∀ x ∈ ds, P x
  | [], _, _, _, _, hx => by cases hx
  | y :: ds, p, n, e, x, hx => by
    unfold scan at e
    cases q : bad p y with
    | true => rw [q, if_pos rfl] at e; cases e
    | false =>
      rw [q, if_neg (by decide)] at e
      rcases List.mem_cons.mp hx with rfl | hx
      · exact h _ _ q
      · exact scan_all h e x hx
theorem scan_lt {bad : Option PyData → PyData → Bool} : ∀ {ds : List PyData} {p : Option PyData} {n m : Nat}, scan bad p n ds = some m → m < n + ds.length
  | [], _, _, _, e => by cases e
  | y :: ds, p, n, m, e => by
    unfold scan at e
    rw [List.length_cons]
    split at e
    · cases e; omega
    · have := scan_lt e; omega
theorem forL_scan {g : GM} {b : SM} {M : Mm} (I : Sl → Prop) (bad : Option PyData → PyData → Bool) (P : PyData → Prop) (err : Nat → Val) (all : List PyData) (hP : ∀ p x, bad p x = false → P x)
    (step : ∀ pre x r s, all = pre ++ x :: r → (∀ y, pre.getLast? = some y → P y) → I s → ∃ s1, g (.d (.tuple [.int (pre.length : Nat), x])) s M = some (s1, M) ∧
      if bad pre.getLast? x = true then b s1 M = .rt (err pre.length) M else ∃ s2, b s1 M = .nx s2 M ∧ I s2) :
    ∀ (r pre : List PyData) (s : Sl), all = pre ++ r → (∀ y, pre.getLast? = some y → P y) → I s →
      match scan bad pre.getLast? pre.length r with
      | some n => forL g b (pairsN pre.length r) s M = .rt (err n) M
      | none => ∃ s', forL g b (pairsN pre.length r) s M = .nx s' M ∧ I s'
  | [], pre, s, _, _, h => ⟨s, rfl, h⟩
  | x :: r, pre, s, ha, hp, h => by
    obtain ⟨s1, hg, h2⟩ := step pre x r s ha hp h
    unfold scan
    rw [pairsN_c]
    cases q : bad pre.getLast? x with
    | true =>
      rw [q, if_pos rfl] at h2
      rw [if_pos rfl]
      show forL _ _ _ _ _ = _
      rw [z_forc hg, h2]
    | false =>
      rw [q, if_neg (by decide)] at h2
      obtain ⟨s2, hb, h3⟩ := h2
      rw [if_neg (by decide)]
      have ih := forL_scan I bad P err all hP step r (pre ++ [x]) s2 (by rw [ha, List.append_assoc]; rfl) (fun y hy => by rw [List.getLast?_concat] at hy; cases hy; exact hP _ _ q) h3
      rw [List.getLast?_concat, List.length_append] at ih
      have e : forL g b (.d (.tuple [.int (pre.length : Nat), x]) :: pairsN (pre.length + 1) r) s M = forL g b (pairsN (pre.length + 1) r) s2 M := by rw [z_forc hg, hb]
      rw [e]
      exact ih
/-! ### reading -/
theorem atI_at {α : Type} {xs : List α} {i : Nat} {x : α} (h : xs[i]? = some x) : atI xs (i : Int) = some x := by
  have hl : i < xs.length := (List.getElem?_eq_some_iff.mp h).1
  unfold atI ixN
  rw [if_pos (by omega), if_pos (by omega)]
  exact h
theorem atI_in {α : Type} {xs : List α} {r : Int} (h0 : 0 ≤ r) (h1 : r < xs.length) : ∃ x, atI xs r = some x ∧ x ∈ xs := by
  have hl : r.toNat < xs.length := by omega
  refine ⟨xs[r.toNat], ?_, List.getElem_mem hl⟩
  unfold atI ixN
  rw [if_pos h0, if_pos h1]
  exact List.getElem?_eq_getElem hl
theorem z_ixt {M : Mm} {i : Int} (h : atI ds i = some x) : vIx (.d (.tuple ds)) (.d (.int i)) M = .ok (.d x) M := by
  show (match atI ds i with | some d => Out.ok (Val.d d) M | none => .bad) = _
  rw [h]
theorem z_ixl {M : Mm} {i : Int} (h : atI ds i = some x) : vIx (.d (.list ds)) (.d (.int i)) M = .ok (.d x) M := by
  show (match atI ds i with | some d => Out.ok (Val.d d) M | none => .bad) = _
  rw [h]
theorem z_ixt0 {M : Mm} : vIx (.d (.tuple (x :: ds))) (.d (.int 0)) M = .ok (.d x) M := z_ixt (atI_at (i := 0) rfl)
theorem z_ixt1 {M : Mm} {y : PyData} : vIx (.d (.tuple (x :: y :: ds))) (.d (.int 1)) M = .ok (.d y) M := z_ixt (atI_at (i := 1) rfl)
theorem z_ixt2 {M : Mm} {y z : PyData} : vIx (.d (.tuple (x :: y :: z :: ds))) (.d (.int 2)) M = .ok (.d z) M := z_ixt (atI_at (i := 2) rfl)
theorem z_lenl {M : Mm} : vLen [.d (.list ds)] M = .ok (.d (.int ds.length)) M := rfl
theorem z_lent {M : Mm} : vLen [.d (.tuple ds)] M = .ok (.d (.int ds.length)) M := rfl
theorem z_tyt {M : Mm} : tyNm (.d (.tuple ds)) M = some "tuple" := rfl
theorem z_tyl {M : Mm} : tyNm (.d (.list ds)) M = some "list" := rfl
theorem z_tyd {M : Mm} {kvs : List (PyData × PyData)} : tyNm (.d (.dict kvs)) M = some "dict" := rfl
theorem z_tyi {M : Mm} {i : Int} : tyNm (.d (.int i)) M = some "int" := rfl
theorem z_tyb {M : Mm} {i : Bool} : tyNm (.d (.bool i)) M = some "bool" := rfl
theorem z_tys {M : Mm} {i : Str} : tyNm (.d (.str i)) M = some "str" := rfl
theorem z_tyn {M : Mm} : tyNm (.d .none) M = some "NoneType" := rfl
theorem isT_tt : isT "tuple" "tuple" = true := by decide +kernel
theorem isT_lt : isT "list" "tuple" = false := by decide +kernel
theorem isT_dt : isT "dict" "tuple" = false := by decide +kernel
theorem isT_it : isT "int" "tuple" = false := by decide +kernel
theorem isT_bt : isT "bool" "tuple" = false := by decide +kernel
theorem isT_st : isT "str" "tuple" = false := by decide +kernel
theorem isT_nt : isT "NoneType" "tuple" = false := by decide +kernel
theorem isT_ti : isT "tuple" "int" = false := by decide +kernel
theorem isT_li : isT "list" "int" = false := by decide +kernel
theorem isT_di : isT "dict" "int" = false := by decide +kernel
theorem isT_ii : isT "int" "int" = true := by decide +kernel
theorem isT_bi : isT "bool" "int" = true := by decide +kernel
theorem isT_si : isT "str" "int" = false := by decide +kernel
theorem isT_ni : isT "NoneType" "int" = false := by decide +kernel
theorem isT_tb : isT "tuple" "bool" = false := by decide +kernel
theorem isT_lb : isT "list" "bool" = false := by decide +kernel
theorem isT_db : isT "dict" "bool" = false := by decide +kernel
theorem isT_ib : isT "int" "bool" = false := by decide +kernel
theorem isT_bb : isT "bool" "bool" = true := by decide +kernel
theorem isT_sb : isT "str" "bool" = false := by decide +kernel
theorem isT_nb : isT "NoneType" "bool" = false := by decide +kernel
theorem isT_ts : isT "tuple" "str" = false := by decide +kernel
theorem isT_ls : isT "list" "str" = false := by decide +kernel
theorem isT_ds : isT "dict" "str" = false := by decide +kernel
theorem isT_is : isT "int" "str" = false := by decide +kernel
theorem isT_bs : isT "bool" "str" = false := by decide +kernel
theorem isT_ss : isT "str" "str" = true := by decide +kernel
theorem isT_ns : isT "NoneType" "str" = false := by decide +kernel
end Zm
namespace Zm
open PySem PySem.Spec PyProof.Rows L2
section
variable {q : Dk} {rest r : Mm} {us : List Val} {w : Val}
theorem dk_below {n : Nat} (h : 0 < n) : (q.mem []).all (MO.below n) = true := by
  have h2 : ((q.cells.map fun i => Val.d (.int i)).all (Val.below n)) = true := List.all_eq_true.mpr fun v hv => by
    obtain ⟨i, _, rfl⟩ := List.mem_map.mp hv
    rfl
  show ((q.cells.map fun i => Val.d (.int i)).all (Val.below n) && ((decide (0 < n) && (true && (true && true))) && true)) = true
  rw [h2, decide_eq_true h]
  rfl
theorem dk_mem1 : q.mem [] ++ [.lst us] = q.mem [.lst us] := rfl
theorem dk_rd2 : rd (.obj 2) (q.mem (.lst us :: r)) = .obj 2 := rfl
theorem dk_ty2 : tyOk "list" (.obj 2) (q.mem (.lst us :: r)) = true := rfl
theorem dk_app (h : us.length < 16777216) : vAppend (.obj 2) [w] (q.mem (.lst us :: r)) = .ok (.d .none) (q.mem (.lst (us ++ [w]) :: r)) := by
  show (if us.length < 16777216 then Out.ok (Val.d .none) ((q.mem (.lst us :: r)).set 2 (.lst (us ++ [w]))) else .bad) = _
  rw [if_pos h]
  rfl
theorem dk_len0 : (q.mem []).length = 2 := rfl
theorem sortD_i (ns : List Int) : sortD (ns.map .int) = some ((sortI ns).map .int) := by
  unfold sortD
  rw [allI_map]
theorem sortD_p (ps : List (Int × Int)) : sortD (ps.map pairD) = some ((sortP ps).map pairD) := by
  cases ps with
  | nil => simp [sortD, allI, sortI, sortP]
  | cons p ps =>
    unfold sortD
    have h : allI ((p :: ps).map pairD) = none := rfl
    rw [h, allP_map]
theorem z_sort {M : Mm} {v : Val} {ds es : List PyData} (h : listD v M = some ds) (e : sortD ds = some es) : vSorted [v] M = .ok (.d (.list es)) M := by
  show (match listD v M with
    | some ds => match sortD ds with
      | some es => Out.ok (Val.d (.list es)) M
      | none => .bad
    | none => .bad) = _
  rw [h]
  show (match sortD ds with
      | some es => Out.ok (Val.d (.list es)) M
      | none => .bad) = _
  rw [e]
theorem z_tupl {M : Mm} {ds : List PyData} : vTuple [.d (.list ds)] M = .ok (.d (.tuple ds)) M := rfl
theorem z_tupt {M : Mm} {ds : List PyData} : vTuple [.d (.tuple ds)] M = .ok (.d (.tuple ds)) M := rfl
theorem z_listt {M : Mm} {ds : List PyData} : vList [.d (.tuple ds)] M = .ok (.d (.list ds)) M := rfl
theorem z_listl {M : Mm} {ds : List PyData} : vList [.d (.list ds)] M = .ok (.d (.list ds)) M := rfl
theorem dk_list2 {ds : List PyData} : listD (.obj 2) (q.mem (.lst (ds.map .d) :: r)) = some ds := by
  unfold listD
  exact seqD_obj rfl
theorem lay_pairs : ∀ ps : List (Int × Int), PyData.canLayAll0 (ps.map pairD) = true
  | [] => rfl
  | p :: ps => by rw [List.map_cons, PyData.canLayAll0, lay_pairs ps]; rfl
def hit (f a b : Int) : Bool := (a == f) || ((b == f) || false)
theorem z_in2 {M : Mm} {f a b : Int} : vIn false (.d (.int f)) (.d (.tuple [.int a, .int b])) M = .ok (.d (.bool (hit f a b))) M := by
  show (if SeqAt.shaped (.int f) && PyData.canLayAll0 [.int a, .int b] then Out.ok (Val.d (.bool (xor false ([PyData.int a, .int b].any fun z => PyData.eqv z (.int f))))) M else .bad) = _
  have h : (SeqAt.shaped (.int f) && PyData.canLayAll0 [.int a, .int b]) = true := rfl
  rw [if_pos h, Bool.false_xor]
  rfl
theorem z_inp {neg : Bool} {M : Mm} {v w : Val} {d : PyData} {ds : List PyData} (h1 : datum v M = some d) (h2 : seqD w M = some ds) (h3 : SeqAt.shaped d = true) (h4 : PyData.canLayAll0 ds = true) :
    vIn neg v w M = .ok (.d (.bool (xor neg (ds.any fun z => PyData.eqv z d)))) M := by
  unfold vIn
  rw [h1, h2]
  show (if (SeqAt.shaped d && PyData.canLayAll0 ds) = true then _ else _) = _
  rw [h3, h4]
  rfl
theorem rangeL_mem {lo : Int} {n : Nat} {v : Val} (h : v ∈ rangeL lo n) : ∃ i : Int, v = .d (.int i) ∧ lo ≤ i ∧ i < lo + n := by
  obtain ⟨i, hi, rfl⟩ := List.mem_map.mp h
  have := List.mem_range.mp hi
  exact ⟨_, rfl, by omega, by omega⟩
theorem rangeL_len {lo : Int} {n : Nat} : (rangeL lo n).length = n := by unfold rangeL; simp
theorem allD_of {P : PyData → Prop} : ∀ {ys : List Val}, (∀ y ∈ ys, ∃ x, y = .d x ∧ P x) → ∃ ds : List PyData, ys = ds.map .d ∧ ∀ x ∈ ds, P x
  | [], _ => ⟨[], rfl, fun _ h => by cases h⟩
  | y :: ys, h => by
    obtain ⟨x, rfl, hx⟩ := h y (List.mem_cons_self ..)
    obtain ⟨ds, rfl, h2⟩ := allD_of fun y hy => h y (List.mem_cons_of_mem _ hy)
    exact ⟨x :: ds, rfl, fun z hz => by rcases List.mem_cons.mp hz with rfl | hz; exact hx; exact h2 z hz⟩
theorem z_lcK {M : Mm} {ds : List PyData} (h : ds.length ≤ 16777216) : lcK (ds.map .d) M = .ok (.d (.list ds)) M := by
  show (match allD (ds.map .d) with
    | some ds' => if fitsL (ds.map Val.d).length then Out.ok (Val.d (.list ds')) M else .bad
    | none => .bad) = _
  rw [z_allDm]
  show (if fitsL (ds.map Val.d).length then Out.ok (Val.d (.list ds)) M else .bad) = _
  rw [List.length_map, fits_le h]
  rfl
end
end Zm
namespace Zm
open PySem PySem.Spec PyProof.Rows L2
section
variable {k w w1 w2 : Nat} {x y z : PyData} {ds es : List PyData} {M : Mm} {s : Sl}
theorem z_addl : vAdd (.d (.list ds)) (.d (.list es)) M = if fitsL (ds.length + es.length) then .ok (.d (.list (ds ++ es))) M else .bad := rfl
theorem z_addt : vAdd (.d (.tuple ds)) (.d (.tuple es)) M = if fitsL (ds.length + es.length) then .ok (.d (.tuple (ds ++ es))) M else .bad := rfl
theorem z_addt' (h : ds.length + es.length ≤ 16777216) : vAdd (.d (.tuple ds)) (.d (.tuple es)) M = .ok (.d (.tuple (ds ++ es))) M := by rw [z_addt, fits_le h]; rfl
theorem z_na10 : Int.natAbs 10 = 10 := rfl
theorem z_dct0 : mDct0 s M = .ok (.d (.dict [])) M := rfl
theorem z_disp {k : List Val → Mm → Out Val} {ms : AM} : mDisp k ms s M = (ms s M).bind k := rfl
theorem z_disp1 {k : Key} : dispK [k] [.d x] M = .ok (.d (.dict [(keyD k, x)])) M := by
  unfold dispK
  rw [z_allD1, z_allD0]
  show (if [Val.d x].length = [k].length ∧ [k].Nodup ∧ [k].length ≤ 15 then _ else _) = _
  rw [if_pos ⟨rfl, by simp, by simp⟩]
  rfl
theorem z_slt {lo hi : Option Int} : vSl (.d (.tuple ds)) lo hi M = .ok (.d (.tuple (cutL ds lo hi))) M := rfl
theorem z_revt : vRev (.d (.tuple ds)) M = .ok (.d (.tuple ds.reverse)) M := rfl
def SzE (k w : Nat) (ds : List PyData) : Prop := ∀ x ∈ ds, Sz k w x
theorem SzE.nil : SzE k w [] := fun _ h => by cases h
theorem SzE.cons (h : Sz k w x) (r : SzE k w ds) : SzE k w (x :: ds) := fun z hz => by
  rcases List.mem_cons.mp hz with rfl | hz
  · exact h
  · exact r z hz
theorem SzE.of (h : SzL k w ds) : SzE k w ds := fun x hx => h.mem hx
theorem SzL.c {k1 k2 : Nat} (h : Sz k1 w1 x) (r : SzL k2 w2 ds) : SzL (max k1 k2) (w1 + 1 + w2) (x :: ds) := SzL.cons (h.mono (hw := Nat.le_refl _)) (r.mono (hw := Nat.le_refl _))
theorem SzL.a {k1 k2 : Nat} (h : SzL k1 w1 ds) (r : SzL k2 w2 es) : SzL (max k1 k2) (w1 + w2) (ds ++ es) := SzL.append (h.mono (hw := Nat.le_refl _)) (r.mono (hw := Nat.le_refl _))
theorem SzL.n0 : SzL 0 0 [] := .nil
theorem Sz.t1 (h : Sz k w x) : Sz (k + 1) (w + 1) (.tuple [x]) := (Sz.tup (SzL.c h .n0)).mono
theorem Sz.t2 {k1 : Nat} (h : Sz k w x) (h1 : Sz k1 w1 y) : Sz (max k k1 + 1) (w + w1 + 2) (.tuple [x, y]) := (Sz.tup (SzL.c h (.c h1 .n0))).mono
theorem Sz.t3 {k1 k2 : Nat} (h : Sz k w x) (h1 : Sz k1 w1 y) (h2 : Sz k2 w2 z) : Sz (max k (max k1 k2) + 1) (w + w1 + w2 + 3) (.tuple [x, y, z]) := (Sz.tup (SzL.c h (.c h1 (.c h2 .n0)))).mono
theorem Sz.l1 (h : Sz k w x) : Sz (k + 1) (w + 1) (.list [x]) := (Sz.lst (SzL.c h .n0)).mono
theorem Sz.n : Sz 0 0 .none := .none
theorem Sz.b {b : Bool} : Sz 0 0 (.bool b) := .bool
theorem Sz.i8 {i : Int} (h : i.natAbs < 256) : Sz 0 8 (.int i) := .int8 h
theorem SzE.c {k1 : Nat} (h : Sz k1 w1 x) (r : SzE k w ds) (hk : k1 ≤ k := by omega) (hw : w1 ≤ w := by omega) : SzE k w (x :: ds) := .cons (h.mono hk hw) r
theorem cutL_len {α : Type} (xs : List α) (lo hi : Option Int) : (cutL xs lo hi).length ≤ xs.length := (cutL_sub xs lo hi).length_le
end
end Zm
namespace Zm
open PySem PySem.Spec PyProof.Rows L2
section
variable {k w w1 w2 : Nat} {x y z : PyData} {ds es : List PyData} {M : Mm} {s : Sl}
theorem z_lens {ns : List Int} : vLen [.scr ns] M = .ok (.d (.int ns.length)) M := rfl
theorem z_sls {ns : List Int} {lo hi : Option Int} : vSl (.scr ns) lo hi M = .ok (.d (.list (cutL (ns.map .int) lo hi))) M := rfl
theorem z_sll {lo hi : Option Int} : vSl (.d (.list ds)) lo hi M = .ok (.d (.list (cutL ds lo hi))) M := rfl
theorem z_lcN {us : List Val} (h : us.length ≤ 16777216) : lcN us M = .ok (.obj M.length) (M ++ [.lst us]) := by
  unfold lcN
  rw [fits_le h]
  rfl
theorem pairsN_mem : ∀ {ds : List PyData} {n : Nat} {v : Val}, v ∈ pairsN n ds → ∃ (m : Nat) (x : PyData), v = .d (.tuple [.int m, x]) ∧ x ∈ ds
  | [], _, _, h => by cases h
  | x :: ds, n, v, h => by
    rw [pairsN_c] at h
    rcases List.mem_cons.mp h with rfl | h
    · exact ⟨n, x, rfl, List.mem_cons_self ..⟩
    · obtain ⟨m, y, e, hy⟩ := pairsN_mem h
      exact ⟨m, y, e, List.mem_cons_of_mem _ hy⟩
theorem SzL.ofE : ∀ {ds : List PyData} {k w n : Nat}, SzE k w ds → ds.length ≤ n → SzL k (n * (w + 1)) ds
  | [], _, _, _, _, _ => .nil
  | x :: ds, k, w, n, h, hl => by
    rw [List.length_cons] at hl
    have ih := SzL.ofE (n := n - 1) (fun y hy => h y (List.mem_cons_of_mem _ hy)) (by omega)
    have e : n * (w + 1) = (n - 1) * (w + 1) + (w + 1) := by
      obtain ⟨m, rfl⟩ : ∃ m, n = m + 1 := ⟨n - 1, by omega⟩
      rw [Nat.add_sub_cancel, Nat.succ_mul]
    exact (SzL.cons (h x (List.mem_cons_self ..)) ih).mono (hk := Nat.le_refl _) (hw := by omega)
theorem SzL.flat {k' : Nat} (h : SzL k' w ds) (hd : ∀ x ∈ ds, x.depth ≤ k) : SzL k w ds := by
  refine ⟨h.lv, h.sh, ?_, h.wt⟩
  clear h
  induction ds with
  | nil => exact Nat.zero_le _
  | cons x ds ih =>
    rw [PyData.depthAll]
    exact Nat.max_le.mpr ⟨hd x (List.mem_cons_self ..), ih fun y hy => hd y (List.mem_cons_of_mem _ hy)⟩
theorem z_reprne (h : Sz k w x) (hk : k ≤ 64 := by omega) (hw : w ≤ 399000 := by omega) : vRepr [.d x] M = .ok (.d (.str x.shown)) M := z_repr h hk hw
end
end Zm
namespace Zm
open PySem PySem.Spec PyProof.Rows L2
section
variable {q : Dk} {rest r : Mm} {us : List Val} {w : Val} {M : Mm} {s : Sl} {x : PyData} {ds es : List PyData} {i : Nat}
theorem z_mulx {a b : Int} : vMulX (.d (.int a)) (.d (.int b)) M = if smallI a || smallI b then .ok (.d (.int (a * b))) M else .bad := rfl
theorem z_mult {k : Int} : vMulX (.d (.tuple ds)) (.d (.int k)) M = if ds.isEmpty || decide (k = 1) then (if k.natAbs ≤ 1000 then .ok (.d (.tuple ds)) M else .bad)
    else if 2 ≤ k ∧ k ≤ 1000 ∧ ds.length ≤ 1000 then .ok (.d (.tuple (List.replicate k.toNat ds).flatten)) M else if k ≤ 0 ∧ -1000 ≤ k then .ok (.d (.tuple [])) M else .bad := rfl
theorem z_mult2 (h : ds.length ≤ 1000) : vMulX (.d (.tuple ds)) (.d (.int 2)) M = .ok (.d (.tuple (ds ++ ds))) M := by
  rw [z_mult]
  cases ds with
  | nil => rfl
  | cons a ds =>
    show (if 2 ≤ (2 : Int) ∧ (2 : Int) ≤ 1000 ∧ (a :: ds).length ≤ 1000 then Out.ok (Val.d (.tuple (List.replicate (Int.toNat 2) (a :: ds)).flatten)) M else if (2 : Int) ≤ 0 ∧ -1000 ≤ (2 : Int) then .ok (.d (.tuple [])) M else .bad) = _
    rw [if_pos ⟨by decide, by decide, h⟩]
    show Out.ok (Val.d (.tuple (List.replicate 2 (a :: ds)).flatten)) M = _
    simp
theorem z_lr1 {m : EM} : mLR1 m s M = (m s M).bind fun v M1 => match v with
  | .d (.int j) => if okR j then .ok (.d (.list (ranD 0 j))) M1 else .bad
  | _ => .bad := rfl
theorem z_lr1N {m : EM} : mLR1N m s M = (m s M).bind fun v M1 => match v with
  | .d (.int j) => if okR j then .ok (.obj M1.length) (M1 ++ [.lst ((ranD 0 j).map .d)]) else .bad
  | _ => .bad := rfl
theorem okR_le {j : Int} (h1 : 0 ≤ j) (h2 : j ≤ 16777216) : okR j = true := by
  unfold okR
  rw [decide_eq_true h1, decide_eq_true h2]
  rfl
theorem ranD_mem {lo hi : Int} (h : x ∈ ranD lo hi) : ∃ i : Int, x = .int i ∧ lo ≤ i ∧ i < hi := by
  obtain ⟨n, hn, rfl⟩ := List.mem_map.mp h
  have := List.mem_range.mp hn
  exact ⟨_, rfl, by omega, by omega⟩
theorem ranD_len {lo hi : Int} : (ranD lo hi).length = (hi - lo).toNat := by unfold ranD; simp
/-! ### places behind the deck -/
theorem dk_get {i : Nat} : (q.mem rest)[i + 2]? = rest[i]? := rfl
theorem dk_set {i : Nat} {o : MO} : (q.mem rest).set (i + 2) o = q.mem (rest.set i o) := rfl
theorem dk_add : q.mem rest ++ r = q.mem (rest ++ r) := rfl
theorem dk_ll : (q.mem rest).length = rest.length + 2 := rfl
theorem z_rdo : rd (.obj (i + 2)) (q.mem rest) = match rest[i]? with
  | some (.frz x) => .d x
  | _ => .obj (i + 2) := rfl
theorem z_tyo {T : String} : tyOk T (.obj (i + 2)) (q.mem rest) = match rest[i]? with
    | some (.lst _) => T == "list"
    | some (.dct _) => T == "dict"
    | _ => false := rfl
theorem z_app : vAppend (.obj (i + 2)) [w] (q.mem rest) = match rest[i]? with
    | some (.lst us) => if us.length < 16777216 then .ok (.d .none) (q.mem (rest.set i (.lst (us ++ [w])))) else .bad
    | _ => .bad := rfl
theorem z_listN {v : Val} : vListN [v] M = match seqD v M with
    | some ds => .ok (.obj M.length) (M ++ [.lst (ds.map .d)])
    | none => .bad := rfl
theorem z_sqt : seqD (.d (.tuple ds)) M = some ds := rfl
theorem z_sql : seqD (.d (.list ds)) M = some ds := rfl
theorem z_leno : vLen [.obj (i + 2)] (q.mem rest) = match (match rest[i]? with
    | some (.lst vs) => some vs.length
    | _ => none) with
  | some n => .ok (.d (.int (n : Nat))) (q.mem rest)
  | none => .bad := rfl
theorem z_frz {m : EM} : mFrz m s M = (m s M).bind fun v M1 => match v with
  | .d x => .ok (.d x) M1
  | .scr ns => .ok (.scr ns) M1
  | .obj i => match M1[i]? with
    | some (.frz x) => .ok (.d x) M1
    | some (.lst vs) => match fzL vs M1 with
      | some ds => .ok (.d (.list ds)) (M1.set i (.frz (.list ds)))
      | none => .bad
    | _ => .bad := rfl
theorem z_popk {k : Int} (h : M[i]? = some (.lst (ds.map .d))) (h0 : 0 ≤ k) (h2 : k < 1000000000) (hx : ds[k.toNat]? = some x) : vPop (.obj i) [.d (.int k)] M = .ok (.d x) (M.set i (.lst ((ds.eraseIdx k.toNat).map .d))) := by
  have hl : k.toNat < ds.length := (List.getElem?_eq_some_iff.mp hx).1
  have e : seqIndex? k (ds.map Val.d).length = some k.toNat := by
    unfold seqIndex?
    rw [List.length_map]
    simp only [if_neg (show ¬ k < 0 by omega)]
    rw [if_pos (by rw [Bool.and_eq_true, decide_eq_true_eq, decide_eq_true_eq]; omega)]
  have e2 : (ds.map Val.d)[k.toNat]? = some (.d x) := by rw [List.getElem?_map, hx]; rfl
  have e3 : (ds.map Val.d).eraseIdx k.toNat = (ds.eraseIdx k.toNat).map .d := by
    clear h hx hl e e2
    generalize k.toNat = n
    induction ds generalizing n with
    | nil => rfl
    | cons a ds ih => cases n with
      | zero => rfl
      | succ n => simp only [List.map_cons, List.eraseIdx_cons_succ, ih n]
  show (match M[i]? with
    | some (.lst us) => if -9223372036854775808 ≤ k ∧ k < 9223372036854775808 then match seqIndex? k us.length with
      | some j => match us[j]? with
        | some w => Out.ok (rd w M) (M.set i (.lst (us.eraseIdx j)))
        | none => .bad
      | none => .bad else .bad
    | _ => .bad) = _
  simp only [h, e, e2, if_pos (show -9223372036854775808 ≤ k ∧ k < 9223372036854775808 by omega), e3, z_rdd]
/-- a list against the empty one -/
theorem z_nel {v : Val} (h : datum v M = some (.list ds)) (hn : ∀ d, v = .d d → d = .list ds) (hs : SeqAt.shaped (.list ds) = true) : vNe v (.d (.list [])) M = .ok (.d (.bool (!ds.isEmpty))) M := by
  have e : eqOut true v (.d (.list [])) M = some (!ds.isEmpty) := by
    have g : (if SeqAt.shaped (.list ds) && SeqAt.shaped (.list []) then some (xor true (PyData.eqv (.list ds) (.list []))) else none) = some (!ds.isEmpty) := by
      rw [hs]
      rw [if_pos (by decide +kernel), Bool.true_xor]
      cases ds <;> rfl
    cases v with
    | d y =>
      have := hn y rfl
      subst this
      exact g
    | obj j =>
      show (match datum (.obj j) M, datum (.d (.list [])) M with
        | some a, some b => if SeqAt.shaped a && SeqAt.shaped b then some (xor true (PyData.eqv a b)) else none
        | _, _ => none) = _
      rw [h]
      exact g
    | scr ns =>
      show (match datum (.scr ns) M, datum (.d (.list [])) M with
        | some a, some b => if SeqAt.shaped a && SeqAt.shaped b then some (xor true (PyData.eqv a b)) else none
        | _, _ => none) = _
      rw [h]
      exact g
  unfold vNe
  rw [e]
theorem z_nelo (h : M[i]? = some (.lst (ds.map .d))) (hs : SeqAt.shaped (.list ds) = true) : vNe (.obj i) (.d (.list [])) M = .ok (.d (.bool (!ds.isEmpty))) M :=
  z_nel (by show Option.map PyData.list (seqD (.obj i) M) = _; rw [seqD_obj h]; rfl) (fun d h => by cases h) hs
end
/-! ### data that can be compared -/
structure Lay (ds : List PyData) : Prop where
  c : ∀ x ∈ ds, x.canLay0 = true
  d : ∀ x ∈ ds, x.depth ≤ 60
theorem Lay.shaped {ds : List PyData} (h : Lay ds) : SeqAt.shaped (.list ds) = true := by
  have a : PyData.canLayAll0 ds = true := by
    have := h.c
    clear h
    induction ds with
    | nil => rfl
    | cons x ds ih => rw [PyData.canLayAll0, this x (List.mem_cons_self ..), ih fun y hy => this y (List.mem_cons_of_mem _ hy)]; rfl
  have b : PyData.depthAll ds ≤ 60 := by
    have := h.d
    clear h a
    induction ds with
    | nil => exact Nat.zero_le _
    | cons x ds ih => rw [PyData.depthAll]; exact Nat.max_le.mpr ⟨this x (List.mem_cons_self ..), ih fun y hy => this y (List.mem_cons_of_mem _ hy)⟩
  unfold SeqAt.shaped
  rw [PyData.canLay0, a, PyData.depth, decide_eq_true (by omega)]
  rfl
theorem Lay.sub {ds es : List PyData} (h : Lay ds) (s : ∀ x ∈ es, x ∈ ds) : Lay es := ⟨fun x hx => h.c x (s x hx), fun x hx => h.d x (s x hx)⟩
theorem Lay.ran (a b : Int) : Lay (ranD a b) := ⟨fun x hx => by obtain ⟨i, rfl, _⟩ := ranD_mem hx; rfl, fun x hx => by obtain ⟨i, rfl, _⟩ := ranD_mem hx; exact Nat.zero_le _⟩
/-! ### while -/
theorem whN_det {c : TM} {b : SM} : ∀ (n m : Nat) (s : Sl) (M : Mm), whN c b n s M ≠ .bad → whN c b m s M ≠ .bad → whN c b n s M = whN c b m s M
  | 0, _, _, _, h, _ => absurd rfl h
  | _ + 1, 0, _, _, _, h => absurd rfl h
  | n + 1, m + 1, s, M, h1, h2 => by
    unfold whN at h1 h2 ⊢
    cases hc : c s M with
    | bad => rfl
    | er e M1 => rfl
    | ok k M1 =>
      rw [hc] at h1 h2
      cases k with
      | false => rfl
      | true =>
        simp only [z_bsok, if_true] at h1 h2 ⊢
        cases hb : b s M1 with
        | nx s2 M2 => rw [hb] at h1 h2; exact whN_det n m s2 M2 h1 h2
        | ct s2 M2 => rw [hb] at h1 h2; exact whN_det n m s2 M2 h1 h2
        | _ => rfl
theorem sWhile_of {c : TM} {b : SM} {s : Sl} {M : Mm} {o : SO} {n : Nat} (h : whN c b n s M = o) (ho : o ≠ .bad) : sWhile c b s M = o := by
  have hn : whN c b n s M ≠ .bad := by rw [h]; exact ho
  have he : ∃ n, whN c b n s M ≠ .bad := ⟨n, hn⟩
  unfold sWhile
  rw [dif_pos he, ← h]
  exact whN_det _ _ _ _ (Classical.choose_spec he) hn
/-- a while that keeps a word and comes down -/
theorem sWhile_inv {c : TM} {b : SM} (I : Nat → Sl → Mm → Prop) (Q : Sl → Mm → Prop)
    (st : ∀ k s M, I k s M → ∃ t M1, c s M = .ok t M1 ∧ if t = true then ∃ s2 M2, b s M1 = .nx s2 M2 ∧ ∃ k2 < k, I k2 s2 M2 else Q s M1) :
    ∀ k s M, I k s M → ∃ s' M', sWhile c b s M = .nx s' M' ∧ Q s' M' := by
  have key : ∀ n k, k < n → ∀ s M, I k s M → ∃ m s' M', whN c b m s M = .nx s' M' ∧ Q s' M' := by
    intro n
    induction n with
    | zero => intro k h; omega
    | succ n ih =>
      intro k hk s M h
      obtain ⟨t, M1, hc, h2⟩ := st k s M h
      cases t with
      | false =>
        refine ⟨1, s, M1, ?_, h2⟩
        unfold whN
        rw [hc]
        rfl
      | true =>
        obtain ⟨s2, M2, hb, k2, hk2, h3⟩ := h2
        obtain ⟨m, s', M', e, q⟩ := ih k2 (by omega) s2 M2 h3
        refine ⟨m + 1, s', M', ?_, q⟩
        unfold whN
        rw [hc]
        simp only [z_bsok, if_true, hb]
        exact e
  intro k s M h
  obtain ⟨m, s', M', e, q⟩ := key (k + 1) k (Nat.lt_succ_self _) s M h
  exact ⟨s', M', sWhile_of e (by intro h; cases h), q⟩
end Zm
namespace Zm
open PySem PySem.Spec PyProof.Rows L2
theorem ints_of {P : Int → Prop} : ∀ {ds : List PyData}, (∀ x ∈ ds, ∃ i, x = .int i ∧ P i) → ∃ ns : List Int, ds = ns.map .int ∧ ∀ n ∈ ns, P n
  | [], _ => ⟨[], rfl, fun _ h => by cases h⟩
  | x :: ds, h => by
    obtain ⟨i, rfl, hi⟩ := h x (List.mem_cons_self ..)
    obtain ⟨ns, rfl, hn⟩ := ints_of fun y hy => h y (List.mem_cons_of_mem _ hy)
    exact ⟨i :: ns, rfl, fun n hn' => by rcases List.mem_cons.mp hn' with rfl | h; exact hi; exact hn n h⟩
theorem cutL_take {α : Type} {xs : List α} {n : Int} (h : 0 ≤ n) : cutL xs none (some n) = xs.take n.toNat := by
  unfold cutL
  show (xs.drop 0).take ((if n < 0 then (n + (xs.length : Int)).toNat else min n.toNat xs.length) - 0) = _
  rw [if_neg (by omega), List.drop_zero, Nat.sub_zero]
  by_cases hl : n.toNat ≤ xs.length
  · rw [Nat.min_eq_left hl]
  · rw [Nat.min_eq_right (by omega), List.take_length, List.take_of_length_le (by omega)]
theorem cutL_drop {α : Type} {xs : List α} {n : Int} (h : 0 ≤ n) : cutL xs (some n) none = xs.drop n.toNat := by
  unfold cutL
  show (xs.drop (if n < 0 then (n + (xs.length : Int)).toNat else min n.toNat xs.length)).take (xs.length - (if n < 0 then (n + (xs.length : Int)).toNat else min n.toNat xs.length)) = _
  rw [if_neg (by omega)]
  by_cases hl : n.toNat ≤ xs.length
  · rw [Nat.min_eq_left hl, List.take_of_length_le (by rw [List.length_drop]; exact Nat.le_refl _)]
  · rw [Nat.min_eq_right (by omega), List.drop_length, List.drop_of_length_le (by omega)]
    exact List.take_nil
end Zm
namespace Zm
open PySem PySem.Spec PyProof.Rows L2
theorem rangeL_cons (lo : Int) (n : Nat) : rangeL lo (n + 1) = .d (.int lo) :: rangeL (lo + 1) n := by
  unfold rangeL
  rw [List.range_succ_eq_map, List.map_cons, List.map_map]
  refine List.cons_eq_cons.mpr ⟨by simp, List.map_congr_left fun i _ => ?_⟩
  show Val.d (.int (lo + ((i + 1 : Nat) : Int))) = _
  rw [show lo + ((i + 1 : Nat) : Int) = lo + 1 + (i : Int) by omega]
theorem rangeL_zero (lo : Int) : rangeL lo 0 = [] := rfl
theorem compL_consT {g : GM} {t : TM} {e : EM} {s0 s1 : Sl} {v y : Val} {vs : List Val} {M M1 M2 M3 : Mm} (hg : g v s0 M = some (s1, M1)) (ht : t s1 M1 = .ok true M2) (he : e s1 M2 = .ok y M3) :
    compL g t e s0 (v :: vs) M = (compL g t e s0 vs M3).bind fun r M4 => .ok (y :: r) M4 := by
  show (match g v s0 M with
    | some (s1, M1) => (t s1 M1).noer.bind fun b M2 => if b = true then (e s1 M2).noer.bind fun y M3 => (compL g t e s0 vs M3).bind fun r M4 => .ok (y :: r) M4 else compL g t e s0 vs M2
    | none => .bad) = _
  rw [hg]
  show ((t s1 M1).noer.bind fun b M2 => if b = true then (e s1 M2).noer.bind fun y M3 => (compL g t e s0 vs M3).bind fun r M4 => .ok (y :: r) M4 else compL g t e s0 vs M2) = _
  rw [ht, z_noer, z_bok, if_pos rfl, he, z_noer, z_bok]
theorem compL_consF {g : GM} {t : TM} {e : EM} {s0 s1 : Sl} {v : Val} {vs : List Val} {M M1 M2 : Mm} (hg : g v s0 M = some (s1, M1)) (ht : t s1 M1 = .ok false M2) :
    compL g t e s0 (v :: vs) M = compL g t e s0 vs M2 := by
  show (match g v s0 M with
    | some (s1, M1) => (t s1 M1).noer.bind fun b M2 => if b = true then (e s1 M2).noer.bind fun y M3 => (compL g t e s0 vs M3).bind fun r M4 => .ok (y :: r) M4 else compL g t e s0 vs M2
    | none => .bad) = _
  rw [hg]
  show ((t s1 M1).noer.bind fun b M2 => if b = true then (e s1 M2).noer.bind fun y M3 => (compL g t e s0 vs M3).bind fun r M4 => .ok (y :: r) M4 else compL g t e s0 vs M2) = _
  rw [ht, z_noer, z_bok, if_neg (by decide)]
theorem compL_nil {g : GM} {t : TM} {e : EM} {s0 : Sl} {M : Mm} : compL g t e s0 [] M = .ok [] M := rfl
end Zm
namespace Zm
open PySem PySem.Spec PyProof.Rows L2
theorem z_sortX {M : Mm} {v : Val} {ds es : List PyData} (h : listD v M = some ds) (e : sortD ds = some es) : vSortX [v] M = .ok (.d (.list es)) M := by
  show (match listD v M with
    | some ds => match sortD ds with
      | some es => Out.ok (Val.d (.list es)) M
      | none => match headW ds with
        | some z => match allT z ds with
          | some ps => .ok (.d (.list ((sortP ps).map (triD z)))) M
          | none => .bad
        | none => .bad
    | none => .bad) = _
  rw [h]
  show (match sortD ds with
      | some es => Out.ok (Val.d (.list es)) M
      | none => match headW ds with
        | some z => match allT z ds with
          | some ps => .ok (.d (.list ((sortP ps).map (triD z)))) M
          | none => .bad
        | none => .bad) = _
  rw [e]
theorem z_sortT {M : Mm} {v : Val} {z : Str} {ps : List (Int × Int)} (h : listD v M = some (ps.map (triD z))) : vSortX [v] M = .ok (.d (.list ((sortP ps).map (triD z)))) M := by
  cases ps with
  | nil =>
    have e : sortD (([] : List (Int × Int)).map (triD z)) = some [] := by simp [sortD, allI, sortI]
    rw [z_sortX h e]
    simp [sortP]
  | cons p ps =>
    have e : sortD ((p :: ps).map (triD z)) = none := by
      unfold sortD
      have a : allI ((p :: ps).map (triD z)) = none := rfl
      have b : allP ((p :: ps).map (triD z)) = none := by
        show (match toP (triD z p), allP (ps.map (triD z)) with
          | some p, some ps => some (p :: ps)
          | _, _ => none) = none
        rfl
      rw [a, b]
    have e2 : headW ((p :: ps).map (triD z)) = some z := rfl
    show (match listD v M with
    | some ds => match sortD ds with
      | some es => Out.ok (Val.d (.list es)) M
      | none => match headW ds with
        | some z => match allT z ds with
          | some ps => .ok (.d (.list ((sortP ps).map (triD z)))) M
          | none => .bad
        | none => .bad
    | none => .bad) = _
    rw [h]
    show (match sortD ((p :: ps).map (triD z)) with
      | some es => Out.ok (Val.d (.list es)) M
      | none => match headW ((p :: ps).map (triD z)) with
        | some z => match allT z ((p :: ps).map (triD z)) with
          | some ps => .ok (.d (.list ((sortP ps).map (triD z)))) M
          | none => .bad
        | none => .bad) = _
    rw [e]
    show (match headW ((p :: ps).map (triD z)) with
        | some z' => match allT z' ((p :: ps).map (triD z)) with
          | some ps => Out.ok (Val.d (.list ((sortP ps).map (triD z')))) M
          | none => .bad
        | none => .bad) = _
    rw [e2]
    show (match allT z ((p :: ps).map (triD z)) with
          | some ps => Out.ok (Val.d (.list ((sortP ps).map (triD z)))) M
          | none => .bad) = _
    rw [allT_map]
theorem z_star {a : EM} {r : AM} {s : Sl} {M : Mm} : mStar a r s M = (a s M).bind fun v M1 => match seqD v M1 with
  | some ds => (r s M1).bind fun ys M2 => .ok (ds.map .d ++ ys) M2
  | none => .bad := rfl
theorem z_lr2 {a b : EM} {s : Sl} {M : Mm} : mLR2 a b s M = (a s M).bind fun v M1 => (b s M1).bind fun w M2 => match v, w with
  | .d (.int i), .d (.int j) => if decide (-1000 ≤ i) && decide (i ≤ 1000000) && decide (-1000 ≤ j) && decide (j ≤ 1000000) then .ok (.d (.list (ranD i j))) M2 else .bad
  | _, _ => .bad := rfl
end Zm
namespace Zm
open PySem PySem.Spec PyProof.Rows L2
theorem z_multn {M : Mm} {ds : List PyData} {k : Int} (h1 : -1000 ≤ k) (h2 : k ≤ 1000) (hl : ds.length ≤ 1000) : vMulX (.d (.tuple ds)) (.d (.int k)) M = .ok (.d (.tuple (List.replicate k.toNat ds).flatten)) M := by
  rw [z_mult]
  cases ds with
  | nil =>
    rw [if_pos (show (([] : List PyData).isEmpty || decide (k = 1)) = true from rfl), if_pos (by omega)]
    have : ∀ n : Nat, (List.replicate n ([] : List PyData)).flatten = [] := fun n => by induction n with
      | zero => rfl
      | succ n ih => rw [List.replicate_succ, List.flatten_cons, ih]; rfl
    rw [this]
  | cons a ds =>
    by_cases h : k = 1
    · subst h
      rw [if_pos (show ((a :: ds).isEmpty || decide ((1 : Int) = 1)) = true from rfl), if_pos (by decide)]
      show _ = Out.ok (Val.d (.tuple (List.replicate 1 (a :: ds)).flatten)) M
      simp
    · have e : ((a :: ds).isEmpty || decide (k = 1)) = false := by rw [decide_eq_false h]; rfl
      rw [e, if_neg (by decide)]
      by_cases g : 2 ≤ k
      · rw [if_pos ⟨g, h2, hl⟩]
      · rw [if_neg (by omega), if_pos ⟨by omega, h1⟩]
        rw [show k.toNat = 0 by omega]
        rfl
end Zm
namespace Zm
open PySem PySem.Spec PyProof.Rows L2
section
variable {q : Dk} {rest r : Mm} {us : List Val} {w : Val} {M : Mm} {s : Sl} {x : PyData} {ds es : List PyData} {i : Nat}
theorem compL_map {α : Type} {g : GM} {t : TM} {e : EM} {s0 : Sl} (D : α → PyData) (p : α → Bool) (f : α → PyData) : ∀ (xs : List α), (∀ a ∈ xs, ∃ s1, g (.d (D a)) s0 M = some (s1, M) ∧ t s1 M = .ok (p a) M ∧ (p a = true → e s1 M = .ok (.d (f a)) M)) →
    compL g t e s0 ((xs.map D).map .d) M = .ok (((xs.filter p).map f).map .d) M
  | [], _ => rfl
  | a :: xs, h => by
    obtain ⟨s1, hg, ht, he⟩ := h a (List.mem_cons_self ..)
    have ih := compL_map D p f xs fun b hb => h b (List.mem_cons_of_mem _ hb)
    rw [List.map_cons, List.map_cons]
    cases hp : p a with
    | false =>
      rw [hp] at ht
      rw [compL_consF hg ht, ih, List.filter_cons_of_neg (by rw [hp]; decide)]
    | true =>
      rw [compL_consT hg (hp ▸ ht) (he hp), ih, List.filter_cons_of_pos hp]
      rfl
/-! ### the newest place -/
theorem l_get {o : MO} : (M ++ [o])[M.length]? = some o := by simp
theorem l_rd : rd (.obj M.length) (M ++ [.lst us]) = .obj M.length := by
  show (match (M ++ [MO.lst us])[M.length]? with
    | some (.frz x) => Val.d x
    | _ => .obj M.length) = _
  rw [l_get]
theorem l_ty : tyOk "list" (.obj M.length) (M ++ [.lst us]) = true := by
  show (match (M ++ [MO.lst us])[M.length]? with
    | some (.lst _) => "list" == "list"
    | some (.dct _) => "list" == "dict"
    | _ => false) = _
  rw [l_get]
  rfl
theorem l_set {o o' : MO} : (M ++ [o]).set M.length o' = M ++ [o'] := by
  rw [List.set_append_right _ _ (Nat.le_refl _), Nat.sub_self]
  rfl
theorem l_app (h : us.length < 16777216) : vAppend (.obj M.length) [w] (M ++ [.lst us]) = .ok (.d .none) (M ++ [.lst (us ++ [w])]) := by
  show (match (M ++ [MO.lst us])[M.length]? with
    | some (.lst us') => if us'.length < 16777216 then Out.ok (Val.d .none) ((M ++ [MO.lst us]).set M.length (.lst (us' ++ [w]))) else .bad
    | _ => .bad) = _
  rw [l_get]
  show (if us.length < 16777216 then Out.ok (Val.d .none) ((M ++ [MO.lst us]).set M.length (.lst (us ++ [w]))) else .bad) = _
  rw [if_pos h, l_set]
theorem l_list : listD (.obj M.length) (M ++ [.lst (ds.map .d)]) = some ds := by
  unfold listD
  exact seqD_obj l_get
theorem dk_below1 {n : Nat} (h : 0 < n) : (q.mem [.lst (ds.map Val.d)]).all (MO.below n) = true := by
  have h2 : ((ds.map Val.d).all (Val.below n)) = true := List.all_eq_true.mpr fun v hv => by
    obtain ⟨i, _, rfl⟩ := List.mem_map.mp hv
    rfl
  have e : (q.mem [MO.lst (ds.map Val.d)]) = q.mem [] ++ [MO.lst (ds.map Val.d)] := rfl
  rw [e, List.all_append, dk_below h]
  show (true && ((ds.map Val.d).all (Val.below n) && true)) = true
  rw [h2]
  rfl
theorem z_ext : vExtend (.obj (i + 2)) [.d (.list ds)] (q.mem rest) = match rest[i]? with
    | some (.lst us) => if us.length + ds.length ≤ 16777216 then .ok (.d .none) (q.mem (rest.set i (.lst (us ++ ds.map .d)))) else .bad
    | _ => .bad := by
  show (match rest[i]?, trackD (.d (.list ds)) (q.mem rest) with
    | some (.lst us), some ds => if us.length + ds.length ≤ 16777216 then Out.ok (Val.d .none) ((q.mem rest).set (i + 2) (.lst (us ++ ds.map Val.d))) else .bad
    | _, _ => .bad) = _
  cases rest[i]? with
  | none => rfl
  | some o => cases o <;> rfl
theorem lay_ints' (ns : List Int) : PyData.canLayAll0 (ns.map .int) = true := lay_ints ns
def inI (ns : List Int) (g : Int) : Bool := ns.any fun z => z == g
theorem inI_iff {ns : List Int} {g : Int} : inI ns g = true ↔ g ∈ ns := by
  unfold inI
  rw [List.any_eq_true]
  constructor
  · rintro ⟨z, hz, e⟩
    have : z = g := by simpa using e
    exact this ▸ hz
  · exact fun h => ⟨g, h, by simp⟩
theorem z_inti {ns : List Int} {g : Int} {v : Val} (h : seqD v M = some (ns.map .int)) : vIn false (.d (.int g)) v M = .ok (.d (.bool (inI ns g))) M := by
  rw [z_inp (d := .int g) (ds := ns.map .int) rfl h rfl (lay_ints ns), Bool.false_xor]
  have e : ((ns.map PyData.int).any fun z => PyData.eqv z (.int g)) = inI ns g := by
    unfold inI
    rw [List.any_map]
    rfl
  rw [e]
end
end Zm
/-! the defs of k05, printed by gen.py -/
namespace Zl
open PySem PySem.Spec PyProof.Rows L2 Zm

def topS (i : Nat) : Stmt := PySem.Challenge.pw_whateverothers_k05_whole_all_orders_of_p.main.body.getD i (.Pass ⟨0, 0, 0, 0⟩)
abbrev s_is_integer : Stmt := topS 1
abbrev s_near : Stmt := topS 3
abbrev s_fields_of : Stmt := topS 5
abbrev s_place_in : Stmt := topS 6
abbrev s_is_backed : Stmt := topS 8
abbrev s_is_order : Stmt := topS 9
abbrev s_orders_error : Stmt := topS 10
abbrev s_orders_of : Stmt := topS 11
abbrev s_ldeck : Stmt := topS 13
abbrev s_ldraw : Stmt := topS 14
abbrev s_lpick : Stmt := topS 15
abbrev s_lmixed : Stmt := topS 16
abbrev s_lbeside : Stmt := topS 17
abbrev s_lchart : Stmt := topS 18
abbrev s_lpieces : Stmt := topS 19
abbrev s_lorders_of : Stmt := topS 20
abbrev s_lboard : Stmt := topS 21
abbrev s_lwide_board : Stmt := topS 22
abbrev s_lis_wide_right : Stmt := topS 23
abbrev s_law : Stmt := topS 24
structure Txt (K : PySem.W.Frag) (mg : Str → Option Value) : Prop where
  f_is_integer : DefAt K mg "is_integer" s_is_integer
  f_near : DefAt K mg "near" s_near
  f_fields_of : DefAt K mg "fields_of" s_fields_of
  f_place_in : DefAt K mg "place_in" s_place_in
  f_is_backed : DefAt K mg "is_backed" s_is_backed
  f_is_order : DefAt K mg "is_order" s_is_order
  f_orders_error : DefAt K mg "orders_error" s_orders_error
  f_orders_of : DefAt K mg "orders_of" s_orders_of
  f_ldeck : DefAt K mg "_law_deck" s_ldeck
  f_ldraw : DefAt K mg "_law_draw" s_ldraw
  f_lpick : DefAt K mg "_law_pick" s_lpick
  f_lmixed : DefAt K mg "_law_mixed" s_lmixed
  f_lbeside : DefAt K mg "_law_beside" s_lbeside
  f_lchart : DefAt K mg "_law_chart" s_lchart
  f_lpieces : DefAt K mg "_law_pieces" s_lpieces
  f_lorders_of : DefAt K mg "_law_orders_of" s_lorders_of
  f_lboard : DefAt K mg "_law_board" s_lboard
  f_lwide_board : DefAt K mg "_law_wide_board" s_lwide_board
  f_lis_wide_right : DefAt K mg "_law_is_wide_right" s_lis_wide_right
  f_law : DefAt K mg "law" s_law
  z_isinstance : mg "isinstance" = none
  z_len : mg "len" = none
  z_int : mg "int" = none
  z_bool : mg "bool" = none
  z_tuple : mg "tuple" = none
  z_str : mg "str" = none
  z_list : mg "list" = none
  z_max : mg "max" = none
  z_sorted : mg "sorted" = none
  z_repr : mg "repr" = none
  z_range : mg "range" = none
  z_enumerate : mg "enumerate" = none
theorem bb_len : bootBuiltins "len" = some (.builtin "len") := by decide +kernel
theorem bb_int : bootBuiltins "int" = some (.type "int") := by decide +kernel
theorem bb_bool : bootBuiltins "bool" = some (.type "bool") := by decide +kernel
theorem bb_tuple : bootBuiltins "tuple" = some (.type "tuple") := by decide +kernel
theorem bb_str : bootBuiltins "str" = some (.type "str") := by decide +kernel
theorem bb_list : bootBuiltins "list" = some (.type "list") := by decide +kernel
theorem bb_max : bootBuiltins "max" = some (.builtin "max") := by decide +kernel
theorem bb_sorted : bootBuiltins "sorted" = some (.builtin "sorted") := by decide +kernel
theorem bb_repr : bootBuiltins "repr" = some (.builtin "repr") := by decide +kernel
theorem sc_is_integer : FnScope ["value"] ["value"] (defScope s_is_integer) := ⟨rfl, rfl, rfl, by decide +kernel, rfl, by decide +kernel, by decide +kernel⟩
theorem bi_is_integer : BindZ "is_integer" s_is_integer ["value"] := fun _ _ _ _ _ _ us hl => match us, hl with | [_], _ => rfl
theorem sc_near : FnScope ["chart", "field", "found", "one", "other"] ["chart", "field"] (defScope s_near) := ⟨rfl, rfl, rfl, by decide +kernel, rfl, by decide +kernel, by decide +kernel⟩
theorem bi_near : BindZ "near" s_near ["chart", "field"] := fun _ _ _ _ _ _ us hl => match us, hl with | [_, _], _ => rfl
theorem sc_fields_of : FnScope ["board", "field", "player"] ["board"] (defScope s_fields_of) := ⟨rfl, rfl, rfl, by decide +kernel, rfl, by decide +kernel, by decide +kernel⟩
theorem bi_fields_of : BindZ "fields_of" s_fields_of ["board"] := fun _ _ _ _ _ _ us hl => match us, hl with | [_], _ => rfl
theorem sc_place_in : FnScope ["board", "field", "place", "piece"] ["board", "field"] (defScope s_place_in) := ⟨rfl, rfl, rfl, by decide +kernel, rfl, by decide +kernel, by decide +kernel⟩
theorem bi_place_in : BindZ "place_in" s_place_in ["board", "field"] := fun _ _ _ _ _ _ us hl => match us, hl with | [_, _], _ => rfl
theorem sc_is_backed : FnScope ["board", "place", "field", "goal", "own"] ["board", "place", "field", "goal"] (defScope s_is_backed) := ⟨rfl, rfl, rfl, by decide +kernel, rfl, by decide +kernel, by decide +kernel⟩
theorem bi_is_backed : BindZ "is_backed" s_is_backed ["board", "place", "field", "goal"] := fun _ _ _ _ _ _ us hl => match us, hl with | [_, _, _, _], _ => rfl
theorem sc_is_order : FnScope ["board", "place", "value", "word", "fields"] ["board", "place", "value"] (defScope s_is_order) := ⟨rfl, rfl, rfl, by decide +kernel, rfl, by decide +kernel, by decide +kernel⟩
theorem bi_is_order : BindZ "is_order" s_is_order ["board", "place", "value"] := fun _ _ _ _ _ _ us hl => match us, hl with | [_, _, _], _ => rfl
theorem sc_orders_error : FnScope ["board", "value", "place", "order"] ["board", "value"] (defScope s_orders_error) := ⟨rfl, rfl, rfl, by decide +kernel, rfl, by decide +kernel, by decide +kernel⟩
theorem bi_orders_error : BindZ "orders_error" s_orders_error ["board", "value"] := fun _ _ _ _ _ _ us hl => match us, hl with | [_, _], _ => rfl
theorem sc_orders_of : FnScope ["board", "place", "own", "goals", "found", "field", "nearby", "goal"] ["board", "place"] (defScope s_orders_of) := ⟨rfl, rfl, rfl, by decide +kernel, rfl, by decide +kernel, by decide +kernel⟩
theorem bi_orders_of : BindZ "orders_of" s_orders_of ["board", "place"] := fun _ _ _ _ _ _ us hl => match us, hl with | [_, _], _ => rfl
theorem sc_ldeck : FnScope ["script", "cells", "stirred", "cell"] ["script"] (defScope s_ldeck) := ⟨rfl, rfl, rfl, by decide +kernel, rfl, by decide +kernel, by decide +kernel⟩
theorem bi_ldeck : BindZ "_law_deck" s_ldeck ["script"] := fun _ _ _ _ _ _ us hl => match us, hl with | [_], _ => rfl
theorem sc_ldraw : FnScope ["deck", "many", "mixed", "cell"] ["deck", "many"] (defScope s_ldraw) := ⟨rfl, rfl, rfl, by decide +kernel, rfl, by decide +kernel, by decide +kernel⟩
theorem bi_ldraw : BindZ "_law_draw" s_ldraw ["deck", "many"] := fun _ _ _ _ _ _ us hl => match us, hl with | [_, _], _ => rfl
theorem sc_lpick : FnScope ["deck", "items"] ["deck", "items"] (defScope s_lpick) := ⟨rfl, rfl, rfl, by decide +kernel, rfl, by decide +kernel, by decide +kernel⟩
theorem bi_lpick : BindZ "_law_pick" s_lpick ["deck", "items"] := fun _ _ _ _ _ _ us hl => match us, hl with | [_, _], _ => rfl
theorem sc_lmixed : FnScope ["deck", "items", "rest", "got"] ["deck", "items"] (defScope s_lmixed) := ⟨rfl, rfl, rfl, by decide +kernel, rfl, by decide +kernel, by decide +kernel⟩
theorem bi_lmixed : BindZ "_law_mixed" s_lmixed ["deck", "items"] := fun _ _ _ _ _ _ us hl => match us, hl with | [_, _], _ => rfl
theorem sc_lbeside : FnScope ["chart", "field", "a", "b"] ["chart", "field"] (defScope s_lbeside) := ⟨rfl, rfl, rfl, by decide +kernel, rfl, by decide +kernel, by decide +kernel⟩
theorem bi_lbeside : BindZ "_law_beside" s_lbeside ["chart", "field"] := fun _ _ _ _ _ _ us hl => match us, hl with | [_, _], _ => rfl
theorem sc_lchart : FnScope ["deck", "many", "more", "roads", "b", "turn", "centres", "a", "field"] ["deck", "many", "more"] (defScope s_lchart) := ⟨rfl, rfl, rfl, by decide +kernel, rfl, by decide +kernel, by decide +kernel⟩
theorem bi_lchart : BindZ "_law_chart" s_lchart ["deck", "many", "more"] := fun _ _ _ _ _ _ us hl => match us, hl with | [_, _, _], _ => rfl
theorem sc_lpieces : FnScope ["deck", "chart", "many", "players", "fields", "field"] ["deck", "chart", "many"] (defScope s_lpieces) := ⟨rfl, rfl, rfl, by decide +kernel, rfl, by decide +kernel, by decide +kernel⟩
theorem bi_lpieces : BindZ "_law_pieces" s_lpieces ["deck", "chart", "many"] := fun _ _ _ _ _ _ us hl => match us, hl with | [_, _, _], _ => rfl
theorem sc_lorders_of : FnScope ["board", "place", "chart", "pieces", "own", "fields", "reach", "gos", "backs", "field", "goal", "player"] ["board", "place"] (defScope s_lorders_of) := ⟨rfl, rfl, rfl, by decide +kernel, rfl, by decide +kernel, by decide +kernel⟩
theorem bi_lorders_of : BindZ "_law_orders_of" s_lorders_of ["board", "place"] := fun _ _ _ _ _ _ us hl => match us, hl with | [_, _], _ => rfl
theorem sc_lboard : FnScope ["deck", "fields", "many", "chart"] ["deck", "fields", "many"] (defScope s_lboard) := ⟨rfl, rfl, rfl, by decide +kernel, rfl, by decide +kernel, by decide +kernel⟩
theorem bi_lboard : BindZ "_law_board" s_lboard ["deck", "fields", "many"] := fun _ _ _ _ _ _ us hl => match us, hl with | [_, _, _], _ => rfl
theorem sc_lwide_board : FnScope ["deck", "many", "roads", "b", "fields", "a", "field"] ["deck"] (defScope s_lwide_board) := ⟨rfl, rfl, rfl, by decide +kernel, rfl, by decide +kernel, by decide +kernel⟩
theorem bi_lwide_board : BindZ "_law_wide_board" s_lwide_board ["deck"] := fun _ _ _ _ _ _ us hl => match us, hl with | [_], _ => rfl
theorem sc_lis_wide_right : FnScope ["deck", "board", "place", "due"] ["deck"] (defScope s_lis_wide_right) := ⟨rfl, rfl, rfl, by decide +kernel, rfl, by decide +kernel, by decide +kernel⟩
theorem bi_lis_wide_right : BindZ "_law_is_wide_right" s_lis_wide_right ["deck"] := fun _ _ _ _ _ _ us hl => match us, hl with | [_], _ => rfl
theorem sc_law : FnScope ["script", "deck", "turn", "board", "chart", "pieces", "kept", "others", "place", "numbers", "tried", "field", "menu", "order", "due", "told", "value", "goal", "player"] ["script"] (defScope s_law) := ⟨rfl, rfl, rfl, by decide +kernel, rfl, by decide +kernel, by decide +kernel⟩
theorem bi_law : BindZ "law" s_law ["script"] := fun _ _ _ _ _ _ us hl => match us, hl with | [_], _ => rfl
theorem kb_orders_of_0 : KBindZ "orders_of" s_orders_of ["board", "place"] ["place", "board"] 0 2 [1, 0] := fun _ _ _ _ _ _ us ws h1 h2 => match us, ws, h1, h2 with | [], [_, _], _, _ => ⟨rfl, rfl⟩
noncomputable def b_is_integer : SM :=
  (sRet (mAnd (mIsI "int" (mVar 0)) (mNot (mIsI "bool" (mVar 0)))))
noncomputable def d_is_integer : Den := trim (body 1 b_is_integer)
noncomputable def g0_near : GM := (gT 2 (gsCons (gN 3) (gsCons (gN 4) gsNil)))
noncomputable def l0_near : SM := (sIf (mT (mOp (vIn false) (mVar 1) (mTup (mCons (mVar 3) (mCons (mVar 4) mNil))))) (sDrop (mM "list" vAppend (mVar 2) (mCons (mOp vSub (mOp vAdd (mVar 3) (mVar 4)) (mVar 1)) mNil))) sNil)
noncomputable def b_near : SM :=
  (sSeq (sAsg (mNew mNil) (gN 2))
  (sSeq (sFor (mIt (mOp vIx (mVar 0) (mC (.int 1)))) g0_near l0_near)
  (sRet (mB vTuple (mCons (mB vSortX (mCons (mVar 2) mNil)) mNil)))))
noncomputable def d_near : Den := trim (body 5 b_near)
noncomputable def g0_fields_of : GM := (gT 2 (gsCons (gN 1) (gsCons (gN 2) gsNil)))
noncomputable def e0_fields_of : EM := (mVar 1)
noncomputable def b_fields_of : SM :=
  (sRet (mB vTuple (mCons (mComp lcK (mIt (mOp vIx (mVar 0) (mC (.int 1)))) g0_fields_of mYes e0_fields_of [1, 2]) mNil)))
noncomputable def d_fields_of : Den := trim (body 3 b_fields_of)
noncomputable def g0_place_in : GM := (gT 2 (gsCons (gN 2) (gsCons (gN 3) gsNil)))
noncomputable def l0_place_in : SM := (sIf (mT (mOp vEq (mOp vIx (mVar 3) (mC (.int 0))) (mVar 1))) (sRet (mVar 2)) sNil)
noncomputable def b_place_in : SM :=
  (sSeq (sFor (mEnum (mCons (mOp vIx (mVar 0) (mC (.int 1))) mNil)) g0_place_in l0_place_in)
  (sRet (mC .none)))
noncomputable def d_place_in : Den := trim (body 4 b_place_in)
noncomputable def g0_ldeck : GM := (gN 3)
noncomputable def t0_ldeck : TM := (mT (mOp vGe (mVar 3) (mOp vPow (mC (.int 10)) (mC (.int 15)))))
noncomputable def e0_ldeck : EM := (mVar 3)
noncomputable def g1_ldeck : GM := (gN 3)
noncomputable def l1_ldeck : SM := (sAsg (mOp vMod (mB vInt (mCons (mOp vAdd (mOp vMulX (mVar 2) (mC (.int 48271))) (mVar 3)) mNil)) (mC (.int 4294967291))) (gN 2))
noncomputable def g2_ldeck : GM := (gN 3)
noncomputable def e2_ldeck : EM := (mIf (mT (mOp vGe (mVar 3) (mC (.int 0)))) (mOp vMulX (mC (.int 2)) (mVar 3)) (mOp vSub (mOp vMulX (mNeg (mC (.int 2))) (mVar 3)) (mC (.int 1))))
noncomputable def b_ldeck : SM :=
  (sSeq (sPar [1, 2] (mCons (mComp lcK (mIt (mSl (mVar 0) oNone (oSome (mC (.int 63))))) g2_ldeck mYes e2_ldeck [3]) (mCons (mOp vAdd (mC (.int 48005)) (mB vLen (mCons (mVar 0) mNil))) mNil)))
  (sSeq (sFor (mIt (mVar 1)) g1_ldeck l1_ldeck)
  (sRet (mNew (mCons (mComp lcN (mIt (mVar 1)) g0_ldeck t0_ldeck e0_ldeck [3]) (mCons (mVar 2) (mCons (mC (.int 0)) mNil)))))))
noncomputable def d_ldeck : Den := trim (body 4 b_ldeck)
noncomputable def b_ldraw : SM :=
  (sSeq (sIf (mT (mOp vNe (mOp vIx (mVar 0) (mC (.int 0))) (mLst mNil))) (sSeq (sAsg (mOp vIx (mOp vIx (mVar 0) (mC (.int 0))) (mC (.int 0))) (gN 3))
  (sSeq (sAsg (mOp vDiv (mVar 3) (mVar 1)) (gSet (mOp vIx (mVar 0) (mC (.int 0))) (mC (.int 0)) vSetL))
  (sSeq (sIf (mT (mOp vLt (mVar 3) (mVar 1))) (sDrop (mM "list" vPop (mOp vIx (mVar 0) (mC (.int 0))) (mCons (mC (.int 0)) mNil))) sNil)
  (sRet (mOp vMod (mB vInt (mCons (mVar 3) mNil)) (mVar 1)))))) sNil)
  (sSeq (sAsg (mOp vAdd (mOp vIx (mVar 0) (mC (.int 2))) (mC (.int 1))) (gSet (mVar 0) (mC (.int 2)) vSetL))
  (sSeq (sAsg (mOp vMod (mB vInt (mCons (mOp vAdd (mOp vIx (mVar 0) (mC (.int 1))) (mOp vMulX (mC (.int 2654435761)) (mOp vIx (mVar 0) (mC (.int 2))))) mNil)) (mC (.int 4294967291))) (gN 2))
  (sSeq (sAsg (mOp vMod (mB vInt (mCons (mOp vAdd (mOp vAdd (mOp vMulX (mVar 2) (mVar 2)) (mOp vMulX (mC (.int 40503)) (mOp vIx (mVar 0) (mC (.int 2))))) (mC (.int 11))) mNil)) (mC (.int 4294967279))) (gN 2))
  (sSeq (sAsg (mOp vMod (mB vInt (mCons (mOp vAdd (mOp vMulX (mVar 2) (mVar 2)) (mOp vIx (mVar 0) (mC (.int 1)))) mNil)) (mC (.int 4294967231))) (gN 2))
  (sRet (mOp vMod (mB vInt (mCons (mOp vDiv (mVar 2) (mC (.int 64))) mNil)) (mVar 1))))))))
noncomputable def d_ldraw : Den := trim (body 4 b_ldraw)
noncomputable def g0_lbeside : GM := (gT 2 (gsCons (gN 2) (gsCons (gN 3) gsNil)))
noncomputable def t0_lbeside : TM := (mT (mOp (vIn false) (mVar 1) (mTup (mCons (mVar 2) (mCons (mVar 3) mNil)))))
noncomputable def e0_lbeside : EM := (mOp vSub (mOp vAdd (mVar 2) (mVar 3)) (mVar 1))
noncomputable def b_lbeside : SM :=
  (sRet (mB vSortX (mCons (mComp lcK (mIt (mOp vIx (mVar 0) (mC (.int 1)))) g0_lbeside t0_lbeside e0_lbeside [2, 3]) mNil)))
noncomputable def d_lbeside : Den := trim (body 4 b_lbeside)
noncomputable def b_is_backed : SM :=
  (sSeq (sAsg (mOp vIx (mCall 1 d_fields_of (mCons (mVar 0) mNil)) (mVar 1)) (gN 4))
  (sSeq (sIf (mTOr (mTNot (mT (mCall 1 d_is_integer (mCons (mVar 2) mNil)))) (mTOr (mTNot (mT (mCall 1 d_is_integer (mCons (mVar 3) mNil)))) (mTOr (mT (mOp vEq (mVar 2) (mVar 4))) (mT (mOp vIsN (mCall 2 d_place_in (mCons (mVar 0) (mCons (mVar 2) mNil))) (mC .none)))))) (sRet (mC (.bool false))) sNil)
  (sRet (mAnd (mOp (vIn false) (mVar 3) (mCall 2 d_near (mCons (mOp vIx (mVar 0) (mC (.int 0))) (mCons (mVar 4) mNil)))) (mOr (mOp vEq (mVar 3) (mVar 2)) (mOp (vIn false) (mVar 3) (mCall 2 d_near (mCons (mOp vIx (mVar 0) (mC (.int 0))) (mCons (mVar 2) mNil)))))))))
noncomputable def d_is_backed : Den := trim (body 5 b_is_backed)
noncomputable def g1_orders_of : GM := (gN 5)
noncomputable def t1_orders_of : TM := (mT (mOp vNe (mVar 5) (mVar 2)))
noncomputable def e1_orders_of : EM := (mVar 5)
noncomputable def g2_orders_of : GM := (gN 7)
noncomputable def t2_orders_of : TM := (mTOr (mT (mOp vEq (mVar 7) (mVar 5))) (mT (mOp (vIn false) (mVar 7) (mVar 6))))
noncomputable def e2_orders_of : EM := (mTup (mCons (mC (.str "back")) (mCons (mVar 5) (mCons (mVar 7) mNil))))
noncomputable def g0_orders_of : GM := (gN 5)
noncomputable def l0_orders_of : SM := (sSeq (sAsg (mCall 2 d_near (mCons (mOp vIx (mVar 0) (mC (.int 0))) (mCons (mVar 5) mNil))) (gN 6))
  (sDrop (mM "list" vExtend (mVar 4) (mCons (mComp lcK (mIt (mVar 3)) g2_orders_of t2_orders_of e2_orders_of [7]) mNil))))
noncomputable def g3_orders_of : GM := (gN 7)
noncomputable def e3_orders_of : EM := (mTup (mCons (mC (.str "go")) (mCons (mVar 7) mNil)))
noncomputable def b_orders_of : SM :=
  (sSeq (sAsg (mOp vIx (mCall 1 d_fields_of (mCons (mVar 0) mNil)) (mVar 1)) (gN 2))
  (sSeq (sAsg (mCall 2 d_near (mCons (mOp vIx (mVar 0) (mC (.int 0))) (mCons (mVar 2) mNil))) (gN 3))
  (sSeq (sAsg (mNew (mCons (mTup (mCons (mC (.str "stay")) mNil)) (mStar (mComp lcK (mIt (mVar 3)) g3_orders_of mYes e3_orders_of [7]) mNil))) (gN 4))
  (sSeq (sFor (mIt (mComp lcK (mIt (mCall 1 d_fields_of (mCons (mVar 0) mNil))) g1_orders_of t1_orders_of e1_orders_of [5])) g0_orders_of l0_orders_of)
  (sRet (mB vTuple (mCons (mVar 4) mNil)))))))
noncomputable def d_orders_of : Den := trim (body 8 b_orders_of)
noncomputable def b_lpick : SM :=
  (sRet (mOp vIx (mVar 1) (mCall 2 d_ldraw (mCons (mVar 0) (mCons (mB vLen (mCons (mVar 1) mNil)) mNil)))))
noncomputable def d_lpick : Den := trim (body 2 b_lpick)
noncomputable def b_lmixed : SM :=
  (sSeq (sPar [2, 3] (mCons (mB vListN (mCons (mVar 1) mNil)) (mCons (mNew mNil) mNil)))
  (sSeq (sWhile (mT (mOp vNe (mVar 2) (mLst mNil))) (sDrop (mM "list" vAppend (mVar 3) (mCons (mM "list" vPop (mVar 2) (mCons (mCall 2 d_ldraw (mCons (mVar 0) (mCons (mB vLen (mCons (mVar 2) mNil)) mNil))) mNil)) mNil))))
  (sRet (mFrz (mVar 3)))))
noncomputable def d_lmixed : Den := trim (body 4 b_lmixed)
noncomputable def g0_lchart : GM := (gN 8)
noncomputable def t0_lchart : TM := (mT (mOp vEq (mCall 2 d_ldraw (mCons (mVar 0) (mCons (mC (.int 2)) mNil))) (mC (.int 0))))
noncomputable def e0_lchart : EM := (mVar 8)
noncomputable def g1_lchart : GM := (gN 5)
noncomputable def l1_lchart : SM := (sSeq (sPar [7, 4] (mCons (mCall 2 d_ldraw (mCons (mVar 0) (mCons (mVar 1) mNil))) (mCons (mCall 2 d_ldraw (mCons (mVar 0) (mCons (mVar 1) mNil))) mNil)))
  (sIf (mTAnd (mT (mOp vLt (mVar 7) (mVar 4))) (mT (mOp (vIn true) (mTup (mCons (mVar 7) (mCons (mVar 4) mNil))) (mVar 3)))) (sDrop (mM "list" vAppend (mVar 3) (mCons (mTup (mCons (mVar 7) (mCons (mVar 4) mNil))) mNil))) sNil))
noncomputable def g2_lchart : GM := (gN 4)
noncomputable def l2_lchart : SM := (sIf (mT (mOp vGt (mCall 2 d_ldraw (mCons (mVar 0) (mCons (mC (.int 9)) mNil))) (mC (.int 0)))) (sDrop (mM "list" vAppend (mVar 3) (mCons (mTup (mCons (mB vMax (mCons (mC (.int 0)) (mCons (mOp vSub (mOp vSub (mVar 4) (mC (.int 1))) (mCall 2 d_ldraw (mCons (mVar 0) (mCons (mC (.int 3)) mNil)))) mNil))) (mCons (mVar 4) mNil))) mNil))) sNil)
noncomputable def b_lchart : SM :=
  (sSeq (sAsg (mNew mNil) (gN 3))
  (sSeq (sFor (mRange2 (mCons (mC (.int 1)) (mCons (mVar 1) mNil))) g2_lchart l2_lchart)
  (sSeq (sFor (mRange1 (mCons (mVar 2) mNil)) g1_lchart l1_lchart)
  (sSeq (sAsg (mComp lcK (mRange1 (mCons (mVar 1) mNil)) g0_lchart t0_lchart e0_lchart [8]) (gN 6))
  (sRet (mTup (mCons (mVar 1) (mCons (mB vTuple (mCons (mB vSortX (mCons (mVar 3) mNil)) mNil)) (mCons (mB vTuple (mCons (mVar 6) mNil)) mNil)))))))))
noncomputable def d_lchart : Den := trim (body 9 b_lchart)
noncomputable def g1_lorders_of : GM := (gN 10)
noncomputable def l1_lorders_of : SM := (sIf (mTOr (mT (mOp vEq (mVar 10) (mVar 9))) (mT (mOp (vIn false) (mVar 10) (mCall 2 d_lbeside (mCons (mVar 2) (mCons (mVar 9) mNil)))))) (sDrop (mM "list" vAppend (mVar 8) (mCons (mTup (mCons (mC (.str "back")) (mCons (mVar 9) (mCons (mVar 10) mNil)))) mNil))) sNil)
noncomputable def g0_lorders_of : GM := (gN 9)
noncomputable def l0_lorders_of : SM := (sIf (mT (mOp vNe (mVar 9) (mVar 4))) (sFor (mIt (mVar 6)) g1_lorders_of l1_lorders_of) sNil)
noncomputable def g2_lorders_of : GM := (gN 9)
noncomputable def e2_lorders_of : EM := (mTup (mCons (mC (.str "go")) (mCons (mVar 9) mNil)))
noncomputable def g3_lorders_of : GM := (gT 2 (gsCons (gN 9) (gsCons (gN 11) gsNil)))
noncomputable def e3_lorders_of : EM := (mVar 9)
noncomputable def b_lorders_of : SM :=
  (sSeq (sAsg (mVar 0) (gT 2 (gsCons (gN 2) (gsCons (gN 3) gsNil))))
  (sSeq (sPar [4, 5] (mCons (mOp vIx (mOp vIx (mVar 3) (mVar 1)) (mC (.int 0))) (mCons (mComp lcK (mIt (mVar 3)) g3_lorders_of mYes e3_lorders_of [9, 11]) mNil)))
  (sSeq (sAsg (mCall 2 d_lbeside (mCons (mVar 2) (mCons (mVar 4) mNil))) (gN 6))
  (sSeq (sPar [7, 8] (mCons (mComp lcK (mIt (mVar 6)) g2_lorders_of mYes e2_lorders_of [9]) (mCons (mNew mNil) mNil)))
  (sSeq (sFor (mIt (mVar 5)) g0_lorders_of l0_lorders_of)
  (sRet (mOp vAdd (mOp vAdd (mLst (mCons (mTup (mCons (mC (.str "stay")) mNil)) mNil)) (mVar 7)) (mB vSortX (mCons (mVar 8) mNil)))))))))
noncomputable def d_lorders_of : Den := trim (body 12 b_lorders_of)
noncomputable def b_is_order : SM :=
  (sSeq (sIf (mTOr (mTNot (mT (mIsI "tuple" (mVar 2)))) (mTOr (mT (mOp vEq (mB vLen (mCons (mVar 2) mNil)) (mC (.int 0)))) (mTNot (mT (mIsI "str" (mOp vIx (mVar 2) (mC (.int 0)))))))) (sRet (mC (.bool false))) sNil)
  (sSeq (sPar [3, 4] (mCons (mOp vIx (mVar 2) (mC (.int 0))) (mCons (mSl (mVar 2) (oSome (mC (.int 1))) oNone) mNil)))
  (sSeq (sIf (mT (mOp vEq (mVar 3) (mC (.str "stay")))) (sRet (mOp vEq (mB vLen (mCons (mVar 4) mNil)) (mC (.int 0)))) sNil)
  (sSeq (sIf (mT (mOp vEq (mVar 3) (mC (.str "go")))) (sRet (mAnd (mOp vEq (mB vLen (mCons (mVar 4) mNil)) (mC (.int 1))) (mAnd (mCall 1 d_is_integer (mCons (mOp vIx (mVar 4) (mC (.int 0))) mNil)) (mOp (vIn false) (mOp vIx (mVar 4) (mC (.int 0))) (mCall 2 d_near (mCons (mOp vIx (mVar 0) (mC (.int 0))) (mCons (mOp vIx (mCall 1 d_fields_of (mCons (mVar 0) mNil)) (mVar 1)) mNil))))))) sNil)
  (sRet (mAnd (mOp vEq (mVar 3) (mC (.str "back"))) (mAnd (mOp vEq (mB vLen (mCons (mVar 4) mNil)) (mC (.int 2))) (mCall 4 d_is_backed (mCons (mVar 0) (mCons (mVar 1) (mCons (mOp vIx (mVar 4) (mC (.int 0))) (mCons (mOp vIx (mVar 4) (mC (.int 1))) mNil))))))))))))
noncomputable def d_is_order : Den := trim (body 5 b_is_order)
noncomputable def g0_lpieces : GM := (gN 5)
noncomputable def e0_lpieces : EM := (mTup (mCons (mVar 5) (mCons (mCall 2 d_lpick (mCons (mVar 0) (mCons (mVar 3) mNil))) mNil)))
noncomputable def b_lpieces : SM :=
  (sSeq (sAsg (mSl (mCall 2 d_lmixed (mCons (mVar 0) (mCons (mLR1 (mC (.int 6))) mNil))) oNone (oSome (mOp vAdd (mC (.int 2)) (mCall 2 d_ldraw (mCons (mVar 0) (mCons (mC (.int 2)) mNil)))))) (gN 3))
  (sSeq (sAsg (mB vSortX (mCons (mSl (mCall 2 d_lmixed (mCons (mVar 0) (mCons (mLR1 (mOp vIx (mVar 1) (mC (.int 0)))) mNil))) oNone (oSome (mVar 2))) mNil)) (gN 4))
  (sRet (mB vTuple (mCons (mComp lcK (mIt (mVar 4)) g0_lpieces mYes e0_lpieces [5]) mNil)))))
noncomputable def d_lpieces : Den := trim (body 6 b_lpieces)
noncomputable def g0_lwide_board : GM := (gN 6)
noncomputable def e0_lwide_board : EM := (mTup (mCons (mVar 6) (mCons (mCall 2 d_ldraw (mCons (mVar 0) (mCons (mC (.int 6)) mNil))) mNil)))
noncomputable def g2_lwide_board : GM := (gN 5)
noncomputable def l2_lwide_board : SM := (sIf (mT (mOp vGt (mCall 2 d_ldraw (mCons (mVar 0) (mCons (mC (.int 6)) mNil))) (mC (.int 0)))) (sDrop (mM "list" vAppend (mVar 2) (mCons (mTup (mCons (mVar 5) (mCons (mVar 3) mNil))) mNil))) sNil)
noncomputable def g1_lwide_board : GM := (gN 3)
noncomputable def l1_lwide_board : SM := (sFor (mRange1 (mCons (mVar 3) mNil)) g2_lwide_board l2_lwide_board)
noncomputable def b_lwide_board : SM :=
  (sSeq (sPar [1, 2] (mCons (mOp vAdd (mC (.int 12)) (mCall 2 d_ldraw (mCons (mVar 0) (mCons (mC (.int 5)) mNil)))) (mCons (mNew mNil) mNil)))
  (sSeq (sFor (mRange1 (mCons (mVar 1) mNil)) g1_lwide_board l1_lwide_board)
  (sSeq (sAsg (mB vSortX (mCons (mSl (mCall 2 d_lmixed (mCons (mVar 0) (mCons (mLR1 (mVar 1)) mNil))) oNone (oSome (mOp vAdd (mC (.int 9)) (mCall 2 d_ldraw (mCons (mVar 0) (mCons (mOp vSub (mVar 1) (mC (.int 8))) mNil)))))) mNil)) (gN 4))
  (sRet (mTup (mCons (mTup (mCons (mVar 1) (mCons (mB vTuple (mCons (mB vSortX (mCons (mVar 2) mNil)) mNil)) (mCons (mTup mNil) mNil)))) (mCons (mB vTuple (mCons (mComp lcK (mIt (mVar 4)) g0_lwide_board mYes e0_lwide_board [6]) mNil)) mNil)))))))
noncomputable def d_lwide_board : Den := trim (body 7 b_lwide_board)
noncomputable def g0_orders_error : GM := (gT 2 (gsCons (gN 2) (gsCons (gN 3) gsNil)))
noncomputable def l0_orders_error : SM := (sIf (mTNot (mT (mCall 3 d_is_order (mCons (mVar 0) (mCons (mVar 2) (mCons (mVar 3) mNil)))))) (sRet (mTup (mCons (mC (.str "order")) (mCons (mVar 2) mNil)))) sNil)
noncomputable def b_orders_error : SM :=
  (sSeq (sIf (mTOr (mTNot (mT (mIsI "tuple" (mVar 1)))) (mT (mOp vNe (mB vLen (mCons (mVar 1) mNil)) (mB vLen (mCons (mOp vIx (mVar 0) (mC (.int 1))) mNil))))) (sRet (mC (.str "form"))) sNil)
  (sSeq (sFor (mEnum (mCons (mVar 1) mNil)) g0_orders_error l0_orders_error)
  (sRet (mC .none))))
noncomputable def d_orders_error : Den := trim (body 4 b_orders_error)
noncomputable def b_lboard : SM :=
  (sSeq (sAsg (mCall 3 d_lchart (mCons (mVar 0) (mCons (mVar 1) (mCons (mOp vAdd (mC (.int 1)) (mCall 2 d_ldraw (mCons (mVar 0) (mCons (mC (.int 4)) mNil)))) mNil)))) (gN 3))
  (sRet (mTup (mCons (mVar 3) (mCons (mCall 3 d_lpieces (mCons (mVar 0) (mCons (mVar 3) (mCons (mVar 2) mNil)))) mNil)))))
noncomputable def d_lboard : Den := trim (body 4 b_lboard)
noncomputable def b_lis_wide_right : SM :=
  (sSeq (sAsg (mCall 1 d_lwide_board (mCons (mVar 0) mNil)) (gN 1))
  (sSeq (sAsg (mCall 2 d_ldraw (mCons (mVar 0) (mCons (mB vLen (mCons (mOp vIx (mVar 1) (mC (.int 1))) mNil)) mNil))) (gN 2))
  (sSeq (sAsg (mB vRepr (mCons (mB vTuple (mCons (mCall 2 d_lorders_of (mCons (mVar 1) (mCons (mVar 2) mNil))) mNil)) mNil)) (gN 3))
  (sRet (mAnd (mOp vEq (mB vRepr (mCons (mCall 2 d_orders_of (mCons (mVar 1) (mCons (mVar 2) mNil))) mNil)) (mVar 3)) (mOp vEq (mB vRepr (mCons (mCallK 0 2 d_orders_of [1, 0] mNil (mCons (mVar 2) (mCons (mVar 1) mNil))) mNil)) (mVar 3)))))))
noncomputable def d_lis_wide_right : Den := trim (body 4 b_lis_wide_right)
noncomputable def g1_law : GM := (gN 13)
noncomputable def l1_law : SM := (sSeq (sAsg (mOp vAdd (mOp vAdd (mOp vMulX (mTup (mCons (mTup (mCons (mC (.str "stay")) mNil)) mNil)) (mVar 8)) (mTup (mCons (mVar 13) mNil))) (mOp vMulX (mTup (mCons (mTup (mCons (mC (.str "stay")) mNil)) mNil)) (mOp vSub (mOp vSub (mB vLen (mCons (mVar 5) mNil)) (mVar 8)) (mC (.int 1))))) (gN 16))
  (sIf (mT (mOp vNe (mB vRepr (mCons (mCall 2 d_orders_error (mCons (mVar 3) (mCons (mVar 16) mNil))) mNil)) (mB vRepr (mCons (mIf (mT (mOp (vIn false) (mB vRepr (mCons (mVar 13) mNil)) (mVar 12))) (mC .none) (mTup (mCons (mC (.str "order")) (mCons (mVar 8) mNil)))) mNil)))) (sRet (mC (.bool false))) sNil))
noncomputable def g2_law : GM := (gN 13)
noncomputable def e2_law : EM := (mB vRepr (mCons (mVar 13) mNil))
noncomputable def g4_law : GM := (gN 17)
noncomputable def e4_law : EM := (mTup (mCons (mC (.str "back")) (mCons (mVar 11) (mCons (mVar 17) mNil))))
noncomputable def g3_law : GM := (gN 11)
noncomputable def l3_law : SM := (sAsg (mOp vAdd (mVar 10) (mComp lcK (mIt (mVar 9)) g4_law mYes e4_law [17])) (gN 10))
noncomputable def g5_law : GM := (gN 17)
noncomputable def e5_law : EM := (mTup (mCons (mC (.str "go")) (mCons (mVar 17) mNil)))
noncomputable def g6_law : GM := (gN 8)
noncomputable def l6_law : SM := (sSeq (sAsg (mB vTuple (mCons (mCall 2 d_lorders_of (mCons (mVar 3) (mCons (mVar 8) mNil))) mNil)) (gN 14))
  (sSeq (sAsg (mLst (mCons (mCall 2 d_orders_of (mCons (mVar 3) (mCons (mVar 8) mNil))) (mCons (mCallK 0 2 d_orders_of [1, 0] mNil (mCons (mVar 8) (mCons (mVar 3) mNil))) (mCons (mCall 2 d_orders_of (mCons (mTup (mCons (mVar 4) (mCons (mVar 7) mNil))) (mCons (mVar 8) mNil))) mNil)))) (gN 15))
  (sIf (mT (mOp vNe (mB vRepr (mCons (mVar 15) mNil)) (mB vRepr (mCons (mOp vMulX (mLst (mCons (mVar 14) mNil)) (mC (.int 3))) mNil)))) (sRet (mC (.bool false))) sNil)))
noncomputable def g7_law : GM := (gT 2 (gsCons (gN 11) (gsCons (gN 18) gsNil)))
noncomputable def e7_law : EM := (mTup (mCons (mVar 11) (mCons (mOp vMod (mB vInt (mCons (mOp vAdd (mOp vAdd (mVar 18) (mC (.int 1))) (mVar 11)) mNil)) (mC (.int 6))) mNil)))
noncomputable def g0_law : GM := (gN 2)
noncomputable def l0_law : SM := (sSeq (sAsg (mCall 3 d_lboard (mCons (mVar 1) (mCons (mOp vAdd (mC (.int 3)) (mCall 2 d_ldraw (mCons (mVar 1) (mCons (mIf (mT (mOp vGt (mVar 2) (mC (.int 0)))) (mC (.int 5)) (mC (.int 3))) mNil)))) (mCons (mOp vAdd (mC (.int 1)) (mCall 2 d_ldraw (mCons (mVar 1) (mCons (mC (.int 6)) mNil)))) mNil)))) (gN 3))
  (sSeq (sAsg (mVar 3) (gT 2 (gsCons (gN 4) (gsCons (gN 5) gsNil))))
  (sSeq (sPar [6, 7] (mCons (mB vRepr (mCons (mVar 3) mNil)) (mCons (mB vTuple (mCons (mComp lcK (mIt (mVar 5)) g7_law mYes e7_law [11, 18]) mNil)) mNil)))
  (sSeq (sFor (mRange1 (mCons (mB vLen (mCons (mVar 5) mNil)) mNil)) g6_law l6_law)
  (sSeq (sPar [8, 9] (mCons (mCall 2 d_ldraw (mCons (mVar 1) (mCons (mB vLen (mCons (mVar 5) mNil)) mNil))) (mCons (mLR2 (mNeg (mC (.int 1))) (mOp vAdd (mOp vIx (mVar 4) (mC (.int 0))) (mC (.int 1)))) mNil)))
  (sSeq (sAsg (mOp vAdd (mLst (mCons (mTup (mCons (mC (.str "stay")) mNil)) mNil)) (mComp lcK (mIt (mVar 9)) g5_law mYes e5_law [17])) (gN 10))
  (sSeq (sFor (mIt (mVar 9)) g3_law l3_law)
  (sSeq (sAsg (mComp lcK (mIt (mCall 2 d_lorders_of (mCons (mVar 3) (mCons (mVar 8) mNil)))) g2_law mYes e2_law [13]) (gN 12))
  (sSeq (sFor (mIt (mIf (mT (mOp vEq (mVar 2) (mC (.int 0)))) (mVar 10) (mSl (mCall 2 d_lmixed (mCons (mVar 1) (mCons (mVar 10) mNil))) oNone (oSome (mC (.int 12)))))) g1_law l1_law)
  (sIf (mT (mOp vNe (mB vRepr (mCons (mVar 3) mNil)) (mVar 6))) (sRet (mC (.bool false))) sNil))))))))))
noncomputable def b_law : SM :=
  (sSeq (sAsg (mCall 1 d_ldeck (mCons (mVar 0) mNil)) (gN 1))
  (sSeq (sIf (mTAnd (mT (mOp vEq (mCall 2 d_ldraw (mCons (mVar 1) (mCons (mC (.int 3)) mNil))) (mC (.int 0)))) (mTNot (mT (mCall 1 d_lis_wide_right (mCons (mVar 1) mNil))))) (sRet (mC (.bool false))) sNil)
  (sSeq (sFor (mRange1 (mCons (mC (.int 3)) mNil)) g0_law l0_law)
  (sRet (mC (.bool true))))))
noncomputable def d_law : Den := trim (body 19 b_law)
section
variable {P : Program} {w : World} {K : PySem.W.Frag} {mg : Str → Option Value} {base : Heap}
theorem ok_is_integer (T : Txt K mg) : DefZ P w K mg base 1 "is_integer" s_is_integer ["value"] d_is_integer := by
  refine defZ T.f_is_integer sc_is_integer (by decide) fun f cdv A outer s H E hr hG => ?_
  have sc := sc_is_integer
  have tk : Takes (CxZ P w K mg base ["value"] "is_integer" (defScope s_is_integer) f cdv A outer s H E) (fun c d _ H' => E c d H') := takes_of rfl rfl rfl rfl
  have hp : PassesOwn (model (CxZ P w K mg base ["value"] "is_integer" (defScope s_is_integer) f cdv A outer s H E).prog (CxZ P w K mg base ["value"] "is_integer" (defScope s_is_integer) f cdv A outer s H E).w) (CxZ P w K mg base ["value"] "is_integer" (defScope s_is_integer) f cdv A outer s H E).A (CxZ P w K mg base ["value"] "is_integer" (defScope s_is_integer) f cdv A outer s H E).env (CxZ P w K mg base ["value"] "is_integer" (defScope s_is_integer) f cdv A outer s H E).xe := passes_of rfl
  exact (sss_one (ss_ret (se_and (se_isinst (T := "int") (by decide) (by rfl) T.z_isinstance (by rfl) T.z_int bb_int (se_var (pv 0))) (se_one (se_not (se_isinst (T := "bool") (by decide) (by rfl) T.z_isinstance (by rfl) T.z_bool bb_bool (se_var (pv 0))))))))
theorem ok_near (T : Txt K mg) : DefZ P w K mg base 1 "near" s_near ["chart", "field"] d_near := by
  refine defZ T.f_near sc_near (by decide) fun f cdv A outer s H E hr hG => ?_
  have sc := sc_near
  have tk : Takes (CxZ P w K mg base ["chart", "field", "found", "one", "other"] "near" (defScope s_near) f cdv A outer s H E) (fun c d _ H' => E c d H') := takes_of rfl rfl rfl rfl
  have hp : PassesOwn (model (CxZ P w K mg base ["chart", "field", "found", "one", "other"] "near" (defScope s_near) f cdv A outer s H E).prog (CxZ P w K mg base ["chart", "field", "found", "one", "other"] "near" (defScope s_near) f cdv A outer s H E).w) (CxZ P w K mg base ["chart", "field", "found", "one", "other"] "near" (defScope s_near) f cdv A outer s H E).A (CxZ P w K mg base ["chart", "field", "found", "one", "other"] "near" (defScope s_near) f cdv A outer s H E).env (CxZ P w K mg base ["chart", "field", "found", "one", "other"] "near" (defScope s_near) f cdv A outer s H E).xe := passes_of rfl
  exact (sss_cons (ss_set (i := 2) sc.nd rfl (by first | exact .inl rfl | exact .inr rfl) (se_new sa_nil))
    (sss_cons (ss_for hp rfl (si_seqE (se_ix (se_var (pv 0)) se_int)) (sg_tup rfl (sgs_cons (sg_name (pg_name (i := 3) sc.nd rfl (by first | exact .inl rfl | exact .inr rfl))) (sgs_cons (sg_name (pg_name (i := 4) sc.nd rfl (by first | exact .inl rfl | exact .inr rfl))) sgs_nil))) (sss_one (ss_if (st_in (room_u65 hr) (se_var (pv 1)) (se_tup (sa_cons (se_var (pv 3)) (sa_cons (se_var (pv 4)) sa_nil)))) (sss_one (ss_expr (se_meth PySem.F.plainAttrs_list PySem.F.slot_list_append PySem.F.type_list_append mt_append mz_append (se_var (pv 2)) (sa_cons (se_sub (se_add (se_var (pv 3)) (se_var (pv 4))) (se_var (pv 1))) sa_nil)))) sss_nil)))
    (sss_one (ss_ret (se_callTy call_tuple_of cz_tuple (by rfl) T.z_tuple bb_tuple (sa_cons (se_callB (CallR.or (CallR.or cr_sortedI cr_sortedPO) cr_sortT3) cz_sortX (by rfl) T.z_sorted bb_sorted (sa_cons (se_var (pv 2)) sa_nil)) sa_nil))))))
theorem ok_fields_of (T : Txt K mg) : DefZ P w K mg base 1 "fields_of" s_fields_of ["board"] d_fields_of := by
  refine defZ T.f_fields_of sc_fields_of (by decide) fun f cdv A outer s H E hr hG => ?_
  have sc := sc_fields_of
  have tk : Takes (CxZ P w K mg base ["board", "field", "player"] "fields_of" (defScope s_fields_of) f cdv A outer s H E) (fun c d _ H' => E c d H') := takes_of rfl rfl rfl rfl
  have hp : PassesOwn (model (CxZ P w K mg base ["board", "field", "player"] "fields_of" (defScope s_fields_of) f cdv A outer s H E).prog (CxZ P w K mg base ["board", "field", "player"] "fields_of" (defScope s_fields_of) f cdv A outer s H E).w) (CxZ P w K mg base ["board", "field", "player"] "fields_of" (defScope s_fields_of) f cdv A outer s H E).A (CxZ P w K mg base ["board", "field", "player"] "fields_of" (defScope s_fields_of) f cdv A outer s H E).env (CxZ P w K mg base ["board", "field", "player"] "fields_of" (defScope s_fields_of) f cdv A outer s H E).xe := passes_of rfl
  exact (sss_one (ss_ret (se_callTy call_tuple_of cz_tuple (by rfl) T.z_tuple bb_tuple (sa_cons (se_lc (own := [("field", 1), ("player", 2)]) (.inl rfl) rfl sc.nd (si_seqE (se_ix (se_var (pv 0)) se_int)) (blkOk_by (N := ["board", "field", "player"]) (sc := defScope s_fields_of) (own := [("field", 1), ("player", 2)]) (by decide +kernel)) (fun _ _ _ _ _ => (sgo_tup rfl (sgos_cons (sgo_name (by decide) (pg_name (i := 1) sc.nd rfl (by first | exact .inl rfl | exact .inr rfl))) (sgos_cons (sgo_name (by decide) (pg_name (i := 2) sc.nd rfl (by first | exact .inl rfl | exact .inr rfl))) sgos_nil)))) (fun _ _ _ _ _ => sts_nil) (fun _ _ _ _ _ => (se_var (pv 1)))) sa_nil))))
theorem ok_place_in (T : Txt K mg) : DefZ P w K mg base 1 "place_in" s_place_in ["board", "field"] d_place_in := by
  refine defZ T.f_place_in sc_place_in (by decide) fun f cdv A outer s H E hr hG => ?_
  have sc := sc_place_in
  have tk : Takes (CxZ P w K mg base ["board", "field", "place", "piece"] "place_in" (defScope s_place_in) f cdv A outer s H E) (fun c d _ H' => E c d H') := takes_of rfl rfl rfl rfl
  have hp : PassesOwn (model (CxZ P w K mg base ["board", "field", "place", "piece"] "place_in" (defScope s_place_in) f cdv A outer s H E).prog (CxZ P w K mg base ["board", "field", "place", "piece"] "place_in" (defScope s_place_in) f cdv A outer s H E).w) (CxZ P w K mg base ["board", "field", "place", "piece"] "place_in" (defScope s_place_in) f cdv A outer s H E).A (CxZ P w K mg base ["board", "field", "place", "piece"] "place_in" (defScope s_place_in) f cdv A outer s H E).env (CxZ P w K mg base ["board", "field", "place", "piece"] "place_in" (defScope s_place_in) f cdv A outer s H E).xe := passes_of rfl
  exact (sss_cons (ss_for hp rfl (si_enumE (by rfl) T.z_enumerate (sa_cons (se_ix (se_var (pv 0)) se_int) sa_nil)) (sg_tup rfl (sgs_cons (sg_name (pg_name (i := 2) sc.nd rfl (by first | exact .inl rfl | exact .inr rfl))) (sgs_cons (sg_name (pg_name (i := 3) sc.nd rfl (by first | exact .inl rfl | exact .inr rfl))) sgs_nil))) (sss_one (ss_if (st_eq (room_u64 hr) (se_ix (se_var (pv 3)) se_int) (se_var (pv 1))) (sss_one (ss_ret (se_var (pv 2)))) sss_nil)))
    (sss_one (ss_ret se_non)))
theorem ok_ldeck (T : Txt K mg) : DefZ P w K mg base 1 "_law_deck" s_ldeck ["script"] d_ldeck := by
  refine defZ T.f_ldeck sc_ldeck (by decide) fun f cdv A outer s H E hr hG => ?_
  have sc := sc_ldeck
  have tk : Takes (CxZ P w K mg base ["script", "cells", "stirred", "cell"] "_law_deck" (defScope s_ldeck) f cdv A outer s H E) (fun c d _ H' => E c d H') := takes_of rfl rfl rfl rfl
  have hp : PassesOwn (model (CxZ P w K mg base ["script", "cells", "stirred", "cell"] "_law_deck" (defScope s_ldeck) f cdv A outer s H E).prog (CxZ P w K mg base ["script", "cells", "stirred", "cell"] "_law_deck" (defScope s_ldeck) f cdv A outer s H E).w) (CxZ P w K mg base ["script", "cells", "stirred", "cell"] "_law_deck" (defScope s_ldeck) f cdv A outer s H E).A (CxZ P w K mg base ["script", "cells", "stirred", "cell"] "_law_deck" (defScope s_ldeck) f cdv A outer s H E).env (CxZ P w K mg base ["script", "cells", "stirred", "cell"] "_law_deck" (defScope s_ldeck) f cdv A outer s H E).xe := passes_of rfl
  exact (sss_cons (ss_par (ps_par (i := 1) (j := 2) rfl sc.nd rfl rfl (by decide) rfl rfl (SA.pa (sa_cons (se_lc (own := [("cell", 3)]) (.inl rfl) rfl sc.nd (si_seqE (se_slice (se_var (pv 0)) so_none (so_some se_int))) (blkOk_by (N := ["script", "cells", "stirred", "cell"]) (sc := defScope s_ldeck) (own := [("cell", 3)]) (by decide +kernel)) (fun _ _ _ _ _ => (sgo_name (by decide) (pg_name (i := 3) sc.nd rfl (by first | exact .inl rfl | exact .inr rfl)))) (fun _ _ _ _ _ => sts_nil) (fun _ _ _ _ _ => (se_if (st_ge (se_var (pv 3)) se_int) (se_mulx se_int (se_var (pv 3))) (se_sub (se_mulx (se_neg se_int) (se_var (pv 3))) se_int)))) (sa_cons (se_add se_int (se_callB call_len cz_len (by rfl) T.z_len bb_len (sa_cons (se_var (pv 0)) sa_nil))) sa_nil))) (by rfl)))
    (sss_cons (ss_for hp rfl (si_seqE (se_var (pv 1))) (sg_name (pg_name (i := 3) sc.nd rfl (by first | exact .inl rfl | exact .inr rfl))) (sss_one (ss_set (i := 2) sc.nd rfl (by first | exact .inl rfl | exact .inr rfl) (se_mod (se_callTy call_int1 cz_int (by rfl) T.z_int bb_int (sa_cons (se_add (se_mulx (se_var (pv 2)) se_int) (se_var (pv 3))) sa_nil)) se_int))))
    (sss_one (ss_ret (se_new (sa_cons (se_lc (own := [("cell", 3)]) (.inr rfl) rfl sc.nd (si_seqE (se_var (pv 1))) (blkOk_by (N := ["script", "cells", "stirred", "cell"]) (sc := defScope s_ldeck) (own := [("cell", 3)]) (by decide +kernel)) (fun _ _ _ _ _ => (sgo_name (by decide) (pg_name (i := 3) sc.nd rfl (by first | exact .inl rfl | exact .inr rfl)))) (fun _ _ _ _ _ => (sts_one (st_ge (se_var (pv 3)) (se_pow se_int se_int)))) (fun _ _ _ _ _ => (se_var (pv 3)))) (sa_cons (se_var (pv 2)) (sa_cons se_int sa_nil))))))))
theorem ok_ldraw (T : Txt K mg) : DefZ P w K mg base 1 "_law_draw" s_ldraw ["deck", "many"] d_ldraw := by
  refine defZ T.f_ldraw sc_ldraw (by decide) fun f cdv A outer s H E hr hG => ?_
  have sc := sc_ldraw
  have tk : Takes (CxZ P w K mg base ["deck", "many", "mixed", "cell"] "_law_draw" (defScope s_ldraw) f cdv A outer s H E) (fun c d _ H' => E c d H') := takes_of rfl rfl rfl rfl
  have hp : PassesOwn (model (CxZ P w K mg base ["deck", "many", "mixed", "cell"] "_law_draw" (defScope s_ldraw) f cdv A outer s H E).prog (CxZ P w K mg base ["deck", "many", "mixed", "cell"] "_law_draw" (defScope s_ldraw) f cdv A outer s H E).w) (CxZ P w K mg base ["deck", "many", "mixed", "cell"] "_law_draw" (defScope s_ldraw) f cdv A outer s H E).A (CxZ P w K mg base ["deck", "many", "mixed", "cell"] "_law_draw" (defScope s_ldraw) f cdv A outer s H E).env (CxZ P w K mg base ["deck", "many", "mixed", "cell"] "_law_draw" (defScope s_ldraw) f cdv A outer s H E).xe := passes_of rfl
  exact (sss_cons (ss_if (st_ne (room_u64 hr) (se_ix (se_var (pv 0)) se_int) (se_lst sa_nil)) (sss_cons (ss_set (i := 3) sc.nd rfl (by first | exact .inl rfl | exact .inr rfl) (se_ix (se_ix (se_var (pv 0)) se_int) se_int))
    (sss_cons (ss_asg (se_fdiv (se_var (pv 3)) (se_var (pv 1))) (sg_sub (fun _ => (se_ix (se_var (pv 0)) se_int)) (fun _ => se_int) set_list sz_list))
    (sss_cons (ss_if (st_lt (se_var (pv 3)) (se_var (pv 1))) (sss_one (ss_expr (se_meth PySem.F.plainAttrs_list PySem.F.slot_list_pop PySem.F.type_list_pop (MtR.or mt_pop mt_popAt) mz_pop (se_ix (se_var (pv 0)) se_int) (sa_cons se_int sa_nil)))) sss_nil)
    (sss_one (ss_ret (se_mod (se_callTy call_int1 cz_int (by rfl) T.z_int bb_int (sa_cons (se_var (pv 3)) sa_nil)) (se_var (pv 1)))))))) sss_nil)
    (sss_cons (ss_asg (se_add (se_ix (se_var (pv 0)) se_int) se_int) (sg_sub (fun _ => (se_var (pv 0))) (fun _ => se_int) set_list sz_list))
    (sss_cons (ss_set (i := 2) sc.nd rfl (by first | exact .inl rfl | exact .inr rfl) (se_mod (se_callTy call_int1 cz_int (by rfl) T.z_int bb_int (sa_cons (se_add (se_ix (se_var (pv 0)) se_int) (se_mulx se_int (se_ix (se_var (pv 0)) se_int))) sa_nil)) se_int))
    (sss_cons (ss_set (i := 2) sc.nd rfl (by first | exact .inl rfl | exact .inr rfl) (se_mod (se_callTy call_int1 cz_int (by rfl) T.z_int bb_int (sa_cons (se_add (se_add (se_mulx (se_var (pv 2)) (se_var (pv 2))) (se_mulx se_int (se_ix (se_var (pv 0)) se_int))) se_int) sa_nil)) se_int))
    (sss_cons (ss_set (i := 2) sc.nd rfl (by first | exact .inl rfl | exact .inr rfl) (se_mod (se_callTy call_int1 cz_int (by rfl) T.z_int bb_int (sa_cons (se_add (se_mulx (se_var (pv 2)) (se_var (pv 2))) (se_ix (se_var (pv 0)) se_int)) sa_nil)) se_int))
    (sss_one (ss_ret (se_mod (se_callTy call_int1 cz_int (by rfl) T.z_int bb_int (sa_cons (se_fdiv (se_var (pv 2)) se_int) sa_nil)) (se_var (pv 1))))))))))
theorem ok_lbeside (T : Txt K mg) : DefZ P w K mg base 1 "_law_beside" s_lbeside ["chart", "field"] d_lbeside := by
  refine defZ T.f_lbeside sc_lbeside (by decide) fun f cdv A outer s H E hr hG => ?_
  have sc := sc_lbeside
  have tk : Takes (CxZ P w K mg base ["chart", "field", "a", "b"] "_law_beside" (defScope s_lbeside) f cdv A outer s H E) (fun c d _ H' => E c d H') := takes_of rfl rfl rfl rfl
  have hp : PassesOwn (model (CxZ P w K mg base ["chart", "field", "a", "b"] "_law_beside" (defScope s_lbeside) f cdv A outer s H E).prog (CxZ P w K mg base ["chart", "field", "a", "b"] "_law_beside" (defScope s_lbeside) f cdv A outer s H E).w) (CxZ P w K mg base ["chart", "field", "a", "b"] "_law_beside" (defScope s_lbeside) f cdv A outer s H E).A (CxZ P w K mg base ["chart", "field", "a", "b"] "_law_beside" (defScope s_lbeside) f cdv A outer s H E).env (CxZ P w K mg base ["chart", "field", "a", "b"] "_law_beside" (defScope s_lbeside) f cdv A outer s H E).xe := passes_of rfl
  exact (sss_one (ss_ret (se_callB (CallR.or (CallR.or cr_sortedI cr_sortedPO) cr_sortT3) cz_sortX (by rfl) T.z_sorted bb_sorted (sa_cons (se_lc (own := [("a", 2), ("b", 3)]) (.inl rfl) rfl sc.nd (si_seqE (se_ix (se_var (pv 0)) se_int)) (blkOk_by (N := ["chart", "field", "a", "b"]) (sc := defScope s_lbeside) (own := [("a", 2), ("b", 3)]) (by decide +kernel)) (fun _ _ _ _ _ => (sgo_tup rfl (sgos_cons (sgo_name (by decide) (pg_name (i := 2) sc.nd rfl (by first | exact .inl rfl | exact .inr rfl))) (sgos_cons (sgo_name (by decide) (pg_name (i := 3) sc.nd rfl (by first | exact .inl rfl | exact .inr rfl))) sgos_nil)))) (fun _ _ _ _ _ => (sts_one (st_in (room_u65 hr) (se_var (pv 1)) (se_tup (sa_cons (se_var (pv 2)) (sa_cons (se_var (pv 3)) sa_nil)))))) (fun _ _ _ _ _ => (se_sub (se_add (se_var (pv 2)) (se_var (pv 3))) (se_var (pv 1))))) sa_nil))))
theorem ok_is_backed (T : Txt K mg) : DefZ P w K mg base 2 "is_backed" s_is_backed ["board", "place", "field", "goal"] d_is_backed := by
  refine defZ T.f_is_backed sc_is_backed (by decide) fun f cdv A outer s H E hr hG => ?_
  have sc := sc_is_backed
  have tk : Takes (CxZ P w K mg base ["board", "place", "field", "goal", "own"] "is_backed" (defScope s_is_backed) f cdv A outer s H E) (fun c d _ H' => E c d H') := takes_of rfl rfl rfl rfl
  have hp : PassesOwn (model (CxZ P w K mg base ["board", "place", "field", "goal", "own"] "is_backed" (defScope s_is_backed) f cdv A outer s H E).prog (CxZ P w K mg base ["board", "place", "field", "goal", "own"] "is_backed" (defScope s_is_backed) f cdv A outer s H E).w) (CxZ P w K mg base ["board", "place", "field", "goal", "own"] "is_backed" (defScope s_is_backed) f cdv A outer s H E).A (CxZ P w K mg base ["board", "place", "field", "goal", "own"] "is_backed" (defScope s_is_backed) f cdv A outer s H E).env (CxZ P w K mg base ["board", "place", "field", "goal", "own"] "is_backed" (defScope s_is_backed) f cdv A outer s H E).xe := passes_of rfl
  exact (sss_cons (ss_set (i := 4) sc.nd rfl (by first | exact .inl rfl | exact .inr rfl) (se_ix (se_callD (ok_fields_of T) bi_fields_of (hr.mono (by decide)) hG tk (by rfl) (sa_cons (se_var (pv 0)) sa_nil)) (se_var (pv 1))))
    (sss_cons (ss_if (SW.st (sw_or (st_not (st_val (se_callD (ok_is_integer T) bi_is_integer (hr.mono (by decide)) hG tk (by rfl) (sa_cons (se_var (pv 2)) sa_nil)))) (sw_or (st_not (st_val (se_callD (ok_is_integer T) bi_is_integer (hr.mono (by decide)) hG tk (by rfl) (sa_cons (se_var (pv 3)) sa_nil)))) (sw_or (st_eq (room_u64 hr) (se_var (pv 2)) (se_var (pv 4))) (sw_or1 (st_isN (se_callD (ok_place_in T) bi_place_in (hr.mono (by decide)) hG tk (by rfl) (sa_cons (se_var (pv 0)) (sa_cons (se_var (pv 2)) sa_nil))) se_non)))))) (sss_one (ss_ret se_bl)) sss_nil)
    (sss_one (ss_ret (se_and (se_in (room_u65 hr) (se_var (pv 3)) (se_callD (ok_near T) bi_near (hr.mono (by decide)) hG tk (by rfl) (sa_cons (se_ix (se_var (pv 0)) se_int) (sa_cons (se_var (pv 4)) sa_nil)))) (se_one (se_or (se_eq (room_u64 hr) (se_var (pv 3)) (se_var (pv 2))) (se_one (se_in (room_u65 hr) (se_var (pv 3)) (se_callD (ok_near T) bi_near (hr.mono (by decide)) hG tk (by rfl) (sa_cons (se_ix (se_var (pv 0)) se_int) (sa_cons (se_var (pv 2)) sa_nil))))))))))))
theorem ok_orders_of (T : Txt K mg) : DefZ P w K mg base 2 "orders_of" s_orders_of ["board", "place"] d_orders_of := by
  refine defZ T.f_orders_of sc_orders_of (by decide) fun f cdv A outer s H E hr hG => ?_
  have sc := sc_orders_of
  have tk : Takes (CxZ P w K mg base ["board", "place", "own", "goals", "found", "field", "nearby", "goal"] "orders_of" (defScope s_orders_of) f cdv A outer s H E) (fun c d _ H' => E c d H') := takes_of rfl rfl rfl rfl
  have hp : PassesOwn (model (CxZ P w K mg base ["board", "place", "own", "goals", "found", "field", "nearby", "goal"] "orders_of" (defScope s_orders_of) f cdv A outer s H E).prog (CxZ P w K mg base ["board", "place", "own", "goals", "found", "field", "nearby", "goal"] "orders_of" (defScope s_orders_of) f cdv A outer s H E).w) (CxZ P w K mg base ["board", "place", "own", "goals", "found", "field", "nearby", "goal"] "orders_of" (defScope s_orders_of) f cdv A outer s H E).A (CxZ P w K mg base ["board", "place", "own", "goals", "found", "field", "nearby", "goal"] "orders_of" (defScope s_orders_of) f cdv A outer s H E).env (CxZ P w K mg base ["board", "place", "own", "goals", "found", "field", "nearby", "goal"] "orders_of" (defScope s_orders_of) f cdv A outer s H E).xe := passes_of rfl
  exact (sss_cons (ss_set (i := 2) sc.nd rfl (by first | exact .inl rfl | exact .inr rfl) (se_ix (se_callD (ok_fields_of T) bi_fields_of (hr.mono (by decide)) hG tk (by rfl) (sa_cons (se_var (pv 0)) sa_nil)) (se_var (pv 1))))
    (sss_cons (ss_set (i := 3) sc.nd rfl (by first | exact .inl rfl | exact .inr rfl) (se_callD (ok_near T) bi_near (hr.mono (by decide)) hG tk (by rfl) (sa_cons (se_ix (se_var (pv 0)) se_int) (sa_cons (se_var (pv 2)) sa_nil))))
    (sss_cons (ss_set (i := 4) sc.nd rfl (by first | exact .inl rfl | exact .inr rfl) (se_new (sa_cons (se_tup (sa_cons se_str sa_nil)) (sa_star (se_lc (own := [("goal", 7)]) (.inl rfl) rfl sc.nd (si_seqE (se_var (pv 3))) (blkOk_by (N := ["board", "place", "own", "goals", "found", "field", "nearby", "goal"]) (sc := defScope s_orders_of) (own := [("goal", 7)]) (by decide +kernel)) (fun _ _ _ _ _ => (sgo_name (by decide) (pg_name (i := 7) sc.nd rfl (by first | exact .inl rfl | exact .inr rfl)))) (fun _ _ _ _ _ => sts_nil) (fun _ _ _ _ _ => (se_tup (sa_cons se_str (sa_cons (se_var (pv 7)) sa_nil))))) sa_nil))))
    (sss_cons (ss_for hp rfl (si_seqE (se_lc (own := [("field", 5)]) (.inl rfl) rfl sc.nd (si_seqE (se_callD (ok_fields_of T) bi_fields_of (hr.mono (by decide)) hG tk (by rfl) (sa_cons (se_var (pv 0)) sa_nil))) (blkOk_by (N := ["board", "place", "own", "goals", "found", "field", "nearby", "goal"]) (sc := defScope s_orders_of) (own := [("field", 5)]) (by decide +kernel)) (fun _ _ _ _ _ => (sgo_name (by decide) (pg_name (i := 5) sc.nd rfl (by first | exact .inl rfl | exact .inr rfl)))) (fun _ _ _ _ _ => (sts_one (st_ne (room_u64 hr) (se_var (pv 5)) (se_var (pv 2))))) (fun _ _ _ _ _ => (se_var (pv 5))))) (sg_name (pg_name (i := 5) sc.nd rfl (by first | exact .inl rfl | exact .inr rfl))) (sss_cons (ss_set (i := 6) sc.nd rfl (by first | exact .inl rfl | exact .inr rfl) (se_callD (ok_near T) bi_near (hr.mono (by decide)) hG tk (by rfl) (sa_cons (se_ix (se_var (pv 0)) se_int) (sa_cons (se_var (pv 5)) sa_nil))))
    (sss_one (ss_expr (se_meth PySem.F.plainAttrs_list PySem.F.slot_list_extend PySem.F.type_list_extend mt_extend mz_extend (se_var (pv 4)) (sa_cons (se_lc (own := [("goal", 7)]) (.inl rfl) rfl sc.nd (si_seqE (se_var (pv 3))) (blkOk_by (N := ["board", "place", "own", "goals", "found", "field", "nearby", "goal"]) (sc := defScope s_orders_of) (own := [("goal", 7)]) (by decide +kernel)) (fun _ _ _ _ _ => (sgo_name (by decide) (pg_name (i := 7) sc.nd rfl (by first | exact .inl rfl | exact .inr rfl)))) (fun _ _ _ _ _ => (sts_one (SW.st (sw_or (st_eq (room_u64 hr) (se_var (pv 7)) (se_var (pv 5))) (sw_or1 (st_in (room_u65 hr) (se_var (pv 7)) (se_var (pv 6)))))))) (fun _ _ _ _ _ => (se_tup (sa_cons se_str (sa_cons (se_var (pv 5)) (sa_cons (se_var (pv 7)) sa_nil)))))) sa_nil))))))
    (sss_one (ss_ret (se_callTy call_tuple_of cz_tuple (by rfl) T.z_tuple bb_tuple (sa_cons (se_var (pv 4)) sa_nil))))))))
theorem ok_lpick (T : Txt K mg) : DefZ P w K mg base 2 "_law_pick" s_lpick ["deck", "items"] d_lpick := by
  refine defZ T.f_lpick sc_lpick (by decide) fun f cdv A outer s H E hr hG => ?_
  have sc := sc_lpick
  have tk : Takes (CxZ P w K mg base ["deck", "items"] "_law_pick" (defScope s_lpick) f cdv A outer s H E) (fun c d _ H' => E c d H') := takes_of rfl rfl rfl rfl
  have hp : PassesOwn (model (CxZ P w K mg base ["deck", "items"] "_law_pick" (defScope s_lpick) f cdv A outer s H E).prog (CxZ P w K mg base ["deck", "items"] "_law_pick" (defScope s_lpick) f cdv A outer s H E).w) (CxZ P w K mg base ["deck", "items"] "_law_pick" (defScope s_lpick) f cdv A outer s H E).A (CxZ P w K mg base ["deck", "items"] "_law_pick" (defScope s_lpick) f cdv A outer s H E).env (CxZ P w K mg base ["deck", "items"] "_law_pick" (defScope s_lpick) f cdv A outer s H E).xe := passes_of rfl
  exact (sss_one (ss_ret (se_ix (se_var (pv 1)) (se_callD (ok_ldraw T) bi_ldraw (hr.mono (by decide)) hG tk (by rfl) (sa_cons (se_var (pv 0)) (sa_cons (se_callB call_len cz_len (by rfl) T.z_len bb_len (sa_cons (se_var (pv 1)) sa_nil)) sa_nil))))))
theorem ok_lmixed (T : Txt K mg) : DefZ P w K mg base 2 "_law_mixed" s_lmixed ["deck", "items"] d_lmixed := by
  refine defZ T.f_lmixed sc_lmixed (by decide) fun f cdv A outer s H E hr hG => ?_
  have sc := sc_lmixed
  have tk : Takes (CxZ P w K mg base ["deck", "items", "rest", "got"] "_law_mixed" (defScope s_lmixed) f cdv A outer s H E) (fun c d _ H' => E c d H') := takes_of rfl rfl rfl rfl
  have hp : PassesOwn (model (CxZ P w K mg base ["deck", "items", "rest", "got"] "_law_mixed" (defScope s_lmixed) f cdv A outer s H E).prog (CxZ P w K mg base ["deck", "items", "rest", "got"] "_law_mixed" (defScope s_lmixed) f cdv A outer s H E).w) (CxZ P w K mg base ["deck", "items", "rest", "got"] "_law_mixed" (defScope s_lmixed) f cdv A outer s H E).A (CxZ P w K mg base ["deck", "items", "rest", "got"] "_law_mixed" (defScope s_lmixed) f cdv A outer s H E).env (CxZ P w K mg base ["deck", "items", "rest", "got"] "_law_mixed" (defScope s_lmixed) f cdv A outer s H E).xe := passes_of rfl
  exact (sss_cons (ss_par (ps_par (i := 2) (j := 3) rfl sc.nd rfl rfl (by decide) rfl rfl (SA.pa (sa_cons (se_callTy call_list_of cz_listN (by rfl) T.z_list bb_list (sa_cons (se_var (pv 1)) sa_nil)) (sa_cons (se_new sa_nil) sa_nil))) (by rfl)))
    (sss_cons (ss_while hp (st_ne (room_u64 hr) (se_var (pv 2)) (se_lst sa_nil)) (sss_one (ss_expr (se_meth PySem.F.plainAttrs_list PySem.F.slot_list_append PySem.F.type_list_append mt_append mz_append (se_var (pv 3)) (sa_cons (se_meth PySem.F.plainAttrs_list PySem.F.slot_list_pop PySem.F.type_list_pop (MtR.or mt_pop mt_popAt) mz_pop (se_var (pv 2)) (sa_cons (se_callD (ok_ldraw T) bi_ldraw (hr.mono (by decide)) hG tk (by rfl) (sa_cons (se_var (pv 0)) (sa_cons (se_callB call_len cz_len (by rfl) T.z_len bb_len (sa_cons (se_var (pv 2)) sa_nil)) sa_nil))) sa_nil)) sa_nil)))))
    (sss_one (ss_ret (se_frz (se_var (pv 3)))))))
theorem ok_lchart (T : Txt K mg) : DefZ P w K mg base 2 "_law_chart" s_lchart ["deck", "many", "more"] d_lchart := by
  refine defZ T.f_lchart sc_lchart (by decide) fun f cdv A outer s H E hr hG => ?_
  have sc := sc_lchart
  have tk : Takes (CxZ P w K mg base ["deck", "many", "more", "roads", "b", "turn", "centres", "a", "field"] "_law_chart" (defScope s_lchart) f cdv A outer s H E) (fun c d _ H' => E c d H') := takes_of rfl rfl rfl rfl
  have hp : PassesOwn (model (CxZ P w K mg base ["deck", "many", "more", "roads", "b", "turn", "centres", "a", "field"] "_law_chart" (defScope s_lchart) f cdv A outer s H E).prog (CxZ P w K mg base ["deck", "many", "more", "roads", "b", "turn", "centres", "a", "field"] "_law_chart" (defScope s_lchart) f cdv A outer s H E).w) (CxZ P w K mg base ["deck", "many", "more", "roads", "b", "turn", "centres", "a", "field"] "_law_chart" (defScope s_lchart) f cdv A outer s H E).A (CxZ P w K mg base ["deck", "many", "more", "roads", "b", "turn", "centres", "a", "field"] "_law_chart" (defScope s_lchart) f cdv A outer s H E).env (CxZ P w K mg base ["deck", "many", "more", "roads", "b", "turn", "centres", "a", "field"] "_law_chart" (defScope s_lchart) f cdv A outer s H E).xe := passes_of rfl
  exact (sss_cons (ss_set (i := 3) sc.nd rfl (by first | exact .inl rfl | exact .inr rfl) (se_new sa_nil))
    (sss_cons (ss_for hp rfl (si_range2E (by rfl) T.z_range (sa_cons se_int (sa_cons (se_var (pv 1)) sa_nil))) (sg_name (pg_name (i := 4) sc.nd rfl (by first | exact .inl rfl | exact .inr rfl))) (sss_one (ss_if (st_gt (se_callD (ok_ldraw T) bi_ldraw (hr.mono (by decide)) hG tk (by rfl) (sa_cons (se_var (pv 0)) (sa_cons se_int sa_nil))) se_int) (sss_one (ss_expr (se_meth PySem.F.plainAttrs_list PySem.F.slot_list_append PySem.F.type_list_append mt_append mz_append (se_var (pv 3)) (sa_cons (se_tup (sa_cons (se_callB (call_max2 rfl) cz_i2 (by rfl) T.z_max bb_max (sa_cons se_int (sa_cons (se_sub (se_sub (se_var (pv 4)) se_int) (se_callD (ok_ldraw T) bi_ldraw (hr.mono (by decide)) hG tk (by rfl) (sa_cons (se_var (pv 0)) (sa_cons se_int sa_nil)))) sa_nil))) (sa_cons (se_var (pv 4)) sa_nil))) sa_nil)))) sss_nil)))
    (sss_cons (ss_for hp rfl (si_range1E (by rfl) T.z_range (sa_cons (se_var (pv 2)) sa_nil)) (sg_name (pg_name (i := 5) sc.nd rfl (by first | exact .inl rfl | exact .inr rfl))) (sss_cons (ss_par (ps_par (i := 7) (j := 4) rfl sc.nd rfl rfl (by decide) rfl rfl (SA.pa (sa_cons (se_callD (ok_ldraw T) bi_ldraw (hr.mono (by decide)) hG tk (by rfl) (sa_cons (se_var (pv 0)) (sa_cons (se_var (pv 1)) sa_nil))) (sa_cons (se_callD (ok_ldraw T) bi_ldraw (hr.mono (by decide)) hG tk (by rfl) (sa_cons (se_var (pv 0)) (sa_cons (se_var (pv 1)) sa_nil))) sa_nil))) (by rfl)))
    (sss_one (ss_if (SW.st (sw_and (st_lt (se_var (pv 7)) (se_var (pv 4))) (sw_and1 (st_notIn (room_u65 hr) (se_tup (sa_cons (se_var (pv 7)) (sa_cons (se_var (pv 4)) sa_nil))) (se_var (pv 3)))))) (sss_one (ss_expr (se_meth PySem.F.plainAttrs_list PySem.F.slot_list_append PySem.F.type_list_append mt_append mz_append (se_var (pv 3)) (sa_cons (se_tup (sa_cons (se_var (pv 7)) (sa_cons (se_var (pv 4)) sa_nil))) sa_nil)))) sss_nil))))
    (sss_cons (ss_setLc (i := 6) (own := [("field", 8)]) (.inl rfl) rfl sc.nd rfl rfl (sw_true rfl rfl rfl (by decide +kernel)) (si_range1E (by rfl) T.z_range (sa_cons (se_var (pv 1)) sa_nil)) (blkOk_by (N := ["deck", "many", "more", "roads", "b", "turn", "centres", "a", "field"]) (sc := defScope s_lchart) (own := [("field", 8)]) (by decide +kernel)) (fun _ _ _ _ _ => (sgo_name (by decide) (pg_name (i := 8) sc.nd rfl (by first | exact .inl rfl | exact .inr rfl)))) (fun _ _ _ _ _ => (sts_one (st_eq (room_u64 hr) (se_callD (ok_ldraw T) bi_ldraw (hr.mono (by decide)) hG takes0 (by rfl) (sa_cons (se_var (pv 0)) (sa_cons se_int sa_nil))) se_int))) (fun _ _ _ _ _ => (se_var (pv 8))))
    (sss_one (ss_ret (se_tup (sa_cons (se_var (pv 1)) (sa_cons (se_callTy call_tuple_of cz_tuple (by rfl) T.z_tuple bb_tuple (sa_cons (se_callB (CallR.or (CallR.or cr_sortedI cr_sortedPO) cr_sortT3) cz_sortX (by rfl) T.z_sorted bb_sorted (sa_cons (se_var (pv 3)) sa_nil)) sa_nil)) (sa_cons (se_callTy call_tuple_of cz_tuple (by rfl) T.z_tuple bb_tuple (sa_cons (se_var (pv 6)) sa_nil)) sa_nil))))))))))
theorem ok_lorders_of (T : Txt K mg) : DefZ P w K mg base 2 "_law_orders_of" s_lorders_of ["board", "place"] d_lorders_of := by
  refine defZ T.f_lorders_of sc_lorders_of (by decide) fun f cdv A outer s H E hr hG => ?_
  have sc := sc_lorders_of
  have tk : Takes (CxZ P w K mg base ["board", "place", "chart", "pieces", "own", "fields", "reach", "gos", "backs", "field", "goal", "player"] "_law_orders_of" (defScope s_lorders_of) f cdv A outer s H E) (fun c d _ H' => E c d H') := takes_of rfl rfl rfl rfl
  have hp : PassesOwn (model (CxZ P w K mg base ["board", "place", "chart", "pieces", "own", "fields", "reach", "gos", "backs", "field", "goal", "player"] "_law_orders_of" (defScope s_lorders_of) f cdv A outer s H E).prog (CxZ P w K mg base ["board", "place", "chart", "pieces", "own", "fields", "reach", "gos", "backs", "field", "goal", "player"] "_law_orders_of" (defScope s_lorders_of) f cdv A outer s H E).w) (CxZ P w K mg base ["board", "place", "chart", "pieces", "own", "fields", "reach", "gos", "backs", "field", "goal", "player"] "_law_orders_of" (defScope s_lorders_of) f cdv A outer s H E).A (CxZ P w K mg base ["board", "place", "chart", "pieces", "own", "fields", "reach", "gos", "backs", "field", "goal", "player"] "_law_orders_of" (defScope s_lorders_of) f cdv A outer s H E).env (CxZ P w K mg base ["board", "place", "chart", "pieces", "own", "fields", "reach", "gos", "backs", "field", "goal", "player"] "_law_orders_of" (defScope s_lorders_of) f cdv A outer s H E).xe := passes_of rfl
  exact (sss_cons (ss_asg (se_var (pv 0)) (sg_tup rfl (sgs_cons (sg_name (pg_name (i := 2) sc.nd rfl (by first | exact .inl rfl | exact .inr rfl))) (sgs_cons (sg_name (pg_name (i := 3) sc.nd rfl (by first | exact .inl rfl | exact .inr rfl))) sgs_nil))))
    (sss_cons (ss_par (ps_par (i := 4) (j := 5) rfl sc.nd rfl rfl (by decide) rfl rfl (SA.pa (sa_cons (se_ix (se_ix (se_var (pv 3)) (se_var (pv 1))) se_int) (sa_cons (se_lc (own := [("field", 9), ("player", 11)]) (.inl rfl) rfl sc.nd (si_seqE (se_var (pv 3))) (blkOk_by (N := ["board", "place", "chart", "pieces", "own", "fields", "reach", "gos", "backs", "field", "goal", "player"]) (sc := defScope s_lorders_of) (own := [("field", 9), ("player", 11)]) (by decide +kernel)) (fun _ _ _ _ _ => (sgo_tup rfl (sgos_cons (sgo_name (by decide) (pg_name (i := 9) sc.nd rfl (by first | exact .inl rfl | exact .inr rfl))) (sgos_cons (sgo_name (by decide) (pg_name (i := 11) sc.nd rfl (by first | exact .inl rfl | exact .inr rfl))) sgos_nil)))) (fun _ _ _ _ _ => sts_nil) (fun _ _ _ _ _ => (se_var (pv 9)))) sa_nil))) (by rfl)))
    (sss_cons (ss_set (i := 6) sc.nd rfl (by first | exact .inl rfl | exact .inr rfl) (se_callD (ok_lbeside T) bi_lbeside (hr.mono (by decide)) hG tk (by rfl) (sa_cons (se_var (pv 2)) (sa_cons (se_var (pv 4)) sa_nil))))
    (sss_cons (ss_par (ps_par (i := 7) (j := 8) rfl sc.nd rfl rfl (by decide) rfl rfl (SA.pa (sa_cons (se_lc (own := [("field", 9)]) (.inl rfl) rfl sc.nd (si_seqE (se_var (pv 6))) (blkOk_by (N := ["board", "place", "chart", "pieces", "own", "fields", "reach", "gos", "backs", "field", "goal", "player"]) (sc := defScope s_lorders_of) (own := [("field", 9)]) (by decide +kernel)) (fun _ _ _ _ _ => (sgo_name (by decide) (pg_name (i := 9) sc.nd rfl (by first | exact .inl rfl | exact .inr rfl)))) (fun _ _ _ _ _ => sts_nil) (fun _ _ _ _ _ => (se_tup (sa_cons se_str (sa_cons (se_var (pv 9)) sa_nil))))) (sa_cons (se_new sa_nil) sa_nil))) (by rfl)))
    (sss_cons (ss_for hp rfl (si_seqE (se_var (pv 5))) (sg_name (pg_name (i := 9) sc.nd rfl (by first | exact .inl rfl | exact .inr rfl))) (sss_one (ss_if (st_ne (room_u64 hr) (se_var (pv 9)) (se_var (pv 4))) (sss_one (ss_for hp rfl (si_seqE (se_var (pv 6))) (sg_name (pg_name (i := 10) sc.nd rfl (by first | exact .inl rfl | exact .inr rfl))) (sss_one (ss_if (SW.st (sw_or (st_eq (room_u64 hr) (se_var (pv 10)) (se_var (pv 9))) (sw_or1 (st_in (room_u65 hr) (se_var (pv 10)) (se_callD (ok_lbeside T) bi_lbeside (hr.mono (by decide)) hG tk (by rfl) (sa_cons (se_var (pv 2)) (sa_cons (se_var (pv 9)) sa_nil))))))) (sss_one (ss_expr (se_meth PySem.F.plainAttrs_list PySem.F.slot_list_append PySem.F.type_list_append mt_append mz_append (se_var (pv 8)) (sa_cons (se_tup (sa_cons se_str (sa_cons (se_var (pv 9)) (sa_cons (se_var (pv 10)) sa_nil)))) sa_nil)))) sss_nil)))) sss_nil)))
    (sss_one (ss_ret (se_add (se_add (se_lst (sa_cons (se_tup (sa_cons se_str sa_nil)) sa_nil)) (se_var (pv 7))) (se_callB (CallR.or (CallR.or cr_sortedI cr_sortedPO) cr_sortT3) cz_sortX (by rfl) T.z_sorted bb_sorted (sa_cons (se_var (pv 8)) sa_nil))))))))))
theorem ok_is_order (T : Txt K mg) : DefZ P w K mg base 3 "is_order" s_is_order ["board", "place", "value"] d_is_order := by
  refine defZ T.f_is_order sc_is_order (by decide) fun f cdv A outer s H E hr hG => ?_
  have sc := sc_is_order
  have tk : Takes (CxZ P w K mg base ["board", "place", "value", "word", "fields"] "is_order" (defScope s_is_order) f cdv A outer s H E) (fun c d _ H' => E c d H') := takes_of rfl rfl rfl rfl
  have hp : PassesOwn (model (CxZ P w K mg base ["board", "place", "value", "word", "fields"] "is_order" (defScope s_is_order) f cdv A outer s H E).prog (CxZ P w K mg base ["board", "place", "value", "word", "fields"] "is_order" (defScope s_is_order) f cdv A outer s H E).w) (CxZ P w K mg base ["board", "place", "value", "word", "fields"] "is_order" (defScope s_is_order) f cdv A outer s H E).A (CxZ P w K mg base ["board", "place", "value", "word", "fields"] "is_order" (defScope s_is_order) f cdv A outer s H E).env (CxZ P w K mg base ["board", "place", "value", "word", "fields"] "is_order" (defScope s_is_order) f cdv A outer s H E).xe := passes_of rfl
  exact (sss_cons (ss_if (SW.st (sw_or (st_not (st_val (se_isinst (T := "tuple") (by decide) (by rfl) T.z_isinstance (by rfl) T.z_tuple bb_tuple (se_var (pv 2))))) (sw_or (st_eq (room_u64 hr) (se_callB call_len cz_len (by rfl) T.z_len bb_len (sa_cons (se_var (pv 2)) sa_nil)) se_int) (sw_or1 (st_not (st_val (se_isinst (T := "str") (by decide) (by rfl) T.z_isinstance (by rfl) T.z_str bb_str (se_ix (se_var (pv 2)) se_int)))))))) (sss_one (ss_ret se_bl)) sss_nil)
    (sss_cons (ss_par (ps_par (i := 3) (j := 4) rfl sc.nd rfl rfl (by decide) rfl rfl (SA.pa (sa_cons (se_ix (se_var (pv 2)) se_int) (sa_cons (se_slice (se_var (pv 2)) (so_some se_int) so_none) sa_nil))) (by rfl)))
    (sss_cons (ss_if (st_eq (room_u64 hr) (se_var (pv 3)) se_str) (sss_one (ss_ret (se_eq (room_u64 hr) (se_callB call_len cz_len (by rfl) T.z_len bb_len (sa_cons (se_var (pv 4)) sa_nil)) se_int))) sss_nil)
    (sss_cons (ss_if (st_eq (room_u64 hr) (se_var (pv 3)) se_str) (sss_one (ss_ret (se_and (se_eq (room_u64 hr) (se_callB call_len cz_len (by rfl) T.z_len bb_len (sa_cons (se_var (pv 4)) sa_nil)) se_int) (se_and (se_callD (ok_is_integer T) bi_is_integer (hr.mono (by decide)) hG tk (by rfl) (sa_cons (se_ix (se_var (pv 4)) se_int) sa_nil)) (se_one (se_in (room_u65 hr) (se_ix (se_var (pv 4)) se_int) (se_callD (ok_near T) bi_near (hr.mono (by decide)) hG tk (by rfl) (sa_cons (se_ix (se_var (pv 0)) se_int) (sa_cons (se_ix (se_callD (ok_fields_of T) bi_fields_of (hr.mono (by decide)) hG tk (by rfl) (sa_cons (se_var (pv 0)) sa_nil)) (se_var (pv 1))) sa_nil))))))))) sss_nil)
    (sss_one (ss_ret (se_and (se_eq (room_u64 hr) (se_var (pv 3)) se_str) (se_and (se_eq (room_u64 hr) (se_callB call_len cz_len (by rfl) T.z_len bb_len (sa_cons (se_var (pv 4)) sa_nil)) se_int) (se_one (se_callD (ok_is_backed T) bi_is_backed (hr.mono (by decide)) hG tk (by rfl) (sa_cons (se_var (pv 0)) (sa_cons (se_var (pv 1)) (sa_cons (se_ix (se_var (pv 4)) se_int) (sa_cons (se_ix (se_var (pv 4)) se_int) sa_nil))))))))))))))
theorem ok_lpieces (T : Txt K mg) : DefZ P w K mg base 3 "_law_pieces" s_lpieces ["deck", "chart", "many"] d_lpieces := by
  refine defZ T.f_lpieces sc_lpieces (by decide) fun f cdv A outer s H E hr hG => ?_
  have sc := sc_lpieces
  have tk : Takes (CxZ P w K mg base ["deck", "chart", "many", "players", "fields", "field"] "_law_pieces" (defScope s_lpieces) f cdv A outer s H E) (fun c d _ H' => E c d H') := takes_of rfl rfl rfl rfl
  have hp : PassesOwn (model (CxZ P w K mg base ["deck", "chart", "many", "players", "fields", "field"] "_law_pieces" (defScope s_lpieces) f cdv A outer s H E).prog (CxZ P w K mg base ["deck", "chart", "many", "players", "fields", "field"] "_law_pieces" (defScope s_lpieces) f cdv A outer s H E).w) (CxZ P w K mg base ["deck", "chart", "many", "players", "fields", "field"] "_law_pieces" (defScope s_lpieces) f cdv A outer s H E).A (CxZ P w K mg base ["deck", "chart", "many", "players", "fields", "field"] "_law_pieces" (defScope s_lpieces) f cdv A outer s H E).env (CxZ P w K mg base ["deck", "chart", "many", "players", "fields", "field"] "_law_pieces" (defScope s_lpieces) f cdv A outer s H E).xe := passes_of rfl
  exact (sss_cons (ss_set (i := 3) sc.nd rfl (by first | exact .inl rfl | exact .inr rfl) (se_slice (se_callD (ok_lmixed T) bi_lmixed (hr.mono (by decide)) hG tk (by rfl) (sa_cons (se_var (pv 0)) (sa_cons (se_lr1 rfl (by rfl) T.z_list (by rfl) T.z_range se_int) sa_nil))) so_none (so_some (se_add se_int (se_callD (ok_ldraw T) bi_ldraw (hr.mono (by decide)) hG tk (by rfl) (sa_cons (se_var (pv 0)) (sa_cons se_int sa_nil)))))))
    (sss_cons (ss_set (i := 4) sc.nd rfl (by first | exact .inl rfl | exact .inr rfl) (se_callB (CallR.or (CallR.or cr_sortedI cr_sortedPO) cr_sortT3) cz_sortX (by rfl) T.z_sorted bb_sorted (sa_cons (se_slice (se_callD (ok_lmixed T) bi_lmixed (hr.mono (by decide)) hG tk (by rfl) (sa_cons (se_var (pv 0)) (sa_cons (se_lr1 rfl (by rfl) T.z_list (by rfl) T.z_range (se_ix (se_var (pv 1)) se_int)) sa_nil))) so_none (so_some (se_var (pv 2)))) sa_nil)))
    (sss_one (ss_ret (se_callTy call_tuple_of cz_tuple (by rfl) T.z_tuple bb_tuple (sa_cons (se_lc (own := [("field", 5)]) (.inl rfl) rfl sc.nd (si_seqE (se_var (pv 4))) (blkOk_by (N := ["deck", "chart", "many", "players", "fields", "field"]) (sc := defScope s_lpieces) (own := [("field", 5)]) (by decide +kernel)) (fun _ _ _ _ _ => (sgo_name (by decide) (pg_name (i := 5) sc.nd rfl (by first | exact .inl rfl | exact .inr rfl)))) (fun _ _ _ _ _ => sts_nil) (fun _ _ _ _ _ => (se_tup (sa_cons (se_var (pv 5)) (sa_cons (se_callD (ok_lpick T) bi_lpick (hr.mono (by decide)) hG takes0 (by rfl) (sa_cons (se_var (pv 0)) (sa_cons (se_var (pv 3)) sa_nil))) sa_nil))))) sa_nil))))))
theorem ok_lwide_board (T : Txt K mg) : DefZ P w K mg base 3 "_law_wide_board" s_lwide_board ["deck"] d_lwide_board := by
  refine defZ T.f_lwide_board sc_lwide_board (by decide) fun f cdv A outer s H E hr hG => ?_
  have sc := sc_lwide_board
  have tk : Takes (CxZ P w K mg base ["deck", "many", "roads", "b", "fields", "a", "field"] "_law_wide_board" (defScope s_lwide_board) f cdv A outer s H E) (fun c d _ H' => E c d H') := takes_of rfl rfl rfl rfl
  have hp : PassesOwn (model (CxZ P w K mg base ["deck", "many", "roads", "b", "fields", "a", "field"] "_law_wide_board" (defScope s_lwide_board) f cdv A outer s H E).prog (CxZ P w K mg base ["deck", "many", "roads", "b", "fields", "a", "field"] "_law_wide_board" (defScope s_lwide_board) f cdv A outer s H E).w) (CxZ P w K mg base ["deck", "many", "roads", "b", "fields", "a", "field"] "_law_wide_board" (defScope s_lwide_board) f cdv A outer s H E).A (CxZ P w K mg base ["deck", "many", "roads", "b", "fields", "a", "field"] "_law_wide_board" (defScope s_lwide_board) f cdv A outer s H E).env (CxZ P w K mg base ["deck", "many", "roads", "b", "fields", "a", "field"] "_law_wide_board" (defScope s_lwide_board) f cdv A outer s H E).xe := passes_of rfl
  exact (sss_cons (ss_par (ps_par (i := 1) (j := 2) rfl sc.nd rfl rfl (by decide) rfl rfl (SA.pa (sa_cons (se_add se_int (se_callD (ok_ldraw T) bi_ldraw (hr.mono (by decide)) hG tk (by rfl) (sa_cons (se_var (pv 0)) (sa_cons se_int sa_nil)))) (sa_cons (se_new sa_nil) sa_nil))) (by rfl)))
    (sss_cons (ss_for hp rfl (si_range1E (by rfl) T.z_range (sa_cons (se_var (pv 1)) sa_nil)) (sg_name (pg_name (i := 3) sc.nd rfl (by first | exact .inl rfl | exact .inr rfl))) (sss_one (ss_for hp rfl (si_range1E (by rfl) T.z_range (sa_cons (se_var (pv 3)) sa_nil)) (sg_name (pg_name (i := 5) sc.nd rfl (by first | exact .inl rfl | exact .inr rfl))) (sss_one (ss_if (st_gt (se_callD (ok_ldraw T) bi_ldraw (hr.mono (by decide)) hG tk (by rfl) (sa_cons (se_var (pv 0)) (sa_cons se_int sa_nil))) se_int) (sss_one (ss_expr (se_meth PySem.F.plainAttrs_list PySem.F.slot_list_append PySem.F.type_list_append mt_append mz_append (se_var (pv 2)) (sa_cons (se_tup (sa_cons (se_var (pv 5)) (sa_cons (se_var (pv 3)) sa_nil))) sa_nil)))) sss_nil)))))
    (sss_cons (ss_set (i := 4) sc.nd rfl (by first | exact .inl rfl | exact .inr rfl) (se_callB (CallR.or (CallR.or cr_sortedI cr_sortedPO) cr_sortT3) cz_sortX (by rfl) T.z_sorted bb_sorted (sa_cons (se_slice (se_callD (ok_lmixed T) bi_lmixed (hr.mono (by decide)) hG tk (by rfl) (sa_cons (se_var (pv 0)) (sa_cons (se_lr1 rfl (by rfl) T.z_list (by rfl) T.z_range (se_var (pv 1))) sa_nil))) so_none (so_some (se_add se_int (se_callD (ok_ldraw T) bi_ldraw (hr.mono (by decide)) hG tk (by rfl) (sa_cons (se_var (pv 0)) (sa_cons (se_sub (se_var (pv 1)) se_int) sa_nil)))))) sa_nil)))
    (sss_one (ss_ret (se_tup (sa_cons (se_tup (sa_cons (se_var (pv 1)) (sa_cons (se_callTy call_tuple_of cz_tuple (by rfl) T.z_tuple bb_tuple (sa_cons (se_callB (CallR.or (CallR.or cr_sortedI cr_sortedPO) cr_sortT3) cz_sortX (by rfl) T.z_sorted bb_sorted (sa_cons (se_var (pv 2)) sa_nil)) sa_nil)) (sa_cons (se_tup sa_nil) sa_nil)))) (sa_cons (se_callTy call_tuple_of cz_tuple (by rfl) T.z_tuple bb_tuple (sa_cons (se_lc (own := [("field", 6)]) (.inl rfl) rfl sc.nd (si_seqE (se_var (pv 4))) (blkOk_by (N := ["deck", "many", "roads", "b", "fields", "a", "field"]) (sc := defScope s_lwide_board) (own := [("field", 6)]) (by decide +kernel)) (fun _ _ _ _ _ => (sgo_name (by decide) (pg_name (i := 6) sc.nd rfl (by first | exact .inl rfl | exact .inr rfl)))) (fun _ _ _ _ _ => sts_nil) (fun _ _ _ _ _ => (se_tup (sa_cons (se_var (pv 6)) (sa_cons (se_callD (ok_ldraw T) bi_ldraw (hr.mono (by decide)) hG takes0 (by rfl) (sa_cons (se_var (pv 0)) (sa_cons se_int sa_nil))) sa_nil))))) sa_nil)) sa_nil))))))))
theorem ok_orders_error (T : Txt K mg) : DefZ P w K mg base 4 "orders_error" s_orders_error ["board", "value"] d_orders_error := by
  refine defZ T.f_orders_error sc_orders_error (by decide) fun f cdv A outer s H E hr hG => ?_
  have sc := sc_orders_error
  have tk : Takes (CxZ P w K mg base ["board", "value", "place", "order"] "orders_error" (defScope s_orders_error) f cdv A outer s H E) (fun c d _ H' => E c d H') := takes_of rfl rfl rfl rfl
  have hp : PassesOwn (model (CxZ P w K mg base ["board", "value", "place", "order"] "orders_error" (defScope s_orders_error) f cdv A outer s H E).prog (CxZ P w K mg base ["board", "value", "place", "order"] "orders_error" (defScope s_orders_error) f cdv A outer s H E).w) (CxZ P w K mg base ["board", "value", "place", "order"] "orders_error" (defScope s_orders_error) f cdv A outer s H E).A (CxZ P w K mg base ["board", "value", "place", "order"] "orders_error" (defScope s_orders_error) f cdv A outer s H E).env (CxZ P w K mg base ["board", "value", "place", "order"] "orders_error" (defScope s_orders_error) f cdv A outer s H E).xe := passes_of rfl
  exact (sss_cons (ss_if (SW.st (sw_or (st_not (st_val (se_isinst (T := "tuple") (by decide) (by rfl) T.z_isinstance (by rfl) T.z_tuple bb_tuple (se_var (pv 1))))) (sw_or1 (st_ne (room_u64 hr) (se_callB call_len cz_len (by rfl) T.z_len bb_len (sa_cons (se_var (pv 1)) sa_nil)) (se_callB call_len cz_len (by rfl) T.z_len bb_len (sa_cons (se_ix (se_var (pv 0)) se_int) sa_nil)))))) (sss_one (ss_ret se_str)) sss_nil)
    (sss_cons (ss_for hp rfl (si_enumE (by rfl) T.z_enumerate (sa_cons (se_var (pv 1)) sa_nil)) (sg_tup rfl (sgs_cons (sg_name (pg_name (i := 2) sc.nd rfl (by first | exact .inl rfl | exact .inr rfl))) (sgs_cons (sg_name (pg_name (i := 3) sc.nd rfl (by first | exact .inl rfl | exact .inr rfl))) sgs_nil))) (sss_one (ss_if (st_not (st_val (se_callD (ok_is_order T) bi_is_order (hr.mono (by decide)) hG tk (by rfl) (sa_cons (se_var (pv 0)) (sa_cons (se_var (pv 2)) (sa_cons (se_var (pv 3)) sa_nil)))))) (sss_one (ss_ret (se_tup (sa_cons se_str (sa_cons (se_var (pv 2)) sa_nil))))) sss_nil)))
    (sss_one (ss_ret se_non))))
theorem ok_lboard (T : Txt K mg) : DefZ P w K mg base 4 "_law_board" s_lboard ["deck", "fields", "many"] d_lboard := by
  refine defZ T.f_lboard sc_lboard (by decide) fun f cdv A outer s H E hr hG => ?_
  have sc := sc_lboard
  have tk : Takes (CxZ P w K mg base ["deck", "fields", "many", "chart"] "_law_board" (defScope s_lboard) f cdv A outer s H E) (fun c d _ H' => E c d H') := takes_of rfl rfl rfl rfl
  have hp : PassesOwn (model (CxZ P w K mg base ["deck", "fields", "many", "chart"] "_law_board" (defScope s_lboard) f cdv A outer s H E).prog (CxZ P w K mg base ["deck", "fields", "many", "chart"] "_law_board" (defScope s_lboard) f cdv A outer s H E).w) (CxZ P w K mg base ["deck", "fields", "many", "chart"] "_law_board" (defScope s_lboard) f cdv A outer s H E).A (CxZ P w K mg base ["deck", "fields", "many", "chart"] "_law_board" (defScope s_lboard) f cdv A outer s H E).env (CxZ P w K mg base ["deck", "fields", "many", "chart"] "_law_board" (defScope s_lboard) f cdv A outer s H E).xe := passes_of rfl
  exact (sss_cons (ss_set (i := 3) sc.nd rfl (by first | exact .inl rfl | exact .inr rfl) (se_callD (ok_lchart T) bi_lchart (hr.mono (by decide)) hG tk (by rfl) (sa_cons (se_var (pv 0)) (sa_cons (se_var (pv 1)) (sa_cons (se_add se_int (se_callD (ok_ldraw T) bi_ldraw (hr.mono (by decide)) hG tk (by rfl) (sa_cons (se_var (pv 0)) (sa_cons se_int sa_nil)))) sa_nil)))))
    (sss_one (ss_ret (se_tup (sa_cons (se_var (pv 3)) (sa_cons (se_callD (ok_lpieces T) bi_lpieces (hr.mono (by decide)) hG tk (by rfl) (sa_cons (se_var (pv 0)) (sa_cons (se_var (pv 3)) (sa_cons (se_var (pv 2)) sa_nil)))) sa_nil))))))
theorem ok_lis_wide_right (T : Txt K mg) : DefZ P w K mg base 4 "_law_is_wide_right" s_lis_wide_right ["deck"] d_lis_wide_right := by
  refine defZ T.f_lis_wide_right sc_lis_wide_right (by decide) fun f cdv A outer s H E hr hG => ?_
  have sc := sc_lis_wide_right
  have tk : Takes (CxZ P w K mg base ["deck", "board", "place", "due"] "_law_is_wide_right" (defScope s_lis_wide_right) f cdv A outer s H E) (fun c d _ H' => E c d H') := takes_of rfl rfl rfl rfl
  have hp : PassesOwn (model (CxZ P w K mg base ["deck", "board", "place", "due"] "_law_is_wide_right" (defScope s_lis_wide_right) f cdv A outer s H E).prog (CxZ P w K mg base ["deck", "board", "place", "due"] "_law_is_wide_right" (defScope s_lis_wide_right) f cdv A outer s H E).w) (CxZ P w K mg base ["deck", "board", "place", "due"] "_law_is_wide_right" (defScope s_lis_wide_right) f cdv A outer s H E).A (CxZ P w K mg base ["deck", "board", "place", "due"] "_law_is_wide_right" (defScope s_lis_wide_right) f cdv A outer s H E).env (CxZ P w K mg base ["deck", "board", "place", "due"] "_law_is_wide_right" (defScope s_lis_wide_right) f cdv A outer s H E).xe := passes_of rfl
  exact (sss_cons (ss_set (i := 1) sc.nd rfl (by first | exact .inl rfl | exact .inr rfl) (se_callD (ok_lwide_board T) bi_lwide_board (hr.mono (by decide)) hG tk (by rfl) (sa_cons (se_var (pv 0)) sa_nil)))
    (sss_cons (ss_set (i := 2) sc.nd rfl (by first | exact .inl rfl | exact .inr rfl) (se_callD (ok_ldraw T) bi_ldraw (hr.mono (by decide)) hG tk (by rfl) (sa_cons (se_var (pv 0)) (sa_cons (se_callB call_len cz_len (by rfl) T.z_len bb_len (sa_cons (se_ix (se_var (pv 1)) se_int) sa_nil)) sa_nil))))
    (sss_cons (ss_set (i := 3) sc.nd rfl (by first | exact .inl rfl | exact .inr rfl) (se_callB (call_reprZ hG (room_u70 hr)) cz_repr (by rfl) T.z_repr bb_repr (sa_cons (se_callTy call_tuple_of cz_tuple (by rfl) T.z_tuple bb_tuple (sa_cons (se_callD (ok_lorders_of T) bi_lorders_of (hr.mono (by decide)) hG tk (by rfl) (sa_cons (se_var (pv 1)) (sa_cons (se_var (pv 2)) sa_nil))) sa_nil)) sa_nil)))
    (sss_one (ss_ret (se_and (se_eq (room_u64 hr) (se_callB (call_reprZ hG (room_u70 hr)) cz_repr (by rfl) T.z_repr bb_repr (sa_cons (se_callD (ok_orders_of T) bi_orders_of (hr.mono (by decide)) hG tk (by rfl) (sa_cons (se_var (pv 1)) (sa_cons (se_var (pv 2)) sa_nil))) sa_nil)) (se_var (pv 3))) (se_one (se_eq (room_u64 hr) (se_callB (call_reprZ hG (room_u70 hr)) cz_repr (by rfl) T.z_repr bb_repr (sa_cons (se_callDK0 (ok_orders_of T) kb_orders_of_0 (hr.mono (by decide)) hG tk (by rfl) (sk_cons (se_var (pv 2)) (sk_cons (se_var (pv 1)) sk_nil))) sa_nil)) (se_var (pv 3))))))))))
theorem ok_law (T : Txt K mg) : DefZ P w K mg base 5 "law" s_law ["script"] d_law := by
  refine defZ T.f_law sc_law (by decide) fun f cdv A outer s H E hr hG => ?_
  have sc := sc_law
  have tk : Takes (CxZ P w K mg base ["script", "deck", "turn", "board", "chart", "pieces", "kept", "others", "place", "numbers", "tried", "field", "menu", "order", "due", "told", "value", "goal", "player"] "law" (defScope s_law) f cdv A outer s H E) (fun c d _ H' => E c d H') := takes_of rfl rfl rfl rfl
  have hp : PassesOwn (model (CxZ P w K mg base ["script", "deck", "turn", "board", "chart", "pieces", "kept", "others", "place", "numbers", "tried", "field", "menu", "order", "due", "told", "value", "goal", "player"] "law" (defScope s_law) f cdv A outer s H E).prog (CxZ P w K mg base ["script", "deck", "turn", "board", "chart", "pieces", "kept", "others", "place", "numbers", "tried", "field", "menu", "order", "due", "told", "value", "goal", "player"] "law" (defScope s_law) f cdv A outer s H E).w) (CxZ P w K mg base ["script", "deck", "turn", "board", "chart", "pieces", "kept", "others", "place", "numbers", "tried", "field", "menu", "order", "due", "told", "value", "goal", "player"] "law" (defScope s_law) f cdv A outer s H E).A (CxZ P w K mg base ["script", "deck", "turn", "board", "chart", "pieces", "kept", "others", "place", "numbers", "tried", "field", "menu", "order", "due", "told", "value", "goal", "player"] "law" (defScope s_law) f cdv A outer s H E).env (CxZ P w K mg base ["script", "deck", "turn", "board", "chart", "pieces", "kept", "others", "place", "numbers", "tried", "field", "menu", "order", "due", "told", "value", "goal", "player"] "law" (defScope s_law) f cdv A outer s H E).xe := passes_of rfl
  exact (sss_cons (ss_set (i := 1) sc.nd rfl (by first | exact .inl rfl | exact .inr rfl) (se_callD (ok_ldeck T) bi_ldeck (hr.mono (by decide)) hG tk (by rfl) (sa_cons (se_var (pv 0)) sa_nil)))
    (sss_cons (ss_if (SW.st (sw_and (st_eq (room_u64 hr) (se_callD (ok_ldraw T) bi_ldraw (hr.mono (by decide)) hG tk (by rfl) (sa_cons (se_var (pv 1)) (sa_cons se_int sa_nil))) se_int) (sw_and1 (st_not (st_val (se_callD (ok_lis_wide_right T) bi_lis_wide_right (hr.mono (by decide)) hG tk (by rfl) (sa_cons (se_var (pv 1)) sa_nil))))))) (sss_one (ss_ret se_bl)) sss_nil)
    (sss_cons (ss_for hp rfl (si_range1E (by rfl) T.z_range (sa_cons se_int sa_nil)) (sg_name (pg_name (i := 2) sc.nd rfl (by first | exact .inl rfl | exact .inr rfl))) (sss_cons (ss_set (i := 3) sc.nd rfl (by first | exact .inl rfl | exact .inr rfl) (se_callD (ok_lboard T) bi_lboard (hr.mono (by decide)) hG tk (by rfl) (sa_cons (se_var (pv 1)) (sa_cons (se_add se_int (se_callD (ok_ldraw T) bi_ldraw (hr.mono (by decide)) hG tk (by rfl) (sa_cons (se_var (pv 1)) (sa_cons (se_if (st_gt (se_var (pv 2)) se_int) se_int se_int) sa_nil)))) (sa_cons (se_add se_int (se_callD (ok_ldraw T) bi_ldraw (hr.mono (by decide)) hG tk (by rfl) (sa_cons (se_var (pv 1)) (sa_cons se_int sa_nil)))) sa_nil)))))
    (sss_cons (ss_asg (se_var (pv 3)) (sg_tup rfl (sgs_cons (sg_name (pg_name (i := 4) sc.nd rfl (by first | exact .inl rfl | exact .inr rfl))) (sgs_cons (sg_name (pg_name (i := 5) sc.nd rfl (by first | exact .inl rfl | exact .inr rfl))) sgs_nil))))
    (sss_cons (ss_par (ps_par (i := 6) (j := 7) rfl sc.nd rfl rfl (by decide) rfl rfl (SA.pa (sa_cons (se_callB (call_reprZ hG (room_u70 hr)) cz_repr (by rfl) T.z_repr bb_repr (sa_cons (se_var (pv 3)) sa_nil)) (sa_cons (se_callTy call_tuple_of cz_tuple (by rfl) T.z_tuple bb_tuple (sa_cons (se_lc (own := [("field", 11), ("player", 18)]) (.inl rfl) rfl sc.nd (si_seqE (se_var (pv 5))) (blkOk_by (N := ["script", "deck", "turn", "board", "chart", "pieces", "kept", "others", "place", "numbers", "tried", "field", "menu", "order", "due", "told", "value", "goal", "player"]) (sc := defScope s_law) (own := [("field", 11), ("player", 18)]) (by decide +kernel)) (fun _ _ _ _ _ => (sgo_tup rfl (sgos_cons (sgo_name (by decide) (pg_name (i := 11) sc.nd rfl (by first | exact .inl rfl | exact .inr rfl))) (sgos_cons (sgo_name (by decide) (pg_name (i := 18) sc.nd rfl (by first | exact .inl rfl | exact .inr rfl))) sgos_nil)))) (fun _ _ _ _ _ => sts_nil) (fun _ _ _ _ _ => (se_tup (sa_cons (se_var (pv 11)) (sa_cons (se_mod (se_callTy call_int1 cz_int (by rfl) T.z_int bb_int (sa_cons (se_add (se_add (se_var (pv 18)) se_int) (se_var (pv 11))) sa_nil)) se_int) sa_nil))))) sa_nil)) sa_nil))) (by rfl)))
    (sss_cons (ss_for hp rfl (si_range1E (by rfl) T.z_range (sa_cons (se_callB call_len cz_len (by rfl) T.z_len bb_len (sa_cons (se_var (pv 5)) sa_nil)) sa_nil)) (sg_name (pg_name (i := 8) sc.nd rfl (by first | exact .inl rfl | exact .inr rfl))) (sss_cons (ss_set (i := 14) sc.nd rfl (by first | exact .inl rfl | exact .inr rfl) (se_callTy call_tuple_of cz_tuple (by rfl) T.z_tuple bb_tuple (sa_cons (se_callD (ok_lorders_of T) bi_lorders_of (hr.mono (by decide)) hG tk (by rfl) (sa_cons (se_var (pv 3)) (sa_cons (se_var (pv 8)) sa_nil))) sa_nil)))
    (sss_cons (ss_set (i := 15) sc.nd rfl (by first | exact .inl rfl | exact .inr rfl) (se_lst (sa_cons (se_callD (ok_orders_of T) bi_orders_of (hr.mono (by decide)) hG tk (by rfl) (sa_cons (se_var (pv 3)) (sa_cons (se_var (pv 8)) sa_nil))) (sa_cons (se_callDK0 (ok_orders_of T) kb_orders_of_0 (hr.mono (by decide)) hG tk (by rfl) (sk_cons (se_var (pv 8)) (sk_cons (se_var (pv 3)) sk_nil))) (sa_cons (se_callD (ok_orders_of T) bi_orders_of (hr.mono (by decide)) hG tk (by rfl) (sa_cons (se_tup (sa_cons (se_var (pv 4)) (sa_cons (se_var (pv 7)) sa_nil))) (sa_cons (se_var (pv 8)) sa_nil))) sa_nil)))))
    (sss_one (ss_if (st_ne (room_u64 hr) (se_callB (call_reprZ hG (room_u70 hr)) cz_repr (by rfl) T.z_repr bb_repr (sa_cons (se_var (pv 15)) sa_nil)) (se_callB (call_reprZ hG (room_u70 hr)) cz_repr (by rfl) T.z_repr bb_repr (sa_cons (se_mulx (se_lst (sa_cons (se_var (pv 14)) sa_nil)) se_int) sa_nil))) (sss_one (ss_ret se_bl)) sss_nil)))))
    (sss_cons (ss_par (ps_par (i := 8) (j := 9) rfl sc.nd rfl rfl (by decide) rfl rfl (SA.pa (sa_cons (se_callD (ok_ldraw T) bi_ldraw (hr.mono (by decide)) hG tk (by rfl) (sa_cons (se_var (pv 1)) (sa_cons (se_callB call_len cz_len (by rfl) T.z_len bb_len (sa_cons (se_var (pv 5)) sa_nil)) sa_nil))) (sa_cons (se_lr2 rfl (by rfl) T.z_list (by rfl) T.z_range (se_neg se_int) (se_add (se_ix (se_var (pv 4)) se_int) se_int)) sa_nil))) (by rfl)))
    (sss_cons (ss_set (i := 10) sc.nd rfl (by first | exact .inl rfl | exact .inr rfl) (se_add (se_lst (sa_cons (se_tup (sa_cons se_str sa_nil)) sa_nil)) (se_lc (own := [("goal", 17)]) (.inl rfl) rfl sc.nd (si_seqE (se_var (pv 9))) (blkOk_by (N := ["script", "deck", "turn", "board", "chart", "pieces", "kept", "others", "place", "numbers", "tried", "field", "menu", "order", "due", "told", "value", "goal", "player"]) (sc := defScope s_law) (own := [("goal", 17)]) (by decide +kernel)) (fun _ _ _ _ _ => (sgo_name (by decide) (pg_name (i := 17) sc.nd rfl (by first | exact .inl rfl | exact .inr rfl)))) (fun _ _ _ _ _ => sts_nil) (fun _ _ _ _ _ => (se_tup (sa_cons se_str (sa_cons (se_var (pv 17)) sa_nil)))))))
    (sss_cons (ss_for hp rfl (si_seqE (se_var (pv 9))) (sg_name (pg_name (i := 11) sc.nd rfl (by first | exact .inl rfl | exact .inr rfl))) (sss_one (ss_set (i := 10) sc.nd rfl (by first | exact .inl rfl | exact .inr rfl) (se_add (se_var (pv 10)) (se_lc (own := [("goal", 17)]) (.inl rfl) rfl sc.nd (si_seqE (se_var (pv 9))) (blkOk_by (N := ["script", "deck", "turn", "board", "chart", "pieces", "kept", "others", "place", "numbers", "tried", "field", "menu", "order", "due", "told", "value", "goal", "player"]) (sc := defScope s_law) (own := [("goal", 17)]) (by decide +kernel)) (fun _ _ _ _ _ => (sgo_name (by decide) (pg_name (i := 17) sc.nd rfl (by first | exact .inl rfl | exact .inr rfl)))) (fun _ _ _ _ _ => sts_nil) (fun _ _ _ _ _ => (se_tup (sa_cons se_str (sa_cons (se_var (pv 11)) (sa_cons (se_var (pv 17)) sa_nil))))))))))
    (sss_cons (ss_setLc (i := 12) (own := [("order", 13)]) (.inl rfl) rfl sc.nd rfl rfl (sw_true rfl rfl rfl (by decide +kernel)) (si_seqE (se_callD (ok_lorders_of T) bi_lorders_of (hr.mono (by decide)) hG tk (by rfl) (sa_cons (se_var (pv 3)) (sa_cons (se_var (pv 8)) sa_nil)))) (blkOk_by (N := ["script", "deck", "turn", "board", "chart", "pieces", "kept", "others", "place", "numbers", "tried", "field", "menu", "order", "due", "told", "value", "goal", "player"]) (sc := defScope s_law) (own := [("order", 13)]) (by decide +kernel)) (fun _ _ _ _ _ => (sgo_name (by decide) (pg_name (i := 13) sc.nd rfl (by first | exact .inl rfl | exact .inr rfl)))) (fun _ _ _ _ _ => sts_nil) (fun _ _ _ _ _ => (se_callB (call_reprZ hG (room_u70 hr)) cz_repr (by rfl) T.z_repr bb_repr (sa_cons (se_var (pv 13)) sa_nil))))
    (sss_cons (ss_for hp rfl (si_seqE (se_if (st_eq (room_u64 hr) (se_var (pv 2)) se_int) (se_var (pv 10)) (se_slice (se_callD (ok_lmixed T) bi_lmixed (hr.mono (by decide)) hG tk (by rfl) (sa_cons (se_var (pv 1)) (sa_cons (se_var (pv 10)) sa_nil))) so_none (so_some se_int)))) (sg_name (pg_name (i := 13) sc.nd rfl (by first | exact .inl rfl | exact .inr rfl))) (sss_cons (ss_set (i := 16) sc.nd rfl (by first | exact .inl rfl | exact .inr rfl) (se_add (se_add (se_mulx (se_tup (sa_cons (se_tup (sa_cons se_str sa_nil)) sa_nil)) (se_var (pv 8))) (se_tup (sa_cons (se_var (pv 13)) sa_nil))) (se_mulx (se_tup (sa_cons (se_tup (sa_cons se_str sa_nil)) sa_nil)) (se_sub (se_sub (se_callB call_len cz_len (by rfl) T.z_len bb_len (sa_cons (se_var (pv 5)) sa_nil)) (se_var (pv 8))) se_int))))
    (sss_one (ss_if (st_ne (room_u64 hr) (se_callB (call_reprZ hG (room_u70 hr)) cz_repr (by rfl) T.z_repr bb_repr (sa_cons (se_callD (ok_orders_error T) bi_orders_error (hr.mono (by decide)) hG tk (by rfl) (sa_cons (se_var (pv 3)) (sa_cons (se_var (pv 16)) sa_nil))) sa_nil)) (se_callB (call_reprZ hG (room_u70 hr)) cz_repr (by rfl) T.z_repr bb_repr (sa_cons (se_if (st_in (room_u65 hr) (se_callB (call_reprZ hG (room_u70 hr)) cz_repr (by rfl) T.z_repr bb_repr (sa_cons (se_var (pv 13)) sa_nil)) (se_var (pv 12))) se_non (se_tup (sa_cons se_str (sa_cons (se_var (pv 8)) sa_nil)))) sa_nil))) (sss_one (ss_ret se_bl)) sss_nil))))
    (sss_one (ss_if (st_ne (room_u64 hr) (se_callB (call_reprZ hG (room_u70 hr)) cz_repr (by rfl) T.z_repr bb_repr (sa_cons (se_var (pv 3)) sa_nil)) (se_var (pv 6))) (sss_one (ss_ret se_bl)) sss_nil))))))))))))
    (sss_one (ss_ret se_bl)))))
end
end Zl
namespace Zl
open PySem PySem.Spec PyProof.Rows L2 Zm
theorem draw_ok (q : Dk) (rest : Mm) {m : Int} (hm : 0 < m) (hm2 : m < 1073741824) : ∃ (r : Int) (q' : Dk), d_ldraw [.obj 1, .d (.int m)] (q.mem rest) = .ok (.d (.int r)) (q'.mem rest) ∧ 0 ≤ r ∧ r < m := by
  have hne : m ≠ 0 := by omega
  have hab : m.natAbs < 1073741824 := by omega
  have key : ∃ (x : Int) (q' : Dk), body 4 b_ldraw [.obj 1, .d (.int m)] (q.mem rest) = .ok (.d (.int (x.fmod m))) (q'.mem rest) := by
    obtain ⟨cells, st, n, hp⟩ := q
    cases cells with
    | nil =>
      unfold b_ldraw
      simp only [z_bok, z_bsok, z_bbad, z_bsbad, z_seqbad, z_outbad, z_asgbad, small_fmod, small_lit, fits_le, smallR_lit, z_na64, z_bif, z_bsif, z_noer, z_seqn, z_seqr, z_seqif, z_outr, z_outn, z_outif, z_C, z_op, z_T, z_tand, z_tor, z_tnot, z_and, z_or, z_not, z_if, z_nil, z_cons, z_tup, z_lst, z_new, z_allD0, z_allD1, z_map, z_sNil, z_sSeq, z_sIf, z_sDrop, z_sRet, z_sAsg, z_asg, z_asgif, z_sPar, z_gN, z_gT, z_gsNil, z_gsCons, z_obind, z_gSet, z_B, z_It, z_Enum, z_R1, z_R2, z_r1, z_r2, z_Comp, z_For, z_Yes, z_M, z_Sl, z_oN, z_oS, z_Rev, z_Neg, z_IsI, z_call, z_callK, z_chain, z_body, z_rdd, z_rds, z_int, z_vI, z_vB, z_le, z_eqi, z_nei, z_nes, z_eqs, z_vInt, z_vI2, z_isN, z_notN, z_enumt, z_enuml, z_itl, z_itt, z_its, z_ixt0, z_ixt1, z_ixt2, z_lenl, z_lent, z_tyt, z_tyl, z_tyd, z_tyi, z_tyb, z_tys, z_tyn, isT_tt, isT_lt, isT_dt, isT_it, isT_bt, isT_st, isT_nt, isT_ti, isT_li, isT_di, isT_ii, isT_bi, isT_si, isT_ni, isT_tb, isT_lb, isT_db, isT_ib, isT_bb, isT_sb, isT_nb, isT_ts, isT_ls, isT_ds, isT_is, isT_bs, isT_ss, isT_ns, z_forn, z_mulx, z_lr1, z_lr1N, okR_le, dk_get, dk_set, dk_add, dk_ll, z_rdo, z_tyo, z_app, z_ext, z_star, z_lr2, z_listN, z_sqt, z_sql, z_leno, z_frz, fzL_d, z_lens, z_sls, z_sll, z_addl, z_addt, z_na10, z_dct0, z_disp, z_disp1, z_slt, z_revt, dk_rd2, dk_ty2, dk_mem1, dk_len0, z_tupl, z_tupt, z_listt, z_listl, z_in2, slots0, mVar, wipeS, pickBy, dk_rd0, dk_rd1, dk_ix0, dk_ix1, dk_ix2, dk_ne, dk_setn, dk_ty0, dk_ty1, Option.some.injEq, List.map_cons, List.map_nil, List.length_cons, List.length_nil, List.replicate_succ, List.replicate_zero, List.cons_append, List.nil_append, List.append_nil, List.getElem?_cons_zero, List.getElem?_cons_succ, List.set_cons_zero, List.set_cons_succ, List.zip_cons_cons, List.zip_nil_left, List.foldl_cons, List.foldl_nil, List.filterMap_cons, List.filterMap_nil, Nat.reduceSub, Nat.reduceAdd, Nat.reduceLT, Nat.reduceLeDiff, Nat.zero_add, Nat.add_zero, Nat.reduceEqDiff, decide_eq_true_eq, Bool.not_eq_true, Bool.not_true, Bool.not_false, Bool.not_not, ite_true, ite_false, if_true, if_false, reduceIte, Bool.false_eq_true, and_self, and_true, true_and, Int.reduceNeg, Int.reduceLT, Int.reduceLE, Int.reduceSub, Int.reduceAdd, Int.reduceMul, Int.reducePow, Int.reduceEq, Int.reduceNe, decide_true, decide_false, decide_not, Bool.and_true, Bool.true_and, Bool.or_true, Bool.true_or, ne_eq, not_true_eq_false, not_false_eq_true, Bool.and_self, false_and, and_false, reduceCtorEq, eq_self, beq_self_eq_true, List.set_nil, List.getElem?_nil, List.length_append, List.length_map, Bool.false_and, Bool.and_false, Bool.false_or, Bool.or_false, Int.cast_ofNat_Int, Int.reduceToNat, Int.zero_add, Int.add_zero, hne, hab, List.isEmpty_nil]
      exact ⟨_, Dk.mk [] st (n+1) hp, rfl⟩
    | cons c cs => 
      unfold b_ldraw
      have hv : 0 ≤ c.fdiv m := Int.fdiv_nonneg (hp c (List.mem_cons_self ..)) (by omega)
      simp only [z_bok, z_bsok, z_bbad, z_bsbad, z_seqbad, z_outbad, z_asgbad, small_fmod, small_lit, fits_le, smallR_lit, z_na64, z_bif, z_bsif, z_noer, z_seqn, z_seqr, z_seqif, z_outr, z_outn, z_outif, z_C, z_op, z_T, z_tand, z_tor, z_tnot, z_and, z_or, z_not, z_if, z_nil, z_cons, z_tup, z_lst, z_new, z_allD0, z_allD1, z_map, z_sNil, z_sSeq, z_sIf, z_sDrop, z_sRet, z_sAsg, z_asg, z_asgif, z_sPar, z_gN, z_gT, z_gsNil, z_gsCons, z_obind, z_gSet, z_B, z_It, z_Enum, z_R1, z_R2, z_r1, z_r2, z_Comp, z_For, z_Yes, z_M, z_Sl, z_oN, z_oS, z_Rev, z_Neg, z_IsI, z_call, z_callK, z_chain, z_body, z_rdd, z_rds, z_int, z_vI, z_vB, z_le, z_eqi, z_nei, z_nes, z_eqs, z_vInt, z_vI2, z_isN, z_notN, z_enumt, z_enuml, z_itl, z_itt, z_its, z_ixt0, z_ixt1, z_ixt2, z_lenl, z_lent, z_tyt, z_tyl, z_tyd, z_tyi, z_tyb, z_tys, z_tyn, isT_tt, isT_lt, isT_dt, isT_it, isT_bt, isT_st, isT_nt, isT_ti, isT_li, isT_di, isT_ii, isT_bi, isT_si, isT_ni, isT_tb, isT_lb, isT_db, isT_ib, isT_bb, isT_sb, isT_nb, isT_ts, isT_ls, isT_ds, isT_is, isT_bs, isT_ss, isT_ns, z_forn, z_mulx, z_lr1, z_lr1N, okR_le, dk_get, dk_set, dk_add, dk_ll, z_rdo, z_tyo, z_app, z_ext, z_star, z_lr2, z_listN, z_sqt, z_sql, z_leno, z_frz, fzL_d, z_lens, z_sls, z_sll, z_addl, z_addt, z_na10, z_dct0, z_disp, z_disp1, z_slt, z_revt, dk_rd2, dk_ty2, dk_mem1, dk_len0, z_tupl, z_tupt, z_listt, z_listl, z_in2, slots0, mVar, wipeS, pickBy, dk_rd0, dk_rd1, dk_ix0, dk_ix1, dk_ix2, dk_ne, dk_setn, dk_ty0, dk_ty1, Option.some.injEq, List.map_cons, List.map_nil, List.length_cons, List.length_nil, List.replicate_succ, List.replicate_zero, List.cons_append, List.nil_append, List.append_nil, List.getElem?_cons_zero, List.getElem?_cons_succ, List.set_cons_zero, List.set_cons_succ, List.zip_cons_cons, List.zip_nil_left, List.foldl_cons, List.foldl_nil, List.filterMap_cons, List.filterMap_nil, Nat.reduceSub, Nat.reduceAdd, Nat.reduceLT, Nat.reduceLeDiff, Nat.zero_add, Nat.add_zero, Nat.reduceEqDiff, decide_eq_true_eq, Bool.not_eq_true, Bool.not_true, Bool.not_false, Bool.not_not, ite_true, ite_false, if_true, if_false, reduceIte, Bool.false_eq_true, and_self, and_true, true_and, Int.reduceNeg, Int.reduceLT, Int.reduceLE, Int.reduceSub, Int.reduceAdd, Int.reduceMul, Int.reducePow, Int.reduceEq, Int.reduceNe, decide_true, decide_false, decide_not, Bool.and_true, Bool.true_and, Bool.or_true, Bool.true_or, ne_eq, not_true_eq_false, not_false_eq_true, Bool.and_self, false_and, and_false, reduceCtorEq, eq_self, beq_self_eq_true, List.set_nil, List.getElem?_nil, List.length_append, List.length_map, Bool.false_and, Bool.and_false, Bool.false_or, Bool.or_false, Int.cast_ofNat_Int, Int.reduceToNat, Int.zero_add, Int.add_zero, hne, hab, dk_ix00 (q := Dk.mk (c :: cs) st n hp) rfl, List.isEmpty_cons, dk_set0 hp hv]
      by_cases hlt : c < m
      · simp only [z_bok, z_bsok, z_bbad, z_bsbad, z_seqbad, z_outbad, z_asgbad, small_fmod, small_lit, fits_le, smallR_lit, z_na64, z_bif, z_bsif, z_noer, z_seqn, z_seqr, z_seqif, z_outr, z_outn, z_outif, z_C, z_op, z_T, z_tand, z_tor, z_tnot, z_and, z_or, z_not, z_if, z_nil, z_cons, z_tup, z_lst, z_new, z_allD0, z_allD1, z_map, z_sNil, z_sSeq, z_sIf, z_sDrop, z_sRet, z_sAsg, z_asg, z_asgif, z_sPar, z_gN, z_gT, z_gsNil, z_gsCons, z_obind, z_gSet, z_B, z_It, z_Enum, z_R1, z_R2, z_r1, z_r2, z_Comp, z_For, z_Yes, z_M, z_Sl, z_oN, z_oS, z_Rev, z_Neg, z_IsI, z_call, z_callK, z_chain, z_body, z_rdd, z_rds, z_int, z_vI, z_vB, z_le, z_eqi, z_nei, z_nes, z_eqs, z_vInt, z_vI2, z_isN, z_notN, z_enumt, z_enuml, z_itl, z_itt, z_its, z_ixt0, z_ixt1, z_ixt2, z_lenl, z_lent, z_tyt, z_tyl, z_tyd, z_tyi, z_tyb, z_tys, z_tyn, isT_tt, isT_lt, isT_dt, isT_it, isT_bt, isT_st, isT_nt, isT_ti, isT_li, isT_di, isT_ii, isT_bi, isT_si, isT_ni, isT_tb, isT_lb, isT_db, isT_ib, isT_bb, isT_sb, isT_nb, isT_ts, isT_ls, isT_ds, isT_is, isT_bs, isT_ss, isT_ns, z_forn, z_mulx, z_lr1, z_lr1N, okR_le, dk_get, dk_set, dk_add, dk_ll, z_rdo, z_tyo, z_app, z_ext, z_star, z_lr2, z_listN, z_sqt, z_sql, z_leno, z_frz, fzL_d, z_lens, z_sls, z_sll, z_addl, z_addt, z_na10, z_dct0, z_disp, z_disp1, z_slt, z_revt, dk_rd2, dk_ty2, dk_mem1, dk_len0, z_tupl, z_tupt, z_listt, z_listl, z_in2, slots0, mVar, wipeS, pickBy, dk_rd0, dk_rd1, dk_ix0, dk_ix1, dk_ix2, dk_ne, dk_setn, dk_ty0, dk_ty1, Option.some.injEq, List.map_cons, List.map_nil, List.length_cons, List.length_nil, List.replicate_succ, List.replicate_zero, List.cons_append, List.nil_append, List.append_nil, List.getElem?_cons_zero, List.getElem?_cons_succ, List.set_cons_zero, List.set_cons_succ, List.zip_cons_cons, List.zip_nil_left, List.foldl_cons, List.foldl_nil, List.filterMap_cons, List.filterMap_nil, Nat.reduceSub, Nat.reduceAdd, Nat.reduceLT, Nat.reduceLeDiff, Nat.zero_add, Nat.add_zero, Nat.reduceEqDiff, decide_eq_true_eq, Bool.not_eq_true, Bool.not_true, Bool.not_false, Bool.not_not, ite_true, ite_false, if_true, if_false, reduceIte, Bool.false_eq_true, and_self, and_true, true_and, Int.reduceNeg, Int.reduceLT, Int.reduceLE, Int.reduceSub, Int.reduceAdd, Int.reduceMul, Int.reducePow, Int.reduceEq, Int.reduceNe, decide_true, decide_false, decide_not, Bool.and_true, Bool.true_and, Bool.or_true, Bool.true_or, ne_eq, not_true_eq_false, not_false_eq_true, Bool.and_self, false_and, and_false, reduceCtorEq, eq_self, beq_self_eq_true, List.set_nil, List.getElem?_nil, List.length_append, List.length_map, Bool.false_and, Bool.and_false, Bool.false_or, Bool.or_false, Int.cast_ofNat_Int, Int.reduceToNat, Int.zero_add, Int.add_zero, hlt, hne, hab, dk_pop]
        exact ⟨_, Dk.mk cs st n _, rfl⟩
      · simp only [z_bok, z_bsok, z_bbad, z_bsbad, z_seqbad, z_outbad, z_asgbad, small_fmod, small_lit, fits_le, smallR_lit, z_na64, z_bif, z_bsif, z_noer, z_seqn, z_seqr, z_seqif, z_outr, z_outn, z_outif, z_C, z_op, z_T, z_tand, z_tor, z_tnot, z_and, z_or, z_not, z_if, z_nil, z_cons, z_tup, z_lst, z_new, z_allD0, z_allD1, z_map, z_sNil, z_sSeq, z_sIf, z_sDrop, z_sRet, z_sAsg, z_asg, z_asgif, z_sPar, z_gN, z_gT, z_gsNil, z_gsCons, z_obind, z_gSet, z_B, z_It, z_Enum, z_R1, z_R2, z_r1, z_r2, z_Comp, z_For, z_Yes, z_M, z_Sl, z_oN, z_oS, z_Rev, z_Neg, z_IsI, z_call, z_callK, z_chain, z_body, z_rdd, z_rds, z_int, z_vI, z_vB, z_le, z_eqi, z_nei, z_nes, z_eqs, z_vInt, z_vI2, z_isN, z_notN, z_enumt, z_enuml, z_itl, z_itt, z_its, z_ixt0, z_ixt1, z_ixt2, z_lenl, z_lent, z_tyt, z_tyl, z_tyd, z_tyi, z_tyb, z_tys, z_tyn, isT_tt, isT_lt, isT_dt, isT_it, isT_bt, isT_st, isT_nt, isT_ti, isT_li, isT_di, isT_ii, isT_bi, isT_si, isT_ni, isT_tb, isT_lb, isT_db, isT_ib, isT_bb, isT_sb, isT_nb, isT_ts, isT_ls, isT_ds, isT_is, isT_bs, isT_ss, isT_ns, z_forn, z_mulx, z_lr1, z_lr1N, okR_le, dk_get, dk_set, dk_add, dk_ll, z_rdo, z_tyo, z_app, z_ext, z_star, z_lr2, z_listN, z_sqt, z_sql, z_leno, z_frz, fzL_d, z_lens, z_sls, z_sll, z_addl, z_addt, z_na10, z_dct0, z_disp, z_disp1, z_slt, z_revt, dk_rd2, dk_ty2, dk_mem1, dk_len0, z_tupl, z_tupt, z_listt, z_listl, z_in2, slots0, mVar, wipeS, pickBy, dk_rd0, dk_rd1, dk_ix0, dk_ix1, dk_ix2, dk_ne, dk_setn, dk_ty0, dk_ty1, Option.some.injEq, List.map_cons, List.map_nil, List.length_cons, List.length_nil, List.replicate_succ, List.replicate_zero, List.cons_append, List.nil_append, List.append_nil, List.getElem?_cons_zero, List.getElem?_cons_succ, List.set_cons_zero, List.set_cons_succ, List.zip_cons_cons, List.zip_nil_left, List.foldl_cons, List.foldl_nil, List.filterMap_cons, List.filterMap_nil, Nat.reduceSub, Nat.reduceAdd, Nat.reduceLT, Nat.reduceLeDiff, Nat.zero_add, Nat.add_zero, Nat.reduceEqDiff, decide_eq_true_eq, Bool.not_eq_true, Bool.not_true, Bool.not_false, Bool.not_not, ite_true, ite_false, if_true, if_false, reduceIte, Bool.false_eq_true, and_self, and_true, true_and, Int.reduceNeg, Int.reduceLT, Int.reduceLE, Int.reduceSub, Int.reduceAdd, Int.reduceMul, Int.reducePow, Int.reduceEq, Int.reduceNe, decide_true, decide_false, decide_not, Bool.and_true, Bool.true_and, Bool.or_true, Bool.true_or, ne_eq, not_true_eq_false, not_false_eq_true, Bool.and_self, false_and, and_false, reduceCtorEq, eq_self, beq_self_eq_true, List.set_nil, List.getElem?_nil, List.length_append, List.length_map, Bool.false_and, Bool.and_false, Bool.false_or, Bool.or_false, Int.cast_ofNat_Int, Int.reduceToNat, Int.zero_add, Int.add_zero, hlt, hne, hab]
        exact ⟨_, Dk.mk (c.fdiv m :: cs) st n _, rfl⟩
  obtain ⟨x, q', e⟩ := key
  exact ⟨_, q', z_trim e rfl, Int.fmod_nonneg_of_pos _ hm, Int.fmod_lt_of_pos _ hm⟩
theorem pick_ok (q : Dk) (rest : Mm) {ds : List PyData} (h : 0 < ds.length) (hl : ds.length < 1073741824) : ∃ x ∈ ds, ∃ q' : Dk, d_lpick [.obj 1, .d (.list ds)] (q.mem rest) = .ok (.d x) (q'.mem rest) := by
  obtain ⟨r, q', e, h0, h1⟩ := draw_ok q rest (m := ds.length) (by omega) (by omega)
  obtain ⟨x, hx, hm⟩ := atI_in h0 h1
  refine ⟨x, hm, q', z_trim ?_ rfl⟩
  unfold b_lpick
  simp only [z_bok, z_bsok, z_bbad, z_bsbad, z_seqbad, z_outbad, z_asgbad, small_fmod, small_lit, fits_le, smallR_lit, z_na64, z_bif, z_bsif, z_noer, z_seqn, z_seqr, z_seqif, z_outr, z_outn, z_outif, z_C, z_op, z_T, z_tand, z_tor, z_tnot, z_and, z_or, z_not, z_if, z_nil, z_cons, z_tup, z_lst, z_new, z_allD0, z_allD1, z_map, z_sNil, z_sSeq, z_sIf, z_sDrop, z_sRet, z_sAsg, z_asg, z_asgif, z_sPar, z_gN, z_gT, z_gsNil, z_gsCons, z_obind, z_gSet, z_B, z_It, z_Enum, z_R1, z_R2, z_r1, z_r2, z_Comp, z_For, z_Yes, z_M, z_Sl, z_oN, z_oS, z_Rev, z_Neg, z_IsI, z_call, z_callK, z_chain, z_body, z_rdd, z_rds, z_int, z_vI, z_vB, z_le, z_eqi, z_nei, z_nes, z_eqs, z_vInt, z_vI2, z_isN, z_notN, z_enumt, z_enuml, z_itl, z_itt, z_its, z_ixt0, z_ixt1, z_ixt2, z_lenl, z_lent, z_tyt, z_tyl, z_tyd, z_tyi, z_tyb, z_tys, z_tyn, isT_tt, isT_lt, isT_dt, isT_it, isT_bt, isT_st, isT_nt, isT_ti, isT_li, isT_di, isT_ii, isT_bi, isT_si, isT_ni, isT_tb, isT_lb, isT_db, isT_ib, isT_bb, isT_sb, isT_nb, isT_ts, isT_ls, isT_ds, isT_is, isT_bs, isT_ss, isT_ns, z_forn, z_mulx, z_lr1, z_lr1N, okR_le, dk_get, dk_set, dk_add, dk_ll, z_rdo, z_tyo, z_app, z_ext, z_star, z_lr2, z_listN, z_sqt, z_sql, z_leno, z_frz, fzL_d, z_lens, z_sls, z_sll, z_addl, z_addt, z_na10, z_dct0, z_disp, z_disp1, z_slt, z_revt, dk_rd2, dk_ty2, dk_mem1, dk_len0, z_tupl, z_tupt, z_listt, z_listl, z_in2, slots0, mVar, wipeS, pickBy, dk_rd0, dk_rd1, dk_ix0, dk_ix1, dk_ix2, dk_ne, dk_setn, dk_ty0, dk_ty1, Option.some.injEq, List.map_cons, List.map_nil, List.length_cons, List.length_nil, List.replicate_succ, List.replicate_zero, List.cons_append, List.nil_append, List.append_nil, List.getElem?_cons_zero, List.getElem?_cons_succ, List.set_cons_zero, List.set_cons_succ, List.zip_cons_cons, List.zip_nil_left, List.foldl_cons, List.foldl_nil, List.filterMap_cons, List.filterMap_nil, Nat.reduceSub, Nat.reduceAdd, Nat.reduceLT, Nat.reduceLeDiff, Nat.zero_add, Nat.add_zero, Nat.reduceEqDiff, decide_eq_true_eq, Bool.not_eq_true, Bool.not_true, Bool.not_false, Bool.not_not, ite_true, ite_false, if_true, if_false, reduceIte, Bool.false_eq_true, and_self, and_true, true_and, Int.reduceNeg, Int.reduceLT, Int.reduceLE, Int.reduceSub, Int.reduceAdd, Int.reduceMul, Int.reducePow, Int.reduceEq, Int.reduceNe, decide_true, decide_false, decide_not, Bool.and_true, Bool.true_and, Bool.or_true, Bool.true_or, ne_eq, not_true_eq_false, not_false_eq_true, Bool.and_self, false_and, and_false, reduceCtorEq, eq_self, beq_self_eq_true, List.set_nil, List.getElem?_nil, List.length_append, List.length_map, Bool.false_and, Bool.and_false, Bool.false_or, Bool.or_false, Int.cast_ofNat_Int, Int.reduceToNat, Int.zero_add, Int.add_zero, e, z_ixl hx]
/-! ### the chart's judges -/
def isI : PyData → Bool
  | .int _ => true
  | _ => false
theorem is_integer_eq (x : PyData) (M : Mm) : d_is_integer [.d x] M = .ok (.d (.bool (isI x))) M := by
  refine z_trim ?_ rfl
  unfold b_is_integer
  cases x <;> simp only [z_bok, z_bsok, z_bbad, z_bsbad, z_seqbad, z_outbad, z_asgbad, small_fmod, small_lit, fits_le, smallR_lit, z_na64, z_bif, z_bsif, z_noer, z_seqn, z_seqr, z_seqif, z_outr, z_outn, z_outif, z_C, z_op, z_T, z_tand, z_tor, z_tnot, z_and, z_or, z_not, z_if, z_nil, z_cons, z_tup, z_lst, z_new, z_allD0, z_allD1, z_map, z_sNil, z_sSeq, z_sIf, z_sDrop, z_sRet, z_sAsg, z_asg, z_asgif, z_sPar, z_gN, z_gT, z_gsNil, z_gsCons, z_obind, z_gSet, z_B, z_It, z_Enum, z_R1, z_R2, z_r1, z_r2, z_Comp, z_For, z_Yes, z_M, z_Sl, z_oN, z_oS, z_Rev, z_Neg, z_IsI, z_call, z_callK, z_chain, z_body, z_rdd, z_rds, z_int, z_vI, z_vB, z_le, z_eqi, z_nei, z_nes, z_eqs, z_vInt, z_vI2, z_isN, z_notN, z_enumt, z_enuml, z_itl, z_itt, z_its, z_ixt0, z_ixt1, z_ixt2, z_lenl, z_lent, z_tyt, z_tyl, z_tyd, z_tyi, z_tyb, z_tys, z_tyn, isT_tt, isT_lt, isT_dt, isT_it, isT_bt, isT_st, isT_nt, isT_ti, isT_li, isT_di, isT_ii, isT_bi, isT_si, isT_ni, isT_tb, isT_lb, isT_db, isT_ib, isT_bb, isT_sb, isT_nb, isT_ts, isT_ls, isT_ds, isT_is, isT_bs, isT_ss, isT_ns, z_forn, z_mulx, z_lr1, z_lr1N, okR_le, dk_get, dk_set, dk_add, dk_ll, z_rdo, z_tyo, z_app, z_ext, z_star, z_lr2, z_listN, z_sqt, z_sql, z_leno, z_frz, fzL_d, z_lens, z_sls, z_sll, z_addl, z_addt, z_na10, z_dct0, z_disp, z_disp1, z_slt, z_revt, dk_rd2, dk_ty2, dk_mem1, dk_len0, z_tupl, z_tupt, z_listt, z_listl, z_in2, slots0, mVar, wipeS, pickBy, dk_rd0, dk_rd1, dk_ix0, dk_ix1, dk_ix2, dk_ne, dk_setn, dk_ty0, dk_ty1, Option.some.injEq, List.map_cons, List.map_nil, List.length_cons, List.length_nil, List.replicate_succ, List.replicate_zero, List.cons_append, List.nil_append, List.append_nil, List.getElem?_cons_zero, List.getElem?_cons_succ, List.set_cons_zero, List.set_cons_succ, List.zip_cons_cons, List.zip_nil_left, List.foldl_cons, List.foldl_nil, List.filterMap_cons, List.filterMap_nil, Nat.reduceSub, Nat.reduceAdd, Nat.reduceLT, Nat.reduceLeDiff, Nat.zero_add, Nat.add_zero, Nat.reduceEqDiff, decide_eq_true_eq, Bool.not_eq_true, Bool.not_true, Bool.not_false, Bool.not_not, ite_true, ite_false, if_true, if_false, reduceIte, Bool.false_eq_true, and_self, and_true, true_and, Int.reduceNeg, Int.reduceLT, Int.reduceLE, Int.reduceSub, Int.reduceAdd, Int.reduceMul, Int.reducePow, Int.reduceEq, Int.reduceNe, decide_true, decide_false, decide_not, Bool.and_true, Bool.true_and, Bool.or_true, Bool.true_or, ne_eq, not_true_eq_false, not_false_eq_true, Bool.and_self, false_and, and_false, reduceCtorEq, eq_self, beq_self_eq_true, List.set_nil, List.getElem?_nil, List.length_append, List.length_map, Bool.false_and, Bool.and_false, Bool.false_or, Bool.or_false, Int.cast_ofNat_Int, Int.reduceToNat, Int.zero_add, Int.add_zero] <;> rfl
end Zl
namespace Zl
open PySem PySem.Spec PyProof.Rows L2 Zm
/-! ### the drawn chart -/
def smallP (p : Int × Int) : Prop := p.1.natAbs < 256 ∧ p.2.natAbs < 256
/-- the store while the roads are laid -/
def RoadsM (n : Nat) (M : Mm) : Prop := ∃ (q : Dk) (ps : List (Int × Int)), M = q.mem [.lst ((ps.map Zm.pairD).map .d)] ∧ ps.length ≤ n ∧ ∀ p ∈ ps, smallP p
theorem snoc_pairs (ps : List (Int × Int)) (a b : Int) : (ps.map Zm.pairD).map Val.d ++ [Val.d (.tuple [.int a, .int b])] = ((ps ++ [(a, b)]).map Zm.pairD).map .d := by
  rw [List.map_append, List.map_append]; rfl
theorem snoc_small {ps : List (Int × Int)} {a b : Int} (h : ∀ p ∈ ps, smallP p) (ha : a.natAbs < 256) (hb : b.natAbs < 256) : ∀ p ∈ ps ++ [(a, b)], smallP p := fun p hp => by
  rcases List.mem_append.mp hp with hp | hp
  · exact h p hp
  · rcases List.mem_singleton.mp hp with rfl
    exact ⟨ha, hb⟩
theorem chart_ok (q : Dk) {many more : Int} (h1 : 1 ≤ many) (h2 : many ≤ 24) (h3 : 0 ≤ more) (h4 : more ≤ 5) : ∃ (q' : Dk) (ps : List (Int × Int)) (cs : List PyData),
    d_lchart [.obj 1, .d (.int many), .d (.int more)] (q.mem []) = .ok (.d (.tuple [.int many, .tuple (ps.map Zm.pairD), .tuple cs])) (q'.mem []) ∧ ps.length ≤ 28 ∧ (∀ p ∈ ps, smallP p) ∧ cs.length ≤ 24 ∧
      ∀ x ∈ cs, ∃ i : Int, x = .int i ∧ i.natAbs < 256 := by
  obtain ⟨s1, M1, e1, q1, ps1, x1, y1, z1, rfl, rfl, hl1, hp1⟩ := forL_cnt (g := g2_lchart) (b := l2_lchart) (fun n s M => ∃ (q : Dk) (ps : List (Int × Int)) (x y z : Option Val), s = [some (.obj 1), some (.d (.int many)), some (.d (.int more)), some (.obj 2), x, y, none, z, none] ∧
      M = q.mem [.lst ((ps.map Zm.pairD).map .d)] ∧ ps.length ≤ n ∧ (∀ p ∈ ps, smallP p)) 100 (rangeL 1 (many - 1).toNat) 0 (by rw [rangeL_len]; omega)
    (by
      rintro v hv n s M hn ⟨q, ps, x, y, z, rfl, rfl, hl, hp⟩
      obtain ⟨i, rfl, hi1, hi2⟩ := rangeL_mem hv
      have hi3 : i < 24 := by omega
      refine ⟨_, _, rfl, ?_⟩
      obtain ⟨r1, q1, e1, a1, b1⟩ := draw_ok q [.lst ((ps.map Zm.pairD).map .d)] (m := 9) (by decide) (by decide)
      unfold l2_lchart
      simp only [z_bok, z_bsok, z_bbad, z_bsbad, z_seqbad, z_outbad, z_asgbad, small_fmod, small_lit, fits_le, smallR_lit, z_na64, z_bif, z_bsif, z_noer, z_seqn, z_seqr, z_seqif, z_outr, z_outn, z_outif, z_C, z_op, z_T, z_tand, z_tor, z_tnot, z_and, z_or, z_not, z_if, z_nil, z_cons, z_tup, z_lst, z_new, z_allD0, z_allD1, z_map, z_sNil, z_sSeq, z_sIf, z_sDrop, z_sRet, z_sAsg, z_asg, z_asgif, z_sPar, z_gN, z_gT, z_gsNil, z_gsCons, z_obind, z_gSet, z_B, z_It, z_Enum, z_R1, z_R2, z_r1, z_r2, z_Comp, z_For, z_Yes, z_M, z_Sl, z_oN, z_oS, z_Rev, z_Neg, z_IsI, z_call, z_callK, z_chain, z_body, z_rdd, z_rds, z_int, z_vI, z_vB, z_le, z_eqi, z_nei, z_nes, z_eqs, z_vInt, z_vI2, z_isN, z_notN, z_enumt, z_enuml, z_itl, z_itt, z_its, z_ixt0, z_ixt1, z_ixt2, z_lenl, z_lent, z_tyt, z_tyl, z_tyd, z_tyi, z_tyb, z_tys, z_tyn, isT_tt, isT_lt, isT_dt, isT_it, isT_bt, isT_st, isT_nt, isT_ti, isT_li, isT_di, isT_ii, isT_bi, isT_si, isT_ni, isT_tb, isT_lb, isT_db, isT_ib, isT_bb, isT_sb, isT_nb, isT_ts, isT_ls, isT_ds, isT_is, isT_bs, isT_ss, isT_ns, z_forn, z_mulx, z_lr1, z_lr1N, okR_le, dk_get, dk_set, dk_add, dk_ll, z_rdo, z_tyo, z_app, z_ext, z_star, z_lr2, z_listN, z_sqt, z_sql, z_leno, z_frz, fzL_d, z_lens, z_sls, z_sll, z_addl, z_addt, z_na10, z_dct0, z_disp, z_disp1, z_slt, z_revt, dk_rd2, dk_ty2, dk_mem1, dk_len0, z_tupl, z_tupt, z_listt, z_listl, z_in2, slots0, mVar, wipeS, pickBy, dk_rd0, dk_rd1, dk_ix0, dk_ix1, dk_ix2, dk_ne, dk_setn, dk_ty0, dk_ty1, Option.some.injEq, List.map_cons, List.map_nil, List.length_cons, List.length_nil, List.replicate_succ, List.replicate_zero, List.cons_append, List.nil_append, List.append_nil, List.getElem?_cons_zero, List.getElem?_cons_succ, List.set_cons_zero, List.set_cons_succ, List.zip_cons_cons, List.zip_nil_left, List.foldl_cons, List.foldl_nil, List.filterMap_cons, List.filterMap_nil, Nat.reduceSub, Nat.reduceAdd, Nat.reduceLT, Nat.reduceLeDiff, Nat.zero_add, Nat.add_zero, Nat.reduceEqDiff, decide_eq_true_eq, Bool.not_eq_true, Bool.not_true, Bool.not_false, Bool.not_not, ite_true, ite_false, if_true, if_false, reduceIte, Bool.false_eq_true, and_self, and_true, true_and, Int.reduceNeg, Int.reduceLT, Int.reduceLE, Int.reduceSub, Int.reduceAdd, Int.reduceMul, Int.reducePow, Int.reduceEq, Int.reduceNe, decide_true, decide_false, decide_not, Bool.and_true, Bool.true_and, Bool.or_true, Bool.true_or, ne_eq, not_true_eq_false, not_false_eq_true, Bool.and_self, false_and, and_false, reduceCtorEq, eq_self, beq_self_eq_true, List.set_nil, List.getElem?_nil, List.length_append, List.length_map, Bool.false_and, Bool.and_false, Bool.false_or, Bool.or_false, Int.cast_ofNat_Int, Int.reduceToNat, Int.zero_add, Int.add_zero, e1]
      by_cases hr : 0 < r1
      · obtain ⟨r2, q2, e2, a2, b2⟩ := draw_ok q1 [.lst ((ps.map Zm.pairD).map .d)] (m := 3) (by decide) (by decide)
        simp only [z_bok, z_bsok, z_bbad, z_bsbad, z_seqbad, z_outbad, z_asgbad, small_fmod, small_lit, fits_le, smallR_lit, z_na64, z_bif, z_bsif, z_noer, z_seqn, z_seqr, z_seqif, z_outr, z_outn, z_outif, z_C, z_op, z_T, z_tand, z_tor, z_tnot, z_and, z_or, z_not, z_if, z_nil, z_cons, z_tup, z_lst, z_new, z_allD0, z_allD1, z_map, z_sNil, z_sSeq, z_sIf, z_sDrop, z_sRet, z_sAsg, z_asg, z_asgif, z_sPar, z_gN, z_gT, z_gsNil, z_gsCons, z_obind, z_gSet, z_B, z_It, z_Enum, z_R1, z_R2, z_r1, z_r2, z_Comp, z_For, z_Yes, z_M, z_Sl, z_oN, z_oS, z_Rev, z_Neg, z_IsI, z_call, z_callK, z_chain, z_body, z_rdd, z_rds, z_int, z_vI, z_vB, z_le, z_eqi, z_nei, z_nes, z_eqs, z_vInt, z_vI2, z_isN, z_notN, z_enumt, z_enuml, z_itl, z_itt, z_its, z_ixt0, z_ixt1, z_ixt2, z_lenl, z_lent, z_tyt, z_tyl, z_tyd, z_tyi, z_tyb, z_tys, z_tyn, isT_tt, isT_lt, isT_dt, isT_it, isT_bt, isT_st, isT_nt, isT_ti, isT_li, isT_di, isT_ii, isT_bi, isT_si, isT_ni, isT_tb, isT_lb, isT_db, isT_ib, isT_bb, isT_sb, isT_nb, isT_ts, isT_ls, isT_ds, isT_is, isT_bs, isT_ss, isT_ns, z_forn, z_mulx, z_lr1, z_lr1N, okR_le, dk_get, dk_set, dk_add, dk_ll, z_rdo, z_tyo, z_app, z_ext, z_star, z_lr2, z_listN, z_sqt, z_sql, z_leno, z_frz, fzL_d, z_lens, z_sls, z_sll, z_addl, z_addt, z_na10, z_dct0, z_disp, z_disp1, z_slt, z_revt, dk_rd2, dk_ty2, dk_mem1, dk_len0, z_tupl, z_tupt, z_listt, z_listl, z_in2, slots0, mVar, wipeS, pickBy, dk_rd0, dk_rd1, dk_ix0, dk_ix1, dk_ix2, dk_ne, dk_setn, dk_ty0, dk_ty1, Option.some.injEq, List.map_cons, List.map_nil, List.length_cons, List.length_nil, List.replicate_succ, List.replicate_zero, List.cons_append, List.nil_append, List.append_nil, List.getElem?_cons_zero, List.getElem?_cons_succ, List.set_cons_zero, List.set_cons_succ, List.zip_cons_cons, List.zip_nil_left, List.foldl_cons, List.foldl_nil, List.filterMap_cons, List.filterMap_nil, Nat.reduceSub, Nat.reduceAdd, Nat.reduceLT, Nat.reduceLeDiff, Nat.zero_add, Nat.add_zero, Nat.reduceEqDiff, decide_eq_true_eq, Bool.not_eq_true, Bool.not_true, Bool.not_false, Bool.not_not, ite_true, ite_false, if_true, if_false, reduceIte, Bool.false_eq_true, and_self, and_true, true_and, Int.reduceNeg, Int.reduceLT, Int.reduceLE, Int.reduceSub, Int.reduceAdd, Int.reduceMul, Int.reducePow, Int.reduceEq, Int.reduceNe, decide_true, decide_false, decide_not, Bool.and_true, Bool.true_and, Bool.or_true, Bool.true_or, ne_eq, not_true_eq_false, not_false_eq_true, Bool.and_self, false_and, and_false, reduceCtorEq, eq_self, beq_self_eq_true, List.set_nil, List.getElem?_nil, List.length_append, List.length_map, Bool.false_and, Bool.and_false, Bool.false_or, Bool.or_false, Int.cast_ofNat_Int, Int.reduceToNat, Int.zero_add, Int.add_zero, hr, e2, show ps.length < 16777216 by omega]
        rw [snoc_pairs]
        refine ⟨_, _, rfl, q2, _, _, _, _, rfl, rfl, by rw [List.length_append, List.length_singleton]; omega, snoc_small hp ?_ ?_⟩
        · split <;> omega
        · omega
      · simp only [z_bok, z_bsok, z_bbad, z_bsbad, z_seqbad, z_outbad, z_asgbad, small_fmod, small_lit, fits_le, smallR_lit, z_na64, z_bif, z_bsif, z_noer, z_seqn, z_seqr, z_seqif, z_outr, z_outn, z_outif, z_C, z_op, z_T, z_tand, z_tor, z_tnot, z_and, z_or, z_not, z_if, z_nil, z_cons, z_tup, z_lst, z_new, z_allD0, z_allD1, z_map, z_sNil, z_sSeq, z_sIf, z_sDrop, z_sRet, z_sAsg, z_asg, z_asgif, z_sPar, z_gN, z_gT, z_gsNil, z_gsCons, z_obind, z_gSet, z_B, z_It, z_Enum, z_R1, z_R2, z_r1, z_r2, z_Comp, z_For, z_Yes, z_M, z_Sl, z_oN, z_oS, z_Rev, z_Neg, z_IsI, z_call, z_callK, z_chain, z_body, z_rdd, z_rds, z_int, z_vI, z_vB, z_le, z_eqi, z_nei, z_nes, z_eqs, z_vInt, z_vI2, z_isN, z_notN, z_enumt, z_enuml, z_itl, z_itt, z_its, z_ixt0, z_ixt1, z_ixt2, z_lenl, z_lent, z_tyt, z_tyl, z_tyd, z_tyi, z_tyb, z_tys, z_tyn, isT_tt, isT_lt, isT_dt, isT_it, isT_bt, isT_st, isT_nt, isT_ti, isT_li, isT_di, isT_ii, isT_bi, isT_si, isT_ni, isT_tb, isT_lb, isT_db, isT_ib, isT_bb, isT_sb, isT_nb, isT_ts, isT_ls, isT_ds, isT_is, isT_bs, isT_ss, isT_ns, z_forn, z_mulx, z_lr1, z_lr1N, okR_le, dk_get, dk_set, dk_add, dk_ll, z_rdo, z_tyo, z_app, z_ext, z_star, z_lr2, z_listN, z_sqt, z_sql, z_leno, z_frz, fzL_d, z_lens, z_sls, z_sll, z_addl, z_addt, z_na10, z_dct0, z_disp, z_disp1, z_slt, z_revt, dk_rd2, dk_ty2, dk_mem1, dk_len0, z_tupl, z_tupt, z_listt, z_listl, z_in2, slots0, mVar, wipeS, pickBy, dk_rd0, dk_rd1, dk_ix0, dk_ix1, dk_ix2, dk_ne, dk_setn, dk_ty0, dk_ty1, Option.some.injEq, List.map_cons, List.map_nil, List.length_cons, List.length_nil, List.replicate_succ, List.replicate_zero, List.cons_append, List.nil_append, List.append_nil, List.getElem?_cons_zero, List.getElem?_cons_succ, List.set_cons_zero, List.set_cons_succ, List.zip_cons_cons, List.zip_nil_left, List.foldl_cons, List.foldl_nil, List.filterMap_cons, List.filterMap_nil, Nat.reduceSub, Nat.reduceAdd, Nat.reduceLT, Nat.reduceLeDiff, Nat.zero_add, Nat.add_zero, Nat.reduceEqDiff, decide_eq_true_eq, Bool.not_eq_true, Bool.not_true, Bool.not_false, Bool.not_not, ite_true, ite_false, if_true, if_false, reduceIte, Bool.false_eq_true, and_self, and_true, true_and, Int.reduceNeg, Int.reduceLT, Int.reduceLE, Int.reduceSub, Int.reduceAdd, Int.reduceMul, Int.reducePow, Int.reduceEq, Int.reduceNe, decide_true, decide_false, decide_not, Bool.and_true, Bool.true_and, Bool.or_true, Bool.true_or, ne_eq, not_true_eq_false, not_false_eq_true, Bool.and_self, false_and, and_false, reduceCtorEq, eq_self, beq_self_eq_true, List.set_nil, List.getElem?_nil, List.length_append, List.length_map, Bool.false_and, Bool.and_false, Bool.false_or, Bool.or_false, Int.cast_ofNat_Int, Int.reduceToNat, Int.zero_add, Int.add_zero, hr]
        exact ⟨_, _, rfl, q1, ps, _, _, _, rfl, rfl, by omega, hp⟩)
    [some (.obj 1), some (.d (.int many)), some (.d (.int more)), some (.obj 2), none, none, none, none, none] (q.mem [.lst []]) ⟨q, [], _, _, _, rfl, rfl, Nat.le_refl _, fun _ h => by cases h⟩
  rw [rangeL_len] at hl1
  obtain ⟨s2, M2, e2, q2, ps2, x2, y2, z2, rfl, rfl, hl2, hp2⟩ := forL_cnt (g := g1_lchart) (b := l1_lchart) (fun n s M => ∃ (q : Dk) (ps : List (Int × Int)) (x y z : Option Val), s = [some (.obj 1), some (.d (.int many)), some (.d (.int more)), some (.obj 2), x, y, none, z, none] ∧
      M = q.mem [.lst ((ps.map Zm.pairD).map .d)] ∧ ps.length ≤ n ∧ (∀ p ∈ ps, smallP p)) 100 (rangeL 0 more.toNat) ps1.length (by rw [rangeL_len]; omega)
    (by
      rintro v hv n s M hn ⟨q, ps, x, y, z, rfl, rfl, hl, hp⟩
      refine ⟨_, _, rfl, ?_⟩
      obtain ⟨r1, q1, e1, a1, b1⟩ := draw_ok q [.lst ((ps.map Zm.pairD).map .d)] (m := many) (by omega) (by omega)
      obtain ⟨r2, q2, e2, a2, b2⟩ := draw_ok q1 [.lst ((ps.map Zm.pairD).map .d)] (m := many) (by omega) (by omega)
      have hin := z_inp (neg := true) (M := q2.mem [.lst ((ps.map Zm.pairD).map .d)]) (v := .d (.tuple [.int r1, .int r2])) (w := .obj 2) rfl (seqD_obj rfl) (shaped_intt [r1, r2]) (lay_pairs ps)
      unfold l1_lchart
      simp only [z_bok, z_bsok, z_bbad, z_bsbad, z_seqbad, z_outbad, z_asgbad, small_fmod, small_lit, fits_le, smallR_lit, z_na64, z_bif, z_bsif, z_noer, z_seqn, z_seqr, z_seqif, z_outr, z_outn, z_outif, z_C, z_op, z_T, z_tand, z_tor, z_tnot, z_and, z_or, z_not, z_if, z_nil, z_cons, z_tup, z_lst, z_new, z_allD0, z_allD1, z_map, z_sNil, z_sSeq, z_sIf, z_sDrop, z_sRet, z_sAsg, z_asg, z_asgif, z_sPar, z_gN, z_gT, z_gsNil, z_gsCons, z_obind, z_gSet, z_B, z_It, z_Enum, z_R1, z_R2, z_r1, z_r2, z_Comp, z_For, z_Yes, z_M, z_Sl, z_oN, z_oS, z_Rev, z_Neg, z_IsI, z_call, z_callK, z_chain, z_body, z_rdd, z_rds, z_int, z_vI, z_vB, z_le, z_eqi, z_nei, z_nes, z_eqs, z_vInt, z_vI2, z_isN, z_notN, z_enumt, z_enuml, z_itl, z_itt, z_its, z_ixt0, z_ixt1, z_ixt2, z_lenl, z_lent, z_tyt, z_tyl, z_tyd, z_tyi, z_tyb, z_tys, z_tyn, isT_tt, isT_lt, isT_dt, isT_it, isT_bt, isT_st, isT_nt, isT_ti, isT_li, isT_di, isT_ii, isT_bi, isT_si, isT_ni, isT_tb, isT_lb, isT_db, isT_ib, isT_bb, isT_sb, isT_nb, isT_ts, isT_ls, isT_ds, isT_is, isT_bs, isT_ss, isT_ns, z_forn, z_mulx, z_lr1, z_lr1N, okR_le, dk_get, dk_set, dk_add, dk_ll, z_rdo, z_tyo, z_app, z_ext, z_star, z_lr2, z_listN, z_sqt, z_sql, z_leno, z_frz, fzL_d, z_lens, z_sls, z_sll, z_addl, z_addt, z_na10, z_dct0, z_disp, z_disp1, z_slt, z_revt, dk_rd2, dk_ty2, dk_mem1, dk_len0, z_tupl, z_tupt, z_listt, z_listl, z_in2, slots0, mVar, wipeS, pickBy, dk_rd0, dk_rd1, dk_ix0, dk_ix1, dk_ix2, dk_ne, dk_setn, dk_ty0, dk_ty1, Option.some.injEq, List.map_cons, List.map_nil, List.length_cons, List.length_nil, List.replicate_succ, List.replicate_zero, List.cons_append, List.nil_append, List.append_nil, List.getElem?_cons_zero, List.getElem?_cons_succ, List.set_cons_zero, List.set_cons_succ, List.zip_cons_cons, List.zip_nil_left, List.foldl_cons, List.foldl_nil, List.filterMap_cons, List.filterMap_nil, Nat.reduceSub, Nat.reduceAdd, Nat.reduceLT, Nat.reduceLeDiff, Nat.zero_add, Nat.add_zero, Nat.reduceEqDiff, decide_eq_true_eq, Bool.not_eq_true, Bool.not_true, Bool.not_false, Bool.not_not, ite_true, ite_false, if_true, if_false, reduceIte, Bool.false_eq_true, and_self, and_true, true_and, Int.reduceNeg, Int.reduceLT, Int.reduceLE, Int.reduceSub, Int.reduceAdd, Int.reduceMul, Int.reducePow, Int.reduceEq, Int.reduceNe, decide_true, decide_false, decide_not, Bool.and_true, Bool.true_and, Bool.or_true, Bool.true_or, ne_eq, not_true_eq_false, not_false_eq_true, Bool.and_self, false_and, and_false, reduceCtorEq, eq_self, beq_self_eq_true, List.set_nil, List.getElem?_nil, List.length_append, List.length_map, Bool.false_and, Bool.and_false, Bool.false_or, Bool.or_false, Int.cast_ofNat_Int, Int.reduceToNat, Int.zero_add, Int.add_zero, e1, e2, hin]
      by_cases hr : r1 < r2
      · simp only [z_bok, z_bsok, z_bbad, z_bsbad, z_seqbad, z_outbad, z_asgbad, small_fmod, small_lit, fits_le, smallR_lit, z_na64, z_bif, z_bsif, z_noer, z_seqn, z_seqr, z_seqif, z_outr, z_outn, z_outif, z_C, z_op, z_T, z_tand, z_tor, z_tnot, z_and, z_or, z_not, z_if, z_nil, z_cons, z_tup, z_lst, z_new, z_allD0, z_allD1, z_map, z_sNil, z_sSeq, z_sIf, z_sDrop, z_sRet, z_sAsg, z_asg, z_asgif, z_sPar, z_gN, z_gT, z_gsNil, z_gsCons, z_obind, z_gSet, z_B, z_It, z_Enum, z_R1, z_R2, z_r1, z_r2, z_Comp, z_For, z_Yes, z_M, z_Sl, z_oN, z_oS, z_Rev, z_Neg, z_IsI, z_call, z_callK, z_chain, z_body, z_rdd, z_rds, z_int, z_vI, z_vB, z_le, z_eqi, z_nei, z_nes, z_eqs, z_vInt, z_vI2, z_isN, z_notN, z_enumt, z_enuml, z_itl, z_itt, z_its, z_ixt0, z_ixt1, z_ixt2, z_lenl, z_lent, z_tyt, z_tyl, z_tyd, z_tyi, z_tyb, z_tys, z_tyn, isT_tt, isT_lt, isT_dt, isT_it, isT_bt, isT_st, isT_nt, isT_ti, isT_li, isT_di, isT_ii, isT_bi, isT_si, isT_ni, isT_tb, isT_lb, isT_db, isT_ib, isT_bb, isT_sb, isT_nb, isT_ts, isT_ls, isT_ds, isT_is, isT_bs, isT_ss, isT_ns, z_forn, z_mulx, z_lr1, z_lr1N, okR_le, dk_get, dk_set, dk_add, dk_ll, z_rdo, z_tyo, z_app, z_ext, z_star, z_lr2, z_listN, z_sqt, z_sql, z_leno, z_frz, fzL_d, z_lens, z_sls, z_sll, z_addl, z_addt, z_na10, z_dct0, z_disp, z_disp1, z_slt, z_revt, dk_rd2, dk_ty2, dk_mem1, dk_len0, z_tupl, z_tupt, z_listt, z_listl, z_in2, slots0, mVar, wipeS, pickBy, dk_rd0, dk_rd1, dk_ix0, dk_ix1, dk_ix2, dk_ne, dk_setn, dk_ty0, dk_ty1, Option.some.injEq, List.map_cons, List.map_nil, List.length_cons, List.length_nil, List.replicate_succ, List.replicate_zero, List.cons_append, List.nil_append, List.append_nil, List.getElem?_cons_zero, List.getElem?_cons_succ, List.set_cons_zero, List.set_cons_succ, List.zip_cons_cons, List.zip_nil_left, List.foldl_cons, List.foldl_nil, List.filterMap_cons, List.filterMap_nil, Nat.reduceSub, Nat.reduceAdd, Nat.reduceLT, Nat.reduceLeDiff, Nat.zero_add, Nat.add_zero, Nat.reduceEqDiff, decide_eq_true_eq, Bool.not_eq_true, Bool.not_true, Bool.not_false, Bool.not_not, ite_true, ite_false, if_true, if_false, reduceIte, Bool.false_eq_true, and_self, and_true, true_and, Int.reduceNeg, Int.reduceLT, Int.reduceLE, Int.reduceSub, Int.reduceAdd, Int.reduceMul, Int.reducePow, Int.reduceEq, Int.reduceNe, decide_true, decide_false, decide_not, Bool.and_true, Bool.true_and, Bool.or_true, Bool.true_or, ne_eq, not_true_eq_false, not_false_eq_true, Bool.and_self, false_and, and_false, reduceCtorEq, eq_self, beq_self_eq_true, List.set_nil, List.getElem?_nil, List.length_append, List.length_map, Bool.false_and, Bool.and_false, Bool.false_or, Bool.or_false, Int.cast_ofNat_Int, Int.reduceToNat, Int.zero_add, Int.add_zero, hr]
        split
        · simp only [z_bok, z_bsok, z_bbad, z_bsbad, z_seqbad, z_outbad, z_asgbad, small_fmod, small_lit, fits_le, smallR_lit, z_na64, z_bif, z_bsif, z_noer, z_seqn, z_seqr, z_seqif, z_outr, z_outn, z_outif, z_C, z_op, z_T, z_tand, z_tor, z_tnot, z_and, z_or, z_not, z_if, z_nil, z_cons, z_tup, z_lst, z_new, z_allD0, z_allD1, z_map, z_sNil, z_sSeq, z_sIf, z_sDrop, z_sRet, z_sAsg, z_asg, z_asgif, z_sPar, z_gN, z_gT, z_gsNil, z_gsCons, z_obind, z_gSet, z_B, z_It, z_Enum, z_R1, z_R2, z_r1, z_r2, z_Comp, z_For, z_Yes, z_M, z_Sl, z_oN, z_oS, z_Rev, z_Neg, z_IsI, z_call, z_callK, z_chain, z_body, z_rdd, z_rds, z_int, z_vI, z_vB, z_le, z_eqi, z_nei, z_nes, z_eqs, z_vInt, z_vI2, z_isN, z_notN, z_enumt, z_enuml, z_itl, z_itt, z_its, z_ixt0, z_ixt1, z_ixt2, z_lenl, z_lent, z_tyt, z_tyl, z_tyd, z_tyi, z_tyb, z_tys, z_tyn, isT_tt, isT_lt, isT_dt, isT_it, isT_bt, isT_st, isT_nt, isT_ti, isT_li, isT_di, isT_ii, isT_bi, isT_si, isT_ni, isT_tb, isT_lb, isT_db, isT_ib, isT_bb, isT_sb, isT_nb, isT_ts, isT_ls, isT_ds, isT_is, isT_bs, isT_ss, isT_ns, z_forn, z_mulx, z_lr1, z_lr1N, okR_le, dk_get, dk_set, dk_add, dk_ll, z_rdo, z_tyo, z_app, z_ext, z_star, z_lr2, z_listN, z_sqt, z_sql, z_leno, z_frz, fzL_d, z_lens, z_sls, z_sll, z_addl, z_addt, z_na10, z_dct0, z_disp, z_disp1, z_slt, z_revt, dk_rd2, dk_ty2, dk_mem1, dk_len0, z_tupl, z_tupt, z_listt, z_listl, z_in2, slots0, mVar, wipeS, pickBy, dk_rd0, dk_rd1, dk_ix0, dk_ix1, dk_ix2, dk_ne, dk_setn, dk_ty0, dk_ty1, Option.some.injEq, List.map_cons, List.map_nil, List.length_cons, List.length_nil, List.replicate_succ, List.replicate_zero, List.cons_append, List.nil_append, List.append_nil, List.getElem?_cons_zero, List.getElem?_cons_succ, List.set_cons_zero, List.set_cons_succ, List.zip_cons_cons, List.zip_nil_left, List.foldl_cons, List.foldl_nil, List.filterMap_cons, List.filterMap_nil, Nat.reduceSub, Nat.reduceAdd, Nat.reduceLT, Nat.reduceLeDiff, Nat.zero_add, Nat.add_zero, Nat.reduceEqDiff, decide_eq_true_eq, Bool.not_eq_true, Bool.not_true, Bool.not_false, Bool.not_not, ite_true, ite_false, if_true, if_false, reduceIte, Bool.false_eq_true, and_self, and_true, true_and, Int.reduceNeg, Int.reduceLT, Int.reduceLE, Int.reduceSub, Int.reduceAdd, Int.reduceMul, Int.reducePow, Int.reduceEq, Int.reduceNe, decide_true, decide_false, decide_not, Bool.and_true, Bool.true_and, Bool.or_true, Bool.true_or, ne_eq, not_true_eq_false, not_false_eq_true, Bool.and_self, false_and, and_false, reduceCtorEq, eq_self, beq_self_eq_true, List.set_nil, List.getElem?_nil, List.length_append, List.length_map, Bool.false_and, Bool.and_false, Bool.false_or, Bool.or_false, Int.cast_ofNat_Int, Int.reduceToNat, Int.zero_add, Int.add_zero, show ps.length < 16777216 by omega]
          rw [snoc_pairs]
          exact ⟨_, _, rfl, q2, _, _, _, _, rfl, rfl, by rw [List.length_append, List.length_singleton]; omega, snoc_small hp (by omega) (by omega)⟩
        · exact ⟨_, _, rfl, q2, ps, _, _, _, rfl, rfl, by omega, hp⟩
      · simp only [z_bok, z_bsok, z_bbad, z_bsbad, z_seqbad, z_outbad, z_asgbad, small_fmod, small_lit, fits_le, smallR_lit, z_na64, z_bif, z_bsif, z_noer, z_seqn, z_seqr, z_seqif, z_outr, z_outn, z_outif, z_C, z_op, z_T, z_tand, z_tor, z_tnot, z_and, z_or, z_not, z_if, z_nil, z_cons, z_tup, z_lst, z_new, z_allD0, z_allD1, z_map, z_sNil, z_sSeq, z_sIf, z_sDrop, z_sRet, z_sAsg, z_asg, z_asgif, z_sPar, z_gN, z_gT, z_gsNil, z_gsCons, z_obind, z_gSet, z_B, z_It, z_Enum, z_R1, z_R2, z_r1, z_r2, z_Comp, z_For, z_Yes, z_M, z_Sl, z_oN, z_oS, z_Rev, z_Neg, z_IsI, z_call, z_callK, z_chain, z_body, z_rdd, z_rds, z_int, z_vI, z_vB, z_le, z_eqi, z_nei, z_nes, z_eqs, z_vInt, z_vI2, z_isN, z_notN, z_enumt, z_enuml, z_itl, z_itt, z_its, z_ixt0, z_ixt1, z_ixt2, z_lenl, z_lent, z_tyt, z_tyl, z_tyd, z_tyi, z_tyb, z_tys, z_tyn, isT_tt, isT_lt, isT_dt, isT_it, isT_bt, isT_st, isT_nt, isT_ti, isT_li, isT_di, isT_ii, isT_bi, isT_si, isT_ni, isT_tb, isT_lb, isT_db, isT_ib, isT_bb, isT_sb, isT_nb, isT_ts, isT_ls, isT_ds, isT_is, isT_bs, isT_ss, isT_ns, z_forn, z_mulx, z_lr1, z_lr1N, okR_le, dk_get, dk_set, dk_add, dk_ll, z_rdo, z_tyo, z_app, z_ext, z_star, z_lr2, z_listN, z_sqt, z_sql, z_leno, z_frz, fzL_d, z_lens, z_sls, z_sll, z_addl, z_addt, z_na10, z_dct0, z_disp, z_disp1, z_slt, z_revt, dk_rd2, dk_ty2, dk_mem1, dk_len0, z_tupl, z_tupt, z_listt, z_listl, z_in2, slots0, mVar, wipeS, pickBy, dk_rd0, dk_rd1, dk_ix0, dk_ix1, dk_ix2, dk_ne, dk_setn, dk_ty0, dk_ty1, Option.some.injEq, List.map_cons, List.map_nil, List.length_cons, List.length_nil, List.replicate_succ, List.replicate_zero, List.cons_append, List.nil_append, List.append_nil, List.getElem?_cons_zero, List.getElem?_cons_succ, List.set_cons_zero, List.set_cons_succ, List.zip_cons_cons, List.zip_nil_left, List.foldl_cons, List.foldl_nil, List.filterMap_cons, List.filterMap_nil, Nat.reduceSub, Nat.reduceAdd, Nat.reduceLT, Nat.reduceLeDiff, Nat.zero_add, Nat.add_zero, Nat.reduceEqDiff, decide_eq_true_eq, Bool.not_eq_true, Bool.not_true, Bool.not_false, Bool.not_not, ite_true, ite_false, if_true, if_false, reduceIte, Bool.false_eq_true, and_self, and_true, true_and, Int.reduceNeg, Int.reduceLT, Int.reduceLE, Int.reduceSub, Int.reduceAdd, Int.reduceMul, Int.reducePow, Int.reduceEq, Int.reduceNe, decide_true, decide_false, decide_not, Bool.and_true, Bool.true_and, Bool.or_true, Bool.true_or, ne_eq, not_true_eq_false, not_false_eq_true, Bool.and_self, false_and, and_false, reduceCtorEq, eq_self, beq_self_eq_true, List.set_nil, List.getElem?_nil, List.length_append, List.length_map, Bool.false_and, Bool.and_false, Bool.false_or, Bool.or_false, Int.cast_ofNat_Int, Int.reduceToNat, Int.zero_add, Int.add_zero, hr]
        exact ⟨_, _, rfl, q2, ps, _, _, _, rfl, rfl, by omega, hp⟩)
    _ _ ⟨q1, ps1, x1, y1, z1, rfl, rfl, Nat.le_refl _, hp1⟩
  rw [rangeL_len] at hl2
  obtain ⟨ys, M3, e3, ⟨q3, rfl⟩, hR, hyl⟩ := compL_inv (g := g0_lchart) (t := t0_lchart) (e := e0_lchart) (s0 := [some (.obj 1), some (.d (.int many)), some (.d (.int more)), some (.obj 2), x2, y2, none, z2, none])
    (fun M => ∃ q : Dk, M = q.mem [.lst ((ps2.map Zm.pairD).map .d)]) (fun y => ∃ x, y = .d x ∧ ∃ i : Int, x = .int i ∧ i.natAbs < 256) (rangeL 0 many.toNat)
    (by
      rintro v hv M ⟨q, rfl⟩
      obtain ⟨i, rfl, hi1, hi2⟩ := rangeL_mem hv
      refine ⟨_, _, rfl, ?_⟩
      obtain ⟨r1, q1, e1, a1, b1⟩ := draw_ok q [.lst ((ps2.map Zm.pairD).map .d)] (m := 2) (by decide) (by decide)
      unfold t0_lchart
      simp only [z_bok, z_bsok, z_bbad, z_bsbad, z_seqbad, z_outbad, z_asgbad, small_fmod, small_lit, fits_le, smallR_lit, z_na64, z_bif, z_bsif, z_noer, z_seqn, z_seqr, z_seqif, z_outr, z_outn, z_outif, z_C, z_op, z_T, z_tand, z_tor, z_tnot, z_and, z_or, z_not, z_if, z_nil, z_cons, z_tup, z_lst, z_new, z_allD0, z_allD1, z_map, z_sNil, z_sSeq, z_sIf, z_sDrop, z_sRet, z_sAsg, z_asg, z_asgif, z_sPar, z_gN, z_gT, z_gsNil, z_gsCons, z_obind, z_gSet, z_B, z_It, z_Enum, z_R1, z_R2, z_r1, z_r2, z_Comp, z_For, z_Yes, z_M, z_Sl, z_oN, z_oS, z_Rev, z_Neg, z_IsI, z_call, z_callK, z_chain, z_body, z_rdd, z_rds, z_int, z_vI, z_vB, z_le, z_eqi, z_nei, z_nes, z_eqs, z_vInt, z_vI2, z_isN, z_notN, z_enumt, z_enuml, z_itl, z_itt, z_its, z_ixt0, z_ixt1, z_ixt2, z_lenl, z_lent, z_tyt, z_tyl, z_tyd, z_tyi, z_tyb, z_tys, z_tyn, isT_tt, isT_lt, isT_dt, isT_it, isT_bt, isT_st, isT_nt, isT_ti, isT_li, isT_di, isT_ii, isT_bi, isT_si, isT_ni, isT_tb, isT_lb, isT_db, isT_ib, isT_bb, isT_sb, isT_nb, isT_ts, isT_ls, isT_ds, isT_is, isT_bs, isT_ss, isT_ns, z_forn, z_mulx, z_lr1, z_lr1N, okR_le, dk_get, dk_set, dk_add, dk_ll, z_rdo, z_tyo, z_app, z_ext, z_star, z_lr2, z_listN, z_sqt, z_sql, z_leno, z_frz, fzL_d, z_lens, z_sls, z_sll, z_addl, z_addt, z_na10, z_dct0, z_disp, z_disp1, z_slt, z_revt, dk_rd2, dk_ty2, dk_mem1, dk_len0, z_tupl, z_tupt, z_listt, z_listl, z_in2, slots0, mVar, wipeS, pickBy, dk_rd0, dk_rd1, dk_ix0, dk_ix1, dk_ix2, dk_ne, dk_setn, dk_ty0, dk_ty1, Option.some.injEq, List.map_cons, List.map_nil, List.length_cons, List.length_nil, List.replicate_succ, List.replicate_zero, List.cons_append, List.nil_append, List.append_nil, List.getElem?_cons_zero, List.getElem?_cons_succ, List.set_cons_zero, List.set_cons_succ, List.zip_cons_cons, List.zip_nil_left, List.foldl_cons, List.foldl_nil, List.filterMap_cons, List.filterMap_nil, Nat.reduceSub, Nat.reduceAdd, Nat.reduceLT, Nat.reduceLeDiff, Nat.zero_add, Nat.add_zero, Nat.reduceEqDiff, decide_eq_true_eq, Bool.not_eq_true, Bool.not_true, Bool.not_false, Bool.not_not, ite_true, ite_false, if_true, if_false, reduceIte, Bool.false_eq_true, and_self, and_true, true_and, Int.reduceNeg, Int.reduceLT, Int.reduceLE, Int.reduceSub, Int.reduceAdd, Int.reduceMul, Int.reducePow, Int.reduceEq, Int.reduceNe, decide_true, decide_false, decide_not, Bool.and_true, Bool.true_and, Bool.or_true, Bool.true_or, ne_eq, not_true_eq_false, not_false_eq_true, Bool.and_self, false_and, and_false, reduceCtorEq, eq_self, beq_self_eq_true, List.set_nil, List.getElem?_nil, List.length_append, List.length_map, Bool.false_and, Bool.and_false, Bool.false_or, Bool.or_false, Int.cast_ofNat_Int, Int.reduceToNat, Int.zero_add, Int.add_zero, e1]
      refine ⟨_, _, rfl, ?_⟩
      split
      · exact ⟨_, _, rfl, ⟨q1, rfl⟩, _, rfl, i, rfl, by omega⟩
      · exact ⟨q1, rfl⟩) _ ⟨q2, rfl⟩
  rw [rangeL_len] at hyl
  obtain ⟨cs, rfl, hcs⟩ := allD_of hR
  rw [List.length_map] at hyl
  refine ⟨q3, sortP ps2, cs, z_trimc (R := [.lst ((ps2.map Zm.pairD).map .d)]) ?_ rfl (dk_below (Nat.succ_pos _)), ?_, ?_, by omega, hcs⟩
  · unfold b_lchart
    have b1 : -4611686018427387904 ≤ many := by omega
    have b2 : many < 4611686018427387904 := by omega
    have b3 : -4611686018427387904 ≤ more := by omega
    have b4 : more < 4611686018427387904 := by omega
    simp only [z_bok, z_bsok, z_bbad, z_bsbad, z_seqbad, z_outbad, z_asgbad, small_fmod, small_lit, fits_le, smallR_lit, z_na64, z_bif, z_bsif, z_noer, z_seqn, z_seqr, z_seqif, z_outr, z_outn, z_outif, z_C, z_op, z_T, z_tand, z_tor, z_tnot, z_and, z_or, z_not, z_if, z_nil, z_cons, z_tup, z_lst, z_new, z_allD0, z_allD1, z_map, z_sNil, z_sSeq, z_sIf, z_sDrop, z_sRet, z_sAsg, z_asg, z_asgif, z_sPar, z_gN, z_gT, z_gsNil, z_gsCons, z_obind, z_gSet, z_B, z_It, z_Enum, z_R1, z_R2, z_r1, z_r2, z_Comp, z_For, z_Yes, z_M, z_Sl, z_oN, z_oS, z_Rev, z_Neg, z_IsI, z_call, z_callK, z_chain, z_body, z_rdd, z_rds, z_int, z_vI, z_vB, z_le, z_eqi, z_nei, z_nes, z_eqs, z_vInt, z_vI2, z_isN, z_notN, z_enumt, z_enuml, z_itl, z_itt, z_its, z_ixt0, z_ixt1, z_ixt2, z_lenl, z_lent, z_tyt, z_tyl, z_tyd, z_tyi, z_tyb, z_tys, z_tyn, isT_tt, isT_lt, isT_dt, isT_it, isT_bt, isT_st, isT_nt, isT_ti, isT_li, isT_di, isT_ii, isT_bi, isT_si, isT_ni, isT_tb, isT_lb, isT_db, isT_ib, isT_bb, isT_sb, isT_nb, isT_ts, isT_ls, isT_ds, isT_is, isT_bs, isT_ss, isT_ns, z_forn, z_mulx, z_lr1, z_lr1N, okR_le, dk_get, dk_set, dk_add, dk_ll, z_rdo, z_tyo, z_app, z_ext, z_star, z_lr2, z_listN, z_sqt, z_sql, z_leno, z_frz, fzL_d, z_lens, z_sls, z_sll, z_addl, z_addt, z_na10, z_dct0, z_disp, z_disp1, z_slt, z_revt, dk_rd2, dk_ty2, dk_mem1, dk_len0, z_tupl, z_tupt, z_listt, z_listl, z_in2, slots0, mVar, wipeS, pickBy, dk_rd0, dk_rd1, dk_ix0, dk_ix1, dk_ix2, dk_ne, dk_setn, dk_ty0, dk_ty1, Option.some.injEq, List.map_cons, List.map_nil, List.length_cons, List.length_nil, List.replicate_succ, List.replicate_zero, List.cons_append, List.nil_append, List.append_nil, List.getElem?_cons_zero, List.getElem?_cons_succ, List.set_cons_zero, List.set_cons_succ, List.zip_cons_cons, List.zip_nil_left, List.foldl_cons, List.foldl_nil, List.filterMap_cons, List.filterMap_nil, Nat.reduceSub, Nat.reduceAdd, Nat.reduceLT, Nat.reduceLeDiff, Nat.zero_add, Nat.add_zero, Nat.reduceEqDiff, decide_eq_true_eq, Bool.not_eq_true, Bool.not_true, Bool.not_false, Bool.not_not, ite_true, ite_false, if_true, if_false, reduceIte, Bool.false_eq_true, and_self, and_true, true_and, Int.reduceNeg, Int.reduceLT, Int.reduceLE, Int.reduceSub, Int.reduceAdd, Int.reduceMul, Int.reducePow, Int.reduceEq, Int.reduceNe, decide_true, decide_false, decide_not, Bool.and_true, Bool.true_and, Bool.or_true, Bool.true_or, ne_eq, not_true_eq_false, not_false_eq_true, Bool.and_self, false_and, and_false, reduceCtorEq, eq_self, beq_self_eq_true, List.set_nil, List.getElem?_nil, List.length_append, List.length_map, Bool.false_and, Bool.and_false, Bool.false_or, Bool.or_false, Int.cast_ofNat_Int, Int.reduceToNat, Int.zero_add, Int.add_zero, b1, b2, b3, b4, e1, e2, e3, z_lcK (show cs.length ≤ 16777216 by omega), z_sortX dk_list2 (sortD_p _)]
  · rw [(sortP_perm ps2).length_eq]; omega
  · exact fun p hp => hp2 p ((sortP_perm ps2).mem_iff.mp hp)
end Zl
namespace Zl
open PySem PySem.Spec PyProof.Rows L2 Zm
/-! ### the deck is laid -/
def natV (y : Val) : Prop := ∃ x, y = .d x ∧ ∃ i : Int, x = .int i ∧ 0 ≤ i
theorem deck_ok {ns : List Int} (hl : ns.length ≤ 63) : ∃ q : Dk, d_ldeck [.scr ns] [] = .ok (.obj 1) (q.mem []) := by
  obtain ⟨ys, M1, e1, rfl, hR, hyl⟩ := compL_inv (g := g2_ldeck) (t := mYes) (e := e2_ldeck) (s0 := [some (.scr ns), none, none, none]) (fun M => M = []) natV ((cutL (ns.map PyData.int) none (some 63)).map .d) (by
    rintro v hv M rfl
    obtain ⟨x, hx, rfl⟩ := List.mem_map.mp hv
    obtain ⟨i, hi, rfl⟩ := List.mem_map.mp ((cutL_sub _ _ _).mem hx)
    refine ⟨_, _, rfl, _, _, rfl, ?_⟩
    rw [if_pos rfl]
    unfold e2_ldeck
    simp only [z_bok, z_bsok, z_bbad, z_bsbad, z_seqbad, z_outbad, z_asgbad, small_fmod, small_lit, fits_le, smallR_lit, z_na64, z_bif, z_bsif, z_noer, z_seqn, z_seqr, z_seqif, z_outr, z_outn, z_outif, z_C, z_op, z_T, z_tand, z_tor, z_tnot, z_and, z_or, z_not, z_if, z_nil, z_cons, z_tup, z_lst, z_new, z_allD0, z_allD1, z_map, z_sNil, z_sSeq, z_sIf, z_sDrop, z_sRet, z_sAsg, z_asg, z_asgif, z_sPar, z_gN, z_gT, z_gsNil, z_gsCons, z_obind, z_gSet, z_B, z_It, z_Enum, z_R1, z_R2, z_r1, z_r2, z_Comp, z_For, z_Yes, z_M, z_Sl, z_oN, z_oS, z_Rev, z_Neg, z_IsI, z_call, z_callK, z_chain, z_body, z_rdd, z_rds, z_int, z_vI, z_vB, z_le, z_eqi, z_nei, z_nes, z_eqs, z_vInt, z_vI2, z_isN, z_notN, z_enumt, z_enuml, z_itl, z_itt, z_its, z_ixt0, z_ixt1, z_ixt2, z_lenl, z_lent, z_tyt, z_tyl, z_tyd, z_tyi, z_tyb, z_tys, z_tyn, isT_tt, isT_lt, isT_dt, isT_it, isT_bt, isT_st, isT_nt, isT_ti, isT_li, isT_di, isT_ii, isT_bi, isT_si, isT_ni, isT_tb, isT_lb, isT_db, isT_ib, isT_bb, isT_sb, isT_nb, isT_ts, isT_ls, isT_ds, isT_is, isT_bs, isT_ss, isT_ns, z_forn, z_mulx, z_lr1, z_lr1N, okR_le, dk_get, dk_set, dk_add, dk_ll, z_rdo, z_tyo, z_app, z_ext, z_star, z_lr2, z_listN, z_sqt, z_sql, z_leno, z_frz, fzL_d, z_lens, z_sls, z_sll, z_addl, z_addt, z_na10, z_dct0, z_disp, z_disp1, z_slt, z_revt, dk_rd2, dk_ty2, dk_mem1, dk_len0, z_tupl, z_tupt, z_listt, z_listl, z_in2, slots0, mVar, wipeS, pickBy, dk_rd0, dk_rd1, dk_ix0, dk_ix1, dk_ix2, dk_ne, dk_setn, dk_ty0, dk_ty1, Option.some.injEq, List.map_cons, List.map_nil, List.length_cons, List.length_nil, List.replicate_succ, List.replicate_zero, List.cons_append, List.nil_append, List.append_nil, List.getElem?_cons_zero, List.getElem?_cons_succ, List.set_cons_zero, List.set_cons_succ, List.zip_cons_cons, List.zip_nil_left, List.foldl_cons, List.foldl_nil, List.filterMap_cons, List.filterMap_nil, Nat.reduceSub, Nat.reduceAdd, Nat.reduceLT, Nat.reduceLeDiff, Nat.zero_add, Nat.add_zero, Nat.reduceEqDiff, decide_eq_true_eq, Bool.not_eq_true, Bool.not_true, Bool.not_false, Bool.not_not, ite_true, ite_false, if_true, if_false, reduceIte, Bool.false_eq_true, and_self, and_true, true_and, Int.reduceNeg, Int.reduceLT, Int.reduceLE, Int.reduceSub, Int.reduceAdd, Int.reduceMul, Int.reducePow, Int.reduceEq, Int.reduceNe, decide_true, decide_false, decide_not, Bool.and_true, Bool.true_and, Bool.or_true, Bool.true_or, ne_eq, not_true_eq_false, not_false_eq_true, Bool.and_self, false_and, and_false, reduceCtorEq, eq_self, beq_self_eq_true, List.set_nil, List.getElem?_nil, List.length_append, List.length_map, Bool.false_and, Bool.and_false, Bool.false_or, Bool.or_false, Int.cast_ofNat_Int, Int.reduceToNat, Int.zero_add, Int.add_zero]
    by_cases h : 0 ≤ i
    · simp only [z_bok, z_bsok, z_bbad, z_bsbad, z_seqbad, z_outbad, z_asgbad, small_fmod, small_lit, fits_le, smallR_lit, z_na64, z_bif, z_bsif, z_noer, z_seqn, z_seqr, z_seqif, z_outr, z_outn, z_outif, z_C, z_op, z_T, z_tand, z_tor, z_tnot, z_and, z_or, z_not, z_if, z_nil, z_cons, z_tup, z_lst, z_new, z_allD0, z_allD1, z_map, z_sNil, z_sSeq, z_sIf, z_sDrop, z_sRet, z_sAsg, z_asg, z_asgif, z_sPar, z_gN, z_gT, z_gsNil, z_gsCons, z_obind, z_gSet, z_B, z_It, z_Enum, z_R1, z_R2, z_r1, z_r2, z_Comp, z_For, z_Yes, z_M, z_Sl, z_oN, z_oS, z_Rev, z_Neg, z_IsI, z_call, z_callK, z_chain, z_body, z_rdd, z_rds, z_int, z_vI, z_vB, z_le, z_eqi, z_nei, z_nes, z_eqs, z_vInt, z_vI2, z_isN, z_notN, z_enumt, z_enuml, z_itl, z_itt, z_its, z_ixt0, z_ixt1, z_ixt2, z_lenl, z_lent, z_tyt, z_tyl, z_tyd, z_tyi, z_tyb, z_tys, z_tyn, isT_tt, isT_lt, isT_dt, isT_it, isT_bt, isT_st, isT_nt, isT_ti, isT_li, isT_di, isT_ii, isT_bi, isT_si, isT_ni, isT_tb, isT_lb, isT_db, isT_ib, isT_bb, isT_sb, isT_nb, isT_ts, isT_ls, isT_ds, isT_is, isT_bs, isT_ss, isT_ns, z_forn, z_mulx, z_lr1, z_lr1N, okR_le, dk_get, dk_set, dk_add, dk_ll, z_rdo, z_tyo, z_app, z_ext, z_star, z_lr2, z_listN, z_sqt, z_sql, z_leno, z_frz, fzL_d, z_lens, z_sls, z_sll, z_addl, z_addt, z_na10, z_dct0, z_disp, z_disp1, z_slt, z_revt, dk_rd2, dk_ty2, dk_mem1, dk_len0, z_tupl, z_tupt, z_listt, z_listl, z_in2, slots0, mVar, wipeS, pickBy, dk_rd0, dk_rd1, dk_ix0, dk_ix1, dk_ix2, dk_ne, dk_setn, dk_ty0, dk_ty1, Option.some.injEq, List.map_cons, List.map_nil, List.length_cons, List.length_nil, List.replicate_succ, List.replicate_zero, List.cons_append, List.nil_append, List.append_nil, List.getElem?_cons_zero, List.getElem?_cons_succ, List.set_cons_zero, List.set_cons_succ, List.zip_cons_cons, List.zip_nil_left, List.foldl_cons, List.foldl_nil, List.filterMap_cons, List.filterMap_nil, Nat.reduceSub, Nat.reduceAdd, Nat.reduceLT, Nat.reduceLeDiff, Nat.zero_add, Nat.add_zero, Nat.reduceEqDiff, decide_eq_true_eq, Bool.not_eq_true, Bool.not_true, Bool.not_false, Bool.not_not, ite_true, ite_false, if_true, if_false, reduceIte, Bool.false_eq_true, and_self, and_true, true_and, Int.reduceNeg, Int.reduceLT, Int.reduceLE, Int.reduceSub, Int.reduceAdd, Int.reduceMul, Int.reducePow, Int.reduceEq, Int.reduceNe, decide_true, decide_false, decide_not, Bool.and_true, Bool.true_and, Bool.or_true, Bool.true_or, ne_eq, not_true_eq_false, not_false_eq_true, Bool.and_self, false_and, and_false, reduceCtorEq, eq_self, beq_self_eq_true, List.set_nil, List.getElem?_nil, List.length_append, List.length_map, Bool.false_and, Bool.and_false, Bool.false_or, Bool.or_false, Int.cast_ofNat_Int, Int.reduceToNat, Int.zero_add, Int.add_zero, h]
      exact ⟨_, _, rfl, rfl, _, rfl, _, rfl, by omega⟩
    · simp only [z_bok, z_bsok, z_bbad, z_bsbad, z_seqbad, z_outbad, z_asgbad, small_fmod, small_lit, fits_le, smallR_lit, z_na64, z_bif, z_bsif, z_noer, z_seqn, z_seqr, z_seqif, z_outr, z_outn, z_outif, z_C, z_op, z_T, z_tand, z_tor, z_tnot, z_and, z_or, z_not, z_if, z_nil, z_cons, z_tup, z_lst, z_new, z_allD0, z_allD1, z_map, z_sNil, z_sSeq, z_sIf, z_sDrop, z_sRet, z_sAsg, z_asg, z_asgif, z_sPar, z_gN, z_gT, z_gsNil, z_gsCons, z_obind, z_gSet, z_B, z_It, z_Enum, z_R1, z_R2, z_r1, z_r2, z_Comp, z_For, z_Yes, z_M, z_Sl, z_oN, z_oS, z_Rev, z_Neg, z_IsI, z_call, z_callK, z_chain, z_body, z_rdd, z_rds, z_int, z_vI, z_vB, z_le, z_eqi, z_nei, z_nes, z_eqs, z_vInt, z_vI2, z_isN, z_notN, z_enumt, z_enuml, z_itl, z_itt, z_its, z_ixt0, z_ixt1, z_ixt2, z_lenl, z_lent, z_tyt, z_tyl, z_tyd, z_tyi, z_tyb, z_tys, z_tyn, isT_tt, isT_lt, isT_dt, isT_it, isT_bt, isT_st, isT_nt, isT_ti, isT_li, isT_di, isT_ii, isT_bi, isT_si, isT_ni, isT_tb, isT_lb, isT_db, isT_ib, isT_bb, isT_sb, isT_nb, isT_ts, isT_ls, isT_ds, isT_is, isT_bs, isT_ss, isT_ns, z_forn, z_mulx, z_lr1, z_lr1N, okR_le, dk_get, dk_set, dk_add, dk_ll, z_rdo, z_tyo, z_app, z_ext, z_star, z_lr2, z_listN, z_sqt, z_sql, z_leno, z_frz, fzL_d, z_lens, z_sls, z_sll, z_addl, z_addt, z_na10, z_dct0, z_disp, z_disp1, z_slt, z_revt, dk_rd2, dk_ty2, dk_mem1, dk_len0, z_tupl, z_tupt, z_listt, z_listl, z_in2, slots0, mVar, wipeS, pickBy, dk_rd0, dk_rd1, dk_ix0, dk_ix1, dk_ix2, dk_ne, dk_setn, dk_ty0, dk_ty1, Option.some.injEq, List.map_cons, List.map_nil, List.length_cons, List.length_nil, List.replicate_succ, List.replicate_zero, List.cons_append, List.nil_append, List.append_nil, List.getElem?_cons_zero, List.getElem?_cons_succ, List.set_cons_zero, List.set_cons_succ, List.zip_cons_cons, List.zip_nil_left, List.foldl_cons, List.foldl_nil, List.filterMap_cons, List.filterMap_nil, Nat.reduceSub, Nat.reduceAdd, Nat.reduceLT, Nat.reduceLeDiff, Nat.zero_add, Nat.add_zero, Nat.reduceEqDiff, decide_eq_true_eq, Bool.not_eq_true, Bool.not_true, Bool.not_false, Bool.not_not, ite_true, ite_false, if_true, if_false, reduceIte, Bool.false_eq_true, and_self, and_true, true_and, Int.reduceNeg, Int.reduceLT, Int.reduceLE, Int.reduceSub, Int.reduceAdd, Int.reduceMul, Int.reducePow, Int.reduceEq, Int.reduceNe, decide_true, decide_false, decide_not, Bool.and_true, Bool.true_and, Bool.or_true, Bool.true_or, ne_eq, not_true_eq_false, not_false_eq_true, Bool.and_self, false_and, and_false, reduceCtorEq, eq_self, beq_self_eq_true, List.set_nil, List.getElem?_nil, List.length_append, List.length_map, Bool.false_and, Bool.and_false, Bool.false_or, Bool.or_false, Int.cast_ofNat_Int, Int.reduceToNat, Int.zero_add, Int.add_zero, h]
      exact ⟨_, _, rfl, rfl, _, rfl, _, rfl, by omega⟩) [] rfl
  obtain ⟨ds, rfl, hds⟩ := allD_of hR
  have hlen : ds.length ≤ 63 := by
    rw [List.length_map, List.length_map] at hyl
    have := cutL_len (ns.map PyData.int) none (some 63)
    rw [List.length_map] at this
    omega
  obtain ⟨s2, M2, e2, ⟨st, c, rfl, rfl⟩⟩ := forL_inv (g := g1_ldeck) (b := l1_ldeck) (fun s M => ∃ (st : Int) (c : Option Val), s = [some (.scr ns), some (.d (.list ds)), some (.d (.int st)), c] ∧ M = []) (ds.map .d) (by
    rintro v hv s M ⟨st, c, rfl, rfl⟩
    obtain ⟨x, hx, rfl⟩ := List.mem_map.mp hv
    obtain ⟨i, rfl, hi⟩ := hds x hx
    refine ⟨_, _, rfl, ?_⟩
    unfold l1_ldeck
    simp only [z_bok, z_bsok, z_bbad, z_bsbad, z_seqbad, z_outbad, z_asgbad, small_fmod, small_lit, fits_le, smallR_lit, z_na64, z_bif, z_bsif, z_noer, z_seqn, z_seqr, z_seqif, z_outr, z_outn, z_outif, z_C, z_op, z_T, z_tand, z_tor, z_tnot, z_and, z_or, z_not, z_if, z_nil, z_cons, z_tup, z_lst, z_new, z_allD0, z_allD1, z_map, z_sNil, z_sSeq, z_sIf, z_sDrop, z_sRet, z_sAsg, z_asg, z_asgif, z_sPar, z_gN, z_gT, z_gsNil, z_gsCons, z_obind, z_gSet, z_B, z_It, z_Enum, z_R1, z_R2, z_r1, z_r2, z_Comp, z_For, z_Yes, z_M, z_Sl, z_oN, z_oS, z_Rev, z_Neg, z_IsI, z_call, z_callK, z_chain, z_body, z_rdd, z_rds, z_int, z_vI, z_vB, z_le, z_eqi, z_nei, z_nes, z_eqs, z_vInt, z_vI2, z_isN, z_notN, z_enumt, z_enuml, z_itl, z_itt, z_its, z_ixt0, z_ixt1, z_ixt2, z_lenl, z_lent, z_tyt, z_tyl, z_tyd, z_tyi, z_tyb, z_tys, z_tyn, isT_tt, isT_lt, isT_dt, isT_it, isT_bt, isT_st, isT_nt, isT_ti, isT_li, isT_di, isT_ii, isT_bi, isT_si, isT_ni, isT_tb, isT_lb, isT_db, isT_ib, isT_bb, isT_sb, isT_nb, isT_ts, isT_ls, isT_ds, isT_is, isT_bs, isT_ss, isT_ns, z_forn, z_mulx, z_lr1, z_lr1N, okR_le, dk_get, dk_set, dk_add, dk_ll, z_rdo, z_tyo, z_app, z_ext, z_star, z_lr2, z_listN, z_sqt, z_sql, z_leno, z_frz, fzL_d, z_lens, z_sls, z_sll, z_addl, z_addt, z_na10, z_dct0, z_disp, z_disp1, z_slt, z_revt, dk_rd2, dk_ty2, dk_mem1, dk_len0, z_tupl, z_tupt, z_listt, z_listl, z_in2, slots0, mVar, wipeS, pickBy, dk_rd0, dk_rd1, dk_ix0, dk_ix1, dk_ix2, dk_ne, dk_setn, dk_ty0, dk_ty1, Option.some.injEq, List.map_cons, List.map_nil, List.length_cons, List.length_nil, List.replicate_succ, List.replicate_zero, List.cons_append, List.nil_append, List.append_nil, List.getElem?_cons_zero, List.getElem?_cons_succ, List.set_cons_zero, List.set_cons_succ, List.zip_cons_cons, List.zip_nil_left, List.foldl_cons, List.foldl_nil, List.filterMap_cons, List.filterMap_nil, Nat.reduceSub, Nat.reduceAdd, Nat.reduceLT, Nat.reduceLeDiff, Nat.zero_add, Nat.add_zero, Nat.reduceEqDiff, decide_eq_true_eq, Bool.not_eq_true, Bool.not_true, Bool.not_false, Bool.not_not, ite_true, ite_false, if_true, if_false, reduceIte, Bool.false_eq_true, and_self, and_true, true_and, Int.reduceNeg, Int.reduceLT, Int.reduceLE, Int.reduceSub, Int.reduceAdd, Int.reduceMul, Int.reducePow, Int.reduceEq, Int.reduceNe, decide_true, decide_false, decide_not, Bool.and_true, Bool.true_and, Bool.or_true, Bool.true_or, ne_eq, not_true_eq_false, not_false_eq_true, Bool.and_self, false_and, and_false, reduceCtorEq, eq_self, beq_self_eq_true, List.set_nil, List.getElem?_nil, List.length_append, List.length_map, Bool.false_and, Bool.and_false, Bool.false_or, Bool.or_false, Int.cast_ofNat_Int, Int.reduceToNat, Int.zero_add, Int.add_zero]
    exact ⟨_, _, rfl, _, _, rfl, rfl⟩) [some (.scr ns), some (.d (.list ds)), some (.d (.int (48005 + ns.length))), none] [] ⟨_, _, rfl, rfl⟩
  obtain ⟨zs, M3, e3, rfl, hR3, hzl⟩ := compL_inv (g := g0_ldeck) (t := t0_ldeck) (e := e0_ldeck) (s0 := [some (.scr ns), some (.d (.list ds)), some (.d (.int st)), none]) (fun M => M = []) natV (ds.map .d) (by
    rintro v hv M rfl
    obtain ⟨x, hx, rfl⟩ := List.mem_map.mp hv
    obtain ⟨i, rfl, hi⟩ := hds x hx
    refine ⟨_, _, rfl, ?_⟩
    unfold t0_ldeck
    simp only [z_bok, z_bsok, z_bbad, z_bsbad, z_seqbad, z_outbad, z_asgbad, small_fmod, small_lit, fits_le, smallR_lit, z_na64, z_bif, z_bsif, z_noer, z_seqn, z_seqr, z_seqif, z_outr, z_outn, z_outif, z_C, z_op, z_T, z_tand, z_tor, z_tnot, z_and, z_or, z_not, z_if, z_nil, z_cons, z_tup, z_lst, z_new, z_allD0, z_allD1, z_map, z_sNil, z_sSeq, z_sIf, z_sDrop, z_sRet, z_sAsg, z_asg, z_asgif, z_sPar, z_gN, z_gT, z_gsNil, z_gsCons, z_obind, z_gSet, z_B, z_It, z_Enum, z_R1, z_R2, z_r1, z_r2, z_Comp, z_For, z_Yes, z_M, z_Sl, z_oN, z_oS, z_Rev, z_Neg, z_IsI, z_call, z_callK, z_chain, z_body, z_rdd, z_rds, z_int, z_vI, z_vB, z_le, z_eqi, z_nei, z_nes, z_eqs, z_vInt, z_vI2, z_isN, z_notN, z_enumt, z_enuml, z_itl, z_itt, z_its, z_ixt0, z_ixt1, z_ixt2, z_lenl, z_lent, z_tyt, z_tyl, z_tyd, z_tyi, z_tyb, z_tys, z_tyn, isT_tt, isT_lt, isT_dt, isT_it, isT_bt, isT_st, isT_nt, isT_ti, isT_li, isT_di, isT_ii, isT_bi, isT_si, isT_ni, isT_tb, isT_lb, isT_db, isT_ib, isT_bb, isT_sb, isT_nb, isT_ts, isT_ls, isT_ds, isT_is, isT_bs, isT_ss, isT_ns, z_forn, z_mulx, z_lr1, z_lr1N, okR_le, dk_get, dk_set, dk_add, dk_ll, z_rdo, z_tyo, z_app, z_ext, z_star, z_lr2, z_listN, z_sqt, z_sql, z_leno, z_frz, fzL_d, z_lens, z_sls, z_sll, z_addl, z_addt, z_na10, z_dct0, z_disp, z_disp1, z_slt, z_revt, dk_rd2, dk_ty2, dk_mem1, dk_len0, z_tupl, z_tupt, z_listt, z_listl, z_in2, slots0, mVar, wipeS, pickBy, dk_rd0, dk_rd1, dk_ix0, dk_ix1, dk_ix2, dk_ne, dk_setn, dk_ty0, dk_ty1, Option.some.injEq, List.map_cons, List.map_nil, List.length_cons, List.length_nil, List.replicate_succ, List.replicate_zero, List.cons_append, List.nil_append, List.append_nil, List.getElem?_cons_zero, List.getElem?_cons_succ, List.set_cons_zero, List.set_cons_succ, List.zip_cons_cons, List.zip_nil_left, List.foldl_cons, List.foldl_nil, List.filterMap_cons, List.filterMap_nil, Nat.reduceSub, Nat.reduceAdd, Nat.reduceLT, Nat.reduceLeDiff, Nat.zero_add, Nat.add_zero, Nat.reduceEqDiff, decide_eq_true_eq, Bool.not_eq_true, Bool.not_true, Bool.not_false, Bool.not_not, ite_true, ite_false, if_true, if_false, reduceIte, Bool.false_eq_true, and_self, and_true, true_and, Int.reduceNeg, Int.reduceLT, Int.reduceLE, Int.reduceSub, Int.reduceAdd, Int.reduceMul, Int.reducePow, Int.reduceEq, Int.reduceNe, decide_true, decide_false, decide_not, Bool.and_true, Bool.true_and, Bool.or_true, Bool.true_or, ne_eq, not_true_eq_false, not_false_eq_true, Bool.and_self, false_and, and_false, reduceCtorEq, eq_self, beq_self_eq_true, List.set_nil, List.getElem?_nil, List.length_append, List.length_map, Bool.false_and, Bool.and_false, Bool.false_or, Bool.or_false, Int.cast_ofNat_Int, Int.reduceToNat, Int.zero_add, Int.add_zero]
    refine ⟨_, _, rfl, ?_⟩
    split
    · exact ⟨_, _, rfl, rfl, _, rfl, i, rfl, hi⟩
    · rfl) [] rfl
  obtain ⟨es, rfl, hes⟩ := allD_of hR3
  have hcells : ∃ cells : List Int, es = cells.map .int ∧ ∀ c ∈ cells, 0 ≤ c := by
    clear e3 hR3 hzl
    induction es with
    | nil => exact ⟨[], rfl, fun _ h => by cases h⟩
    | cons x es ih =>
      obtain ⟨i, rfl, hi⟩ := hes x (List.mem_cons_self ..)
      obtain ⟨cs, rfl, hc⟩ := ih fun y hy => hes y (List.mem_cons_of_mem _ hy)
      exact ⟨i :: cs, rfl, fun c hc' => by rcases List.mem_cons.mp hc' with rfl | h; exact hi; exact hc c h⟩
  obtain ⟨cells, rfl, hc⟩ := hcells
  refine ⟨⟨cells, st, 0, hc⟩, z_trimo ?_⟩
  rw [List.length_map, List.length_map, List.length_map] at hzl
  unfold b_ldeck
  simp only [z_bok, z_bsok, z_bbad, z_bsbad, z_seqbad, z_outbad, z_asgbad, small_fmod, small_lit, fits_le, smallR_lit, z_na64, z_bif, z_bsif, z_noer, z_seqn, z_seqr, z_seqif, z_outr, z_outn, z_outif, z_C, z_op, z_T, z_tand, z_tor, z_tnot, z_and, z_or, z_not, z_if, z_nil, z_cons, z_tup, z_lst, z_new, z_allD0, z_allD1, z_map, z_sNil, z_sSeq, z_sIf, z_sDrop, z_sRet, z_sAsg, z_asg, z_asgif, z_sPar, z_gN, z_gT, z_gsNil, z_gsCons, z_obind, z_gSet, z_B, z_It, z_Enum, z_R1, z_R2, z_r1, z_r2, z_Comp, z_For, z_Yes, z_M, z_Sl, z_oN, z_oS, z_Rev, z_Neg, z_IsI, z_call, z_callK, z_chain, z_body, z_rdd, z_rds, z_int, z_vI, z_vB, z_le, z_eqi, z_nei, z_nes, z_eqs, z_vInt, z_vI2, z_isN, z_notN, z_enumt, z_enuml, z_itl, z_itt, z_its, z_ixt0, z_ixt1, z_ixt2, z_lenl, z_lent, z_tyt, z_tyl, z_tyd, z_tyi, z_tyb, z_tys, z_tyn, isT_tt, isT_lt, isT_dt, isT_it, isT_bt, isT_st, isT_nt, isT_ti, isT_li, isT_di, isT_ii, isT_bi, isT_si, isT_ni, isT_tb, isT_lb, isT_db, isT_ib, isT_bb, isT_sb, isT_nb, isT_ts, isT_ls, isT_ds, isT_is, isT_bs, isT_ss, isT_ns, z_forn, z_mulx, z_lr1, z_lr1N, okR_le, dk_get, dk_set, dk_add, dk_ll, z_rdo, z_tyo, z_app, z_ext, z_star, z_lr2, z_listN, z_sqt, z_sql, z_leno, z_frz, fzL_d, z_lens, z_sls, z_sll, z_addl, z_addt, z_na10, z_dct0, z_disp, z_disp1, z_slt, z_revt, dk_rd2, dk_ty2, dk_mem1, dk_len0, z_tupl, z_tupt, z_listt, z_listl, z_in2, slots0, mVar, wipeS, pickBy, dk_rd0, dk_rd1, dk_ix0, dk_ix1, dk_ix2, dk_ne, dk_setn, dk_ty0, dk_ty1, Option.some.injEq, List.map_cons, List.map_nil, List.length_cons, List.length_nil, List.replicate_succ, List.replicate_zero, List.cons_append, List.nil_append, List.append_nil, List.getElem?_cons_zero, List.getElem?_cons_succ, List.set_cons_zero, List.set_cons_succ, List.zip_cons_cons, List.zip_nil_left, List.foldl_cons, List.foldl_nil, List.filterMap_cons, List.filterMap_nil, Nat.reduceSub, Nat.reduceAdd, Nat.reduceLT, Nat.reduceLeDiff, Nat.zero_add, Nat.add_zero, Nat.reduceEqDiff, decide_eq_true_eq, Bool.not_eq_true, Bool.not_true, Bool.not_false, Bool.not_not, ite_true, ite_false, if_true, if_false, reduceIte, Bool.false_eq_true, and_self, and_true, true_and, Int.reduceNeg, Int.reduceLT, Int.reduceLE, Int.reduceSub, Int.reduceAdd, Int.reduceMul, Int.reducePow, Int.reduceEq, Int.reduceNe, decide_true, decide_false, decide_not, Bool.and_true, Bool.true_and, Bool.or_true, Bool.true_or, ne_eq, not_true_eq_false, not_false_eq_true, Bool.and_self, false_and, and_false, reduceCtorEq, eq_self, beq_self_eq_true, List.set_nil, List.getElem?_nil, List.length_append, List.length_map, Bool.false_and, Bool.and_false, Bool.false_or, Bool.or_false, Int.cast_ofNat_Int, Int.reduceToNat, Int.zero_add, Int.add_zero, e1, z_lcK (show ds.length ≤ 16777216 by omega), e2, e3, z_lcN (M := []) (us := (cells.map PyData.int).map .d) (by rw [List.length_map, List.length_map]; omega)]
  show Out.ok (Val.obj 1) [MO.lst ((cells.map PyData.int).map Val.d), _] = _
  rw [← dmap]
  rfl
end Zl
namespace Zl
open PySem PySem.Spec PyProof.Rows L2 Zm
/-! ### a drawn row -/
theorem perm_erase {α : Type} : ∀ {l : List α} {n : Nat} {x : α}, l[n]? = some x → (x :: l.eraseIdx n).Perm l
  | [], n, x, h => by simp at h
  | y :: l, 0, x, h => by simp at h; subst h; exact .refl _
  | y :: l, n + 1, x, h => by
    have ih := perm_erase (l := l) (n := n) (x := x) (by simpa using h)
    exact (List.Perm.swap y x _).trans (ih.cons y)
theorem mixed_ok (q : Dk) {ds : List PyData} (hl : Lay ds) (hn : ds.length ≤ 1000) : ∃ (q' : Dk) (es : List PyData), d_lmixed [.obj 1, .d (.list ds)] (q.mem []) = .ok (.d (.list es)) (q'.mem []) ∧ es.Perm ds := by
  obtain ⟨s', M', e, q', gs, rfl, rfl, hp⟩ := sWhile_inv (c := mT (mOp vNe (mVar 2) (mLst mNil))) (b := sDrop (mM "list" vAppend (mVar 3) (mCons (mM "list" vPop (mVar 2) (mCons (mCall 2 d_ldraw (mCons (mVar 0) (mCons (mB vLen (mCons (mVar 2) mNil)) mNil))) mNil)) mNil)))
    (fun k s M => ∃ (q : Dk) (rs gs : List PyData), rs.length = k ∧ s = [some (.obj 1), some (.d (.list ds)), some (.obj 2), some (.obj 3)] ∧ M = q.mem [.lst (rs.map .d), .lst (gs.map .d)] ∧ (gs ++ rs).Perm ds)
    (fun s M => ∃ (q : Dk) (gs : List PyData), s = [some (.obj 1), some (.d (.list ds)), some (.obj 2), some (.obj 3)] ∧ M = q.mem [.lst (([] : List PyData).map .d), .lst (gs.map .d)] ∧ gs.Perm ds) (by
      rintro k s M ⟨q, rs, gs, rfl, rfl, rfl, hp⟩
      have hlay : Lay rs := hl.sub fun x hx => hp.mem_iff.mp (List.mem_append.mpr (.inr hx))
      have hlen := hp.length_eq
      rw [List.length_append] at hlen
      have h1 := z_nelo (M := q.mem [.lst (rs.map .d), .lst (gs.map .d)]) (i := 2) (ds := rs) rfl hlay.shaped
      have c1 : mT (mOp vNe (mVar 2) (mLst mNil)) [some (.obj 1), some (.d (.list ds)), some (.obj 2), some (.obj 3)] (q.mem [.lst (rs.map .d), .lst (gs.map .d)]) = .ok (!rs.isEmpty) (q.mem [.lst (rs.map .d), .lst (gs.map .d)]) := by
        simp only [z_bok, z_bsok, z_bbad, z_bsbad, z_seqbad, z_outbad, z_asgbad, small_fmod, small_lit, fits_le, smallR_lit, z_na64, z_bif, z_bsif, z_noer, z_seqn, z_seqr, z_seqif, z_outr, z_outn, z_outif, z_C, z_op, z_T, z_tand, z_tor, z_tnot, z_and, z_or, z_not, z_if, z_nil, z_cons, z_tup, z_lst, z_new, z_allD0, z_allD1, z_map, z_sNil, z_sSeq, z_sIf, z_sDrop, z_sRet, z_sAsg, z_asg, z_asgif, z_sPar, z_gN, z_gT, z_gsNil, z_gsCons, z_obind, z_gSet, z_B, z_It, z_Enum, z_R1, z_R2, z_r1, z_r2, z_Comp, z_For, z_Yes, z_M, z_Sl, z_oN, z_oS, z_Rev, z_Neg, z_IsI, z_call, z_callK, z_chain, z_body, z_rdd, z_rds, z_int, z_vI, z_vB, z_le, z_eqi, z_nei, z_nes, z_eqs, z_vInt, z_vI2, z_isN, z_notN, z_enumt, z_enuml, z_itl, z_itt, z_its, z_ixt0, z_ixt1, z_ixt2, z_lenl, z_lent, z_tyt, z_tyl, z_tyd, z_tyi, z_tyb, z_tys, z_tyn, isT_tt, isT_lt, isT_dt, isT_it, isT_bt, isT_st, isT_nt, isT_ti, isT_li, isT_di, isT_ii, isT_bi, isT_si, isT_ni, isT_tb, isT_lb, isT_db, isT_ib, isT_bb, isT_sb, isT_nb, isT_ts, isT_ls, isT_ds, isT_is, isT_bs, isT_ss, isT_ns, z_forn, z_mulx, z_lr1, z_lr1N, okR_le, dk_get, dk_set, dk_add, dk_ll, z_rdo, z_tyo, z_app, z_ext, z_star, z_lr2, z_listN, z_sqt, z_sql, z_leno, z_frz, fzL_d, z_lens, z_sls, z_sll, z_addl, z_addt, z_na10, z_dct0, z_disp, z_disp1, z_slt, z_revt, dk_rd2, dk_ty2, dk_mem1, dk_len0, z_tupl, z_tupt, z_listt, z_listl, z_in2, slots0, mVar, wipeS, pickBy, dk_rd0, dk_rd1, dk_ix0, dk_ix1, dk_ix2, dk_ne, dk_setn, dk_ty0, dk_ty1, Option.some.injEq, List.map_cons, List.map_nil, List.length_cons, List.length_nil, List.replicate_succ, List.replicate_zero, List.cons_append, List.nil_append, List.append_nil, List.getElem?_cons_zero, List.getElem?_cons_succ, List.set_cons_zero, List.set_cons_succ, List.zip_cons_cons, List.zip_nil_left, List.foldl_cons, List.foldl_nil, List.filterMap_cons, List.filterMap_nil, Nat.reduceSub, Nat.reduceAdd, Nat.reduceLT, Nat.reduceLeDiff, Nat.zero_add, Nat.add_zero, Nat.reduceEqDiff, decide_eq_true_eq, Bool.not_eq_true, Bool.not_true, Bool.not_false, Bool.not_not, ite_true, ite_false, if_true, if_false, reduceIte, Bool.false_eq_true, and_self, and_true, true_and, Int.reduceNeg, Int.reduceLT, Int.reduceLE, Int.reduceSub, Int.reduceAdd, Int.reduceMul, Int.reducePow, Int.reduceEq, Int.reduceNe, decide_true, decide_false, decide_not, Bool.and_true, Bool.true_and, Bool.or_true, Bool.true_or, ne_eq, not_true_eq_false, not_false_eq_true, Bool.and_self, false_and, and_false, reduceCtorEq, eq_self, beq_self_eq_true, List.set_nil, List.getElem?_nil, List.length_append, List.length_map, Bool.false_and, Bool.and_false, Bool.false_or, Bool.or_false, Int.cast_ofNat_Int, Int.reduceToNat, Int.zero_add, Int.add_zero, h1]
      refine ⟨_, _, c1, ?_⟩
      cases rs with
      | nil =>
        rw [if_neg (by decide)]
        exact ⟨q, gs, rfl, rfl, by rw [List.append_nil] at hp; exact hp⟩
      | cons a as =>
        rw [if_pos (show (!(a :: as).isEmpty) = true from rfl)]
        obtain ⟨r, q2, e2, a2, b2⟩ := draw_ok q [.lst ((a :: as).map .d), .lst (gs.map .d)] (m := ((a :: as).length : Nat)) (by rw [List.length_cons]; omega) (by omega)
        have hr : r.toNat < (a :: as).length := by omega
        have hx : (a :: as)[r.toNat]? = some ((a :: as)[r.toNat]) := List.getElem?_eq_getElem hr
        generalize ((a :: as)[r.toNat]) = x at hx
        have e3 := z_popk (M := q2.mem [.lst ((a :: as).map .d), .lst (gs.map .d)]) (i := 2) (ds := a :: as) (k := r) rfl a2 (by omega) hx
        have hpe := perm_erase hx
        have hle := hpe.length_eq
        simp only [List.length_cons] at hle
        have hg : gs.length < 16777216 := by omega
        rw [show q2.mem [.lst ((a :: as).map .d), .lst (gs.map .d)] = q2.mem [.lst (.d a :: as.map .d), .lst (gs.map .d)] from rfl] at e2 e3
        rw [show q.mem [.lst ((a :: as).map .d), .lst (gs.map .d)] = q.mem [.lst (.d a :: as.map .d), .lst (gs.map .d)] from rfl] at e2
        simp only [List.length_cons] at e2
        simp only [z_bok, z_bsok, z_bbad, z_bsbad, z_seqbad, z_outbad, z_asgbad, small_fmod, small_lit, fits_le, smallR_lit, z_na64, z_bif, z_bsif, z_noer, z_seqn, z_seqr, z_seqif, z_outr, z_outn, z_outif, z_C, z_op, z_T, z_tand, z_tor, z_tnot, z_and, z_or, z_not, z_if, z_nil, z_cons, z_tup, z_lst, z_new, z_allD0, z_allD1, z_map, z_sNil, z_sSeq, z_sIf, z_sDrop, z_sRet, z_sAsg, z_asg, z_asgif, z_sPar, z_gN, z_gT, z_gsNil, z_gsCons, z_obind, z_gSet, z_B, z_It, z_Enum, z_R1, z_R2, z_r1, z_r2, z_Comp, z_For, z_Yes, z_M, z_Sl, z_oN, z_oS, z_Rev, z_Neg, z_IsI, z_call, z_callK, z_chain, z_body, z_rdd, z_rds, z_int, z_vI, z_vB, z_le, z_eqi, z_nei, z_nes, z_eqs, z_vInt, z_vI2, z_isN, z_notN, z_enumt, z_enuml, z_itl, z_itt, z_its, z_ixt0, z_ixt1, z_ixt2, z_lenl, z_lent, z_tyt, z_tyl, z_tyd, z_tyi, z_tyb, z_tys, z_tyn, isT_tt, isT_lt, isT_dt, isT_it, isT_bt, isT_st, isT_nt, isT_ti, isT_li, isT_di, isT_ii, isT_bi, isT_si, isT_ni, isT_tb, isT_lb, isT_db, isT_ib, isT_bb, isT_sb, isT_nb, isT_ts, isT_ls, isT_ds, isT_is, isT_bs, isT_ss, isT_ns, z_forn, z_mulx, z_lr1, z_lr1N, okR_le, dk_get, dk_set, dk_add, dk_ll, z_rdo, z_tyo, z_app, z_ext, z_star, z_lr2, z_listN, z_sqt, z_sql, z_leno, z_frz, fzL_d, z_lens, z_sls, z_sll, z_addl, z_addt, z_na10, z_dct0, z_disp, z_disp1, z_slt, z_revt, dk_rd2, dk_ty2, dk_mem1, dk_len0, z_tupl, z_tupt, z_listt, z_listl, z_in2, slots0, mVar, wipeS, pickBy, dk_rd0, dk_rd1, dk_ix0, dk_ix1, dk_ix2, dk_ne, dk_setn, dk_ty0, dk_ty1, Option.some.injEq, List.map_cons, List.map_nil, List.length_cons, List.length_nil, List.replicate_succ, List.replicate_zero, List.cons_append, List.nil_append, List.append_nil, List.getElem?_cons_zero, List.getElem?_cons_succ, List.set_cons_zero, List.set_cons_succ, List.zip_cons_cons, List.zip_nil_left, List.foldl_cons, List.foldl_nil, List.filterMap_cons, List.filterMap_nil, Nat.reduceSub, Nat.reduceAdd, Nat.reduceLT, Nat.reduceLeDiff, Nat.zero_add, Nat.add_zero, Nat.reduceEqDiff, decide_eq_true_eq, Bool.not_eq_true, Bool.not_true, Bool.not_false, Bool.not_not, ite_true, ite_false, if_true, if_false, reduceIte, Bool.false_eq_true, and_self, and_true, true_and, Int.reduceNeg, Int.reduceLT, Int.reduceLE, Int.reduceSub, Int.reduceAdd, Int.reduceMul, Int.reducePow, Int.reduceEq, Int.reduceNe, decide_true, decide_false, decide_not, Bool.and_true, Bool.true_and, Bool.or_true, Bool.true_or, ne_eq, not_true_eq_false, not_false_eq_true, Bool.and_self, false_and, and_false, reduceCtorEq, eq_self, beq_self_eq_true, List.set_nil, List.getElem?_nil, List.length_append, List.length_map, Bool.false_and, Bool.and_false, Bool.false_or, Bool.or_false, Int.cast_ofNat_Int, Int.reduceToNat, Int.zero_add, Int.add_zero, e2, e3, hg]
        refine ⟨_, _, rfl, ((a :: as).eraseIdx r.toNat).length, by omega, q2, _, gs ++ [x], rfl, rfl, by rw [List.map_append]; rfl, ?_⟩
        rw [List.append_assoc]
        exact (List.Perm.append_left gs hpe).trans hp) ds.length [some (.obj 1), some (.d (.list ds)), some (.obj 2), some (.obj 3)] (q.mem [.lst (ds.map .d), .lst []]) ⟨q, ds, [], rfl, rfl, rfl, .refl _⟩
  refine ⟨q', gs, z_trimc (R := [.lst [], .frz (.list gs)]) ?_ rfl (dk_below (Nat.succ_pos _)), hp⟩
  unfold b_lmixed
  simp only [z_bok, z_bsok, z_bbad, z_bsbad, z_seqbad, z_outbad, z_asgbad, small_fmod, small_lit, fits_le, smallR_lit, z_na64, z_bif, z_bsif, z_noer, z_seqn, z_seqr, z_seqif, z_outr, z_outn, z_outif, z_C, z_op, z_T, z_tand, z_tor, z_tnot, z_and, z_or, z_not, z_if, z_nil, z_cons, z_tup, z_lst, z_new, z_allD0, z_allD1, z_map, z_sNil, z_sSeq, z_sIf, z_sDrop, z_sRet, z_sAsg, z_asg, z_asgif, z_sPar, z_gN, z_gT, z_gsNil, z_gsCons, z_obind, z_gSet, z_B, z_It, z_Enum, z_R1, z_R2, z_r1, z_r2, z_Comp, z_For, z_Yes, z_M, z_Sl, z_oN, z_oS, z_Rev, z_Neg, z_IsI, z_call, z_callK, z_chain, z_body, z_rdd, z_rds, z_int, z_vI, z_vB, z_le, z_eqi, z_nei, z_nes, z_eqs, z_vInt, z_vI2, z_isN, z_notN, z_enumt, z_enuml, z_itl, z_itt, z_its, z_ixt0, z_ixt1, z_ixt2, z_lenl, z_lent, z_tyt, z_tyl, z_tyd, z_tyi, z_tyb, z_tys, z_tyn, isT_tt, isT_lt, isT_dt, isT_it, isT_bt, isT_st, isT_nt, isT_ti, isT_li, isT_di, isT_ii, isT_bi, isT_si, isT_ni, isT_tb, isT_lb, isT_db, isT_ib, isT_bb, isT_sb, isT_nb, isT_ts, isT_ls, isT_ds, isT_is, isT_bs, isT_ss, isT_ns, z_forn, z_mulx, z_lr1, z_lr1N, okR_le, dk_get, dk_set, dk_add, dk_ll, z_rdo, z_tyo, z_app, z_ext, z_star, z_lr2, z_listN, z_sqt, z_sql, z_leno, z_frz, fzL_d, z_lens, z_sls, z_sll, z_addl, z_addt, z_na10, z_dct0, z_disp, z_disp1, z_slt, z_revt, dk_rd2, dk_ty2, dk_mem1, dk_len0, z_tupl, z_tupt, z_listt, z_listl, z_in2, slots0, mVar, wipeS, pickBy, dk_rd0, dk_rd1, dk_ix0, dk_ix1, dk_ix2, dk_ne, dk_setn, dk_ty0, dk_ty1, Option.some.injEq, List.map_cons, List.map_nil, List.length_cons, List.length_nil, List.replicate_succ, List.replicate_zero, List.cons_append, List.nil_append, List.append_nil, List.getElem?_cons_zero, List.getElem?_cons_succ, List.set_cons_zero, List.set_cons_succ, List.zip_cons_cons, List.zip_nil_left, List.foldl_cons, List.foldl_nil, List.filterMap_cons, List.filterMap_nil, Nat.reduceSub, Nat.reduceAdd, Nat.reduceLT, Nat.reduceLeDiff, Nat.zero_add, Nat.add_zero, Nat.reduceEqDiff, decide_eq_true_eq, Bool.not_eq_true, Bool.not_true, Bool.not_false, Bool.not_not, ite_true, ite_false, if_true, if_false, reduceIte, Bool.false_eq_true, and_self, and_true, true_and, Int.reduceNeg, Int.reduceLT, Int.reduceLE, Int.reduceSub, Int.reduceAdd, Int.reduceMul, Int.reducePow, Int.reduceEq, Int.reduceNe, decide_true, decide_false, decide_not, Bool.and_true, Bool.true_and, Bool.or_true, Bool.true_or, ne_eq, not_true_eq_false, not_false_eq_true, Bool.and_self, false_and, and_false, reduceCtorEq, eq_self, beq_self_eq_true, List.set_nil, List.getElem?_nil, List.length_append, List.length_map, Bool.false_and, Bool.and_false, Bool.false_or, Bool.or_false, Int.cast_ofNat_Int, Int.reduceToNat, Int.zero_add, Int.add_zero, e]
end Zl
namespace Zl
open PySem PySem.Spec PyProof.Rows L2 Zm
/-! ### near -/
def hitP (f : Int) (p : Int × Int) : Bool := hit f p.1 p.2
def sumP (f : Int) (p : Int × Int) : Int := p.1 + p.2 - f
def sums (f : Int) (ps : List (Int × Int)) : List Int := (ps.filter (hitP f)).map (sumP f)
theorem near_loop {M : Mm} {c : Val} {f : Int} : ∀ (ps : List (Int × Int)) (acc : List Int) (a b : Option Val), acc.length + ps.length < 16777216 →
    ∃ a' b', forL g0_near l0_near ((ps.map Zm.pairD).map .d) [some c, some (.d (.int f)), some (.obj M.length), a, b] (M ++ [.lst ((acc.map .int).map .d)]) =
      .nx [some c, some (.d (.int f)), some (.obj M.length), a', b'] (M ++ [.lst (((acc ++ sums f ps).map .int).map .d)])
  | [], acc, a, b, _ => ⟨a, b, by rw [show sums f [] = [] from rfl, List.append_nil]; rfl⟩
  | (i, j) :: ps, acc, a, b, h => by
    rw [List.length_cons] at h
    rw [List.map_cons, List.map_cons, z_forc (s1 := [some c, some (.d (.int f)), some (.obj M.length), some (.d (.int i)), some (.d (.int j))]) (M1 := M ++ [.lst ((acc.map .int).map .d)]) rfl]
    unfold l0_near
    simp only [z_bok, z_bsok, z_bbad, z_bsbad, z_seqbad, z_outbad, z_asgbad, small_fmod, small_lit, fits_le, smallR_lit, z_na64, z_bif, z_bsif, z_noer, z_seqn, z_seqr, z_seqif, z_outr, z_outn, z_outif, z_C, z_op, z_T, z_tand, z_tor, z_tnot, z_and, z_or, z_not, z_if, z_nil, z_cons, z_tup, z_lst, z_new, z_allD0, z_allD1, z_map, z_sNil, z_sSeq, z_sIf, z_sDrop, z_sRet, z_sAsg, z_asg, z_asgif, z_sPar, z_gN, z_gT, z_gsNil, z_gsCons, z_obind, z_gSet, z_B, z_It, z_Enum, z_R1, z_R2, z_r1, z_r2, z_Comp, z_For, z_Yes, z_M, z_Sl, z_oN, z_oS, z_Rev, z_Neg, z_IsI, z_call, z_callK, z_chain, z_body, z_rdd, z_rds, z_int, z_vI, z_vB, z_le, z_eqi, z_nei, z_nes, z_eqs, z_vInt, z_vI2, z_isN, z_notN, z_enumt, z_enuml, z_itl, z_itt, z_its, z_ixt0, z_ixt1, z_ixt2, z_lenl, z_lent, z_tyt, z_tyl, z_tyd, z_tyi, z_tyb, z_tys, z_tyn, isT_tt, isT_lt, isT_dt, isT_it, isT_bt, isT_st, isT_nt, isT_ti, isT_li, isT_di, isT_ii, isT_bi, isT_si, isT_ni, isT_tb, isT_lb, isT_db, isT_ib, isT_bb, isT_sb, isT_nb, isT_ts, isT_ls, isT_ds, isT_is, isT_bs, isT_ss, isT_ns, z_forn, z_mulx, z_lr1, z_lr1N, okR_le, dk_get, dk_set, dk_add, dk_ll, z_rdo, z_tyo, z_app, z_ext, z_star, z_lr2, z_listN, z_sqt, z_sql, z_leno, z_frz, fzL_d, z_lens, z_sls, z_sll, z_addl, z_addt, z_na10, z_dct0, z_disp, z_disp1, z_slt, z_revt, dk_rd2, dk_ty2, dk_mem1, dk_len0, z_tupl, z_tupt, z_listt, z_listl, z_in2, slots0, mVar, wipeS, pickBy, dk_rd0, dk_rd1, dk_ix0, dk_ix1, dk_ix2, dk_ne, dk_setn, dk_ty0, dk_ty1, Option.some.injEq, List.map_cons, List.map_nil, List.length_cons, List.length_nil, List.replicate_succ, List.replicate_zero, List.cons_append, List.nil_append, List.append_nil, List.getElem?_cons_zero, List.getElem?_cons_succ, List.set_cons_zero, List.set_cons_succ, List.zip_cons_cons, List.zip_nil_left, List.foldl_cons, List.foldl_nil, List.filterMap_cons, List.filterMap_nil, Nat.reduceSub, Nat.reduceAdd, Nat.reduceLT, Nat.reduceLeDiff, Nat.zero_add, Nat.add_zero, Nat.reduceEqDiff, decide_eq_true_eq, Bool.not_eq_true, Bool.not_true, Bool.not_false, Bool.not_not, ite_true, ite_false, if_true, if_false, reduceIte, Bool.false_eq_true, and_self, and_true, true_and, Int.reduceNeg, Int.reduceLT, Int.reduceLE, Int.reduceSub, Int.reduceAdd, Int.reduceMul, Int.reducePow, Int.reduceEq, Int.reduceNe, decide_true, decide_false, decide_not, Bool.and_true, Bool.true_and, Bool.or_true, Bool.true_or, ne_eq, not_true_eq_false, not_false_eq_true, Bool.and_self, false_and, and_false, reduceCtorEq, eq_self, beq_self_eq_true, List.set_nil, List.getElem?_nil, List.length_append, List.length_map, Bool.false_and, Bool.and_false, Bool.false_or, Bool.or_false, Int.cast_ofNat_Int, Int.reduceToNat, Int.zero_add, Int.add_zero, l_rd, l_ty]
    cases hh : hit f i j with
    | false =>
      simp only [z_bok, z_bsok, z_bbad, z_bsbad, z_seqbad, z_outbad, z_asgbad, small_fmod, small_lit, fits_le, smallR_lit, z_na64, z_bif, z_bsif, z_noer, z_seqn, z_seqr, z_seqif, z_outr, z_outn, z_outif, z_C, z_op, z_T, z_tand, z_tor, z_tnot, z_and, z_or, z_not, z_if, z_nil, z_cons, z_tup, z_lst, z_new, z_allD0, z_allD1, z_map, z_sNil, z_sSeq, z_sIf, z_sDrop, z_sRet, z_sAsg, z_asg, z_asgif, z_sPar, z_gN, z_gT, z_gsNil, z_gsCons, z_obind, z_gSet, z_B, z_It, z_Enum, z_R1, z_R2, z_r1, z_r2, z_Comp, z_For, z_Yes, z_M, z_Sl, z_oN, z_oS, z_Rev, z_Neg, z_IsI, z_call, z_callK, z_chain, z_body, z_rdd, z_rds, z_int, z_vI, z_vB, z_le, z_eqi, z_nei, z_nes, z_eqs, z_vInt, z_vI2, z_isN, z_notN, z_enumt, z_enuml, z_itl, z_itt, z_its, z_ixt0, z_ixt1, z_ixt2, z_lenl, z_lent, z_tyt, z_tyl, z_tyd, z_tyi, z_tyb, z_tys, z_tyn, isT_tt, isT_lt, isT_dt, isT_it, isT_bt, isT_st, isT_nt, isT_ti, isT_li, isT_di, isT_ii, isT_bi, isT_si, isT_ni, isT_tb, isT_lb, isT_db, isT_ib, isT_bb, isT_sb, isT_nb, isT_ts, isT_ls, isT_ds, isT_is, isT_bs, isT_ss, isT_ns, z_forn, z_mulx, z_lr1, z_lr1N, okR_le, dk_get, dk_set, dk_add, dk_ll, z_rdo, z_tyo, z_app, z_ext, z_star, z_lr2, z_listN, z_sqt, z_sql, z_leno, z_frz, fzL_d, z_lens, z_sls, z_sll, z_addl, z_addt, z_na10, z_dct0, z_disp, z_disp1, z_slt, z_revt, dk_rd2, dk_ty2, dk_mem1, dk_len0, z_tupl, z_tupt, z_listt, z_listl, z_in2, slots0, mVar, wipeS, pickBy, dk_rd0, dk_rd1, dk_ix0, dk_ix1, dk_ix2, dk_ne, dk_setn, dk_ty0, dk_ty1, Option.some.injEq, List.map_cons, List.map_nil, List.length_cons, List.length_nil, List.replicate_succ, List.replicate_zero, List.cons_append, List.nil_append, List.append_nil, List.getElem?_cons_zero, List.getElem?_cons_succ, List.set_cons_zero, List.set_cons_succ, List.zip_cons_cons, List.zip_nil_left, List.foldl_cons, List.foldl_nil, List.filterMap_cons, List.filterMap_nil, Nat.reduceSub, Nat.reduceAdd, Nat.reduceLT, Nat.reduceLeDiff, Nat.zero_add, Nat.add_zero, Nat.reduceEqDiff, decide_eq_true_eq, Bool.not_eq_true, Bool.not_true, Bool.not_false, Bool.not_not, ite_true, ite_false, if_true, if_false, reduceIte, Bool.false_eq_true, and_self, and_true, true_and, Int.reduceNeg, Int.reduceLT, Int.reduceLE, Int.reduceSub, Int.reduceAdd, Int.reduceMul, Int.reducePow, Int.reduceEq, Int.reduceNe, decide_true, decide_false, decide_not, Bool.and_true, Bool.true_and, Bool.or_true, Bool.true_or, ne_eq, not_true_eq_false, not_false_eq_true, Bool.and_self, false_and, and_false, reduceCtorEq, eq_self, beq_self_eq_true, List.set_nil, List.getElem?_nil, List.length_append, List.length_map, Bool.false_and, Bool.and_false, Bool.false_or, Bool.or_false, Int.cast_ofNat_Int, Int.reduceToNat, Int.zero_add, Int.add_zero]
      have e : sums f ((i, j) :: ps) = sums f ps := by
        unfold sums
        rw [List.filter_cons_of_neg (show ¬ hitP f (i, j) = true from by unfold hitP; rw [hh]; decide)]
      rw [e]
      exact near_loop ps acc _ _ (by omega)
    | true =>
      have e : acc ++ sums f ((i, j) :: ps) = (acc ++ [i + j - f]) ++ sums f ps := by
        unfold sums
        rw [List.filter_cons_of_pos (show hitP f (i, j) = true from hh), List.map_cons, List.append_assoc]
        rfl
      have e2 : (acc.map PyData.int).map Val.d ++ [Val.d (.int (i + j - f))] = ((acc ++ [i + j - f]).map .int).map .d := by rw [List.map_append, List.map_append]; rfl
      simp only [z_bok, z_bsok, z_bbad, z_bsbad, z_seqbad, z_outbad, z_asgbad, small_fmod, small_lit, fits_le, smallR_lit, z_na64, z_bif, z_bsif, z_noer, z_seqn, z_seqr, z_seqif, z_outr, z_outn, z_outif, z_C, z_op, z_T, z_tand, z_tor, z_tnot, z_and, z_or, z_not, z_if, z_nil, z_cons, z_tup, z_lst, z_new, z_allD0, z_allD1, z_map, z_sNil, z_sSeq, z_sIf, z_sDrop, z_sRet, z_sAsg, z_asg, z_asgif, z_sPar, z_gN, z_gT, z_gsNil, z_gsCons, z_obind, z_gSet, z_B, z_It, z_Enum, z_R1, z_R2, z_r1, z_r2, z_Comp, z_For, z_Yes, z_M, z_Sl, z_oN, z_oS, z_Rev, z_Neg, z_IsI, z_call, z_callK, z_chain, z_body, z_rdd, z_rds, z_int, z_vI, z_vB, z_le, z_eqi, z_nei, z_nes, z_eqs, z_vInt, z_vI2, z_isN, z_notN, z_enumt, z_enuml, z_itl, z_itt, z_its, z_ixt0, z_ixt1, z_ixt2, z_lenl, z_lent, z_tyt, z_tyl, z_tyd, z_tyi, z_tyb, z_tys, z_tyn, isT_tt, isT_lt, isT_dt, isT_it, isT_bt, isT_st, isT_nt, isT_ti, isT_li, isT_di, isT_ii, isT_bi, isT_si, isT_ni, isT_tb, isT_lb, isT_db, isT_ib, isT_bb, isT_sb, isT_nb, isT_ts, isT_ls, isT_ds, isT_is, isT_bs, isT_ss, isT_ns, z_forn, z_mulx, z_lr1, z_lr1N, okR_le, dk_get, dk_set, dk_add, dk_ll, z_rdo, z_tyo, z_app, z_ext, z_star, z_lr2, z_listN, z_sqt, z_sql, z_leno, z_frz, fzL_d, z_lens, z_sls, z_sll, z_addl, z_addt, z_na10, z_dct0, z_disp, z_disp1, z_slt, z_revt, dk_rd2, dk_ty2, dk_mem1, dk_len0, z_tupl, z_tupt, z_listt, z_listl, z_in2, slots0, mVar, wipeS, pickBy, dk_rd0, dk_rd1, dk_ix0, dk_ix1, dk_ix2, dk_ne, dk_setn, dk_ty0, dk_ty1, Option.some.injEq, List.map_cons, List.map_nil, List.length_cons, List.length_nil, List.replicate_succ, List.replicate_zero, List.cons_append, List.nil_append, List.append_nil, List.getElem?_cons_zero, List.getElem?_cons_succ, List.set_cons_zero, List.set_cons_succ, List.zip_cons_cons, List.zip_nil_left, List.foldl_cons, List.foldl_nil, List.filterMap_cons, List.filterMap_nil, Nat.reduceSub, Nat.reduceAdd, Nat.reduceLT, Nat.reduceLeDiff, Nat.zero_add, Nat.add_zero, Nat.reduceEqDiff, decide_eq_true_eq, Bool.not_eq_true, Bool.not_true, Bool.not_false, Bool.not_not, ite_true, ite_false, if_true, if_false, reduceIte, Bool.false_eq_true, and_self, and_true, true_and, Int.reduceNeg, Int.reduceLT, Int.reduceLE, Int.reduceSub, Int.reduceAdd, Int.reduceMul, Int.reducePow, Int.reduceEq, Int.reduceNe, decide_true, decide_false, decide_not, Bool.and_true, Bool.true_and, Bool.or_true, Bool.true_or, ne_eq, not_true_eq_false, not_false_eq_true, Bool.and_self, false_and, and_false, reduceCtorEq, eq_self, beq_self_eq_true, List.set_nil, List.getElem?_nil, List.length_append, List.length_map, Bool.false_and, Bool.and_false, Bool.false_or, Bool.or_false, Int.cast_ofNat_Int, Int.reduceToNat, Int.zero_add, Int.add_zero, l_rd, l_ty, l_app (show ((acc.map PyData.int).map Val.d).length < 16777216 by rw [List.length_map, List.length_map]; omega)]
      rw [e, e2]
      exact near_loop ps (acc ++ [i + j - f]) _ _ (by rw [List.length_append, List.length_singleton]; omega)
theorem near_ok {M : Mm} (hb : M.all (MO.below M.length) = true) {k f : Int} {ps : List (Int × Int)} {c : PyData} (h : ps.length < 16777216) :
    d_near [.d (.tuple [.int k, .tuple (ps.map Zm.pairD), c]), .d (.int f)] M = .ok (.d (.tuple ((sortI (sums f ps)).map .int))) M := by
  refine z_trimc (R := [.lst (((sums f ps).map .int).map .d)]) ?_ rfl hb
  unfold b_near
  obtain ⟨a, b, e⟩ := near_loop (M := M) (c := .d (.tuple [.int k, .tuple (ps.map Zm.pairD), c])) (f := f) ps [] none none (by rw [List.length_nil]; omega)
  simp only [List.map_nil, List.nil_append] at e
  simp only [z_bok, z_bsok, z_bbad, z_bsbad, z_seqbad, z_outbad, z_asgbad, small_fmod, small_lit, fits_le, smallR_lit, z_na64, z_bif, z_bsif, z_noer, z_seqn, z_seqr, z_seqif, z_outr, z_outn, z_outif, z_C, z_op, z_T, z_tand, z_tor, z_tnot, z_and, z_or, z_not, z_if, z_nil, z_cons, z_tup, z_lst, z_new, z_allD0, z_allD1, z_map, z_sNil, z_sSeq, z_sIf, z_sDrop, z_sRet, z_sAsg, z_asg, z_asgif, z_sPar, z_gN, z_gT, z_gsNil, z_gsCons, z_obind, z_gSet, z_B, z_It, z_Enum, z_R1, z_R2, z_r1, z_r2, z_Comp, z_For, z_Yes, z_M, z_Sl, z_oN, z_oS, z_Rev, z_Neg, z_IsI, z_call, z_callK, z_chain, z_body, z_rdd, z_rds, z_int, z_vI, z_vB, z_le, z_eqi, z_nei, z_nes, z_eqs, z_vInt, z_vI2, z_isN, z_notN, z_enumt, z_enuml, z_itl, z_itt, z_its, z_ixt0, z_ixt1, z_ixt2, z_lenl, z_lent, z_tyt, z_tyl, z_tyd, z_tyi, z_tyb, z_tys, z_tyn, isT_tt, isT_lt, isT_dt, isT_it, isT_bt, isT_st, isT_nt, isT_ti, isT_li, isT_di, isT_ii, isT_bi, isT_si, isT_ni, isT_tb, isT_lb, isT_db, isT_ib, isT_bb, isT_sb, isT_nb, isT_ts, isT_ls, isT_ds, isT_is, isT_bs, isT_ss, isT_ns, z_forn, z_mulx, z_lr1, z_lr1N, okR_le, dk_get, dk_set, dk_add, dk_ll, z_rdo, z_tyo, z_app, z_ext, z_star, z_lr2, z_listN, z_sqt, z_sql, z_leno, z_frz, fzL_d, z_lens, z_sls, z_sll, z_addl, z_addt, z_na10, z_dct0, z_disp, z_disp1, z_slt, z_revt, dk_rd2, dk_ty2, dk_mem1, dk_len0, z_tupl, z_tupt, z_listt, z_listl, z_in2, slots0, mVar, wipeS, pickBy, dk_rd0, dk_rd1, dk_ix0, dk_ix1, dk_ix2, dk_ne, dk_setn, dk_ty0, dk_ty1, Option.some.injEq, List.map_cons, List.map_nil, List.length_cons, List.length_nil, List.replicate_succ, List.replicate_zero, List.cons_append, List.nil_append, List.append_nil, List.getElem?_cons_zero, List.getElem?_cons_succ, List.set_cons_zero, List.set_cons_succ, List.zip_cons_cons, List.zip_nil_left, List.foldl_cons, List.foldl_nil, List.filterMap_cons, List.filterMap_nil, Nat.reduceSub, Nat.reduceAdd, Nat.reduceLT, Nat.reduceLeDiff, Nat.zero_add, Nat.add_zero, Nat.reduceEqDiff, decide_eq_true_eq, Bool.not_eq_true, Bool.not_true, Bool.not_false, Bool.not_not, ite_true, ite_false, if_true, if_false, reduceIte, Bool.false_eq_true, and_self, and_true, true_and, Int.reduceNeg, Int.reduceLT, Int.reduceLE, Int.reduceSub, Int.reduceAdd, Int.reduceMul, Int.reducePow, Int.reduceEq, Int.reduceNe, decide_true, decide_false, decide_not, Bool.and_true, Bool.true_and, Bool.or_true, Bool.true_or, ne_eq, not_true_eq_false, not_false_eq_true, Bool.and_self, false_and, and_false, reduceCtorEq, eq_self, beq_self_eq_true, List.set_nil, List.getElem?_nil, List.length_append, List.length_map, Bool.false_and, Bool.and_false, Bool.false_or, Bool.or_false, Int.cast_ofNat_Int, Int.reduceToNat, Int.zero_add, Int.add_zero, e, l_rd, z_sortX l_list (sortD_i _)]
theorem beside_ok {M : Mm} {k f : Int} {ps : List (Int × Int)} {c : PyData} (h : ps.length < 16777216) :
    d_lbeside [.d (.tuple [.int k, .tuple (ps.map Zm.pairD), c]), .d (.int f)] M = .ok (.d (.list ((sortI (sums f ps)).map .int))) M := by
  refine z_trim ?_ rfl
  unfold b_lbeside
  have L := compL_eq (g := g0_lbeside) (t := t0_lbeside) (e := e0_lbeside) (M := M) (s0 := [some (.d (.tuple [.int k, .tuple (ps.map Zm.pairD), c])), some (.d (.int f)), none, none])
    (fun v => match v with
      | .d (.tuple [.int i, .int j]) => hit f i j
      | _ => false) (fun v => match v with
      | .d (.tuple [.int i, .int j]) => .d (.int (i + j - f))
      | v => v) ((ps.map Zm.pairD).map .d) (fun v hv => by
        rw [List.map_map] at hv
        obtain ⟨p, hp, rfl⟩ := List.mem_map.mp hv
        refine ⟨[some (.d (.tuple [.int k, .tuple (ps.map Zm.pairD), c])), some (.d (.int f)), some (.d (.int p.1)), some (.d (.int p.2))], rfl, ?_, fun _ => ?_⟩
        · unfold t0_lbeside
          simp only [z_bok, z_bsok, z_bbad, z_bsbad, z_seqbad, z_outbad, z_asgbad, small_fmod, small_lit, fits_le, smallR_lit, z_na64, z_bif, z_bsif, z_noer, z_seqn, z_seqr, z_seqif, z_outr, z_outn, z_outif, z_C, z_op, z_T, z_tand, z_tor, z_tnot, z_and, z_or, z_not, z_if, z_nil, z_cons, z_tup, z_lst, z_new, z_allD0, z_allD1, z_map, z_sNil, z_sSeq, z_sIf, z_sDrop, z_sRet, z_sAsg, z_asg, z_asgif, z_sPar, z_gN, z_gT, z_gsNil, z_gsCons, z_obind, z_gSet, z_B, z_It, z_Enum, z_R1, z_R2, z_r1, z_r2, z_Comp, z_For, z_Yes, z_M, z_Sl, z_oN, z_oS, z_Rev, z_Neg, z_IsI, z_call, z_callK, z_chain, z_body, z_rdd, z_rds, z_int, z_vI, z_vB, z_le, z_eqi, z_nei, z_nes, z_eqs, z_vInt, z_vI2, z_isN, z_notN, z_enumt, z_enuml, z_itl, z_itt, z_its, z_ixt0, z_ixt1, z_ixt2, z_lenl, z_lent, z_tyt, z_tyl, z_tyd, z_tyi, z_tyb, z_tys, z_tyn, isT_tt, isT_lt, isT_dt, isT_it, isT_bt, isT_st, isT_nt, isT_ti, isT_li, isT_di, isT_ii, isT_bi, isT_si, isT_ni, isT_tb, isT_lb, isT_db, isT_ib, isT_bb, isT_sb, isT_nb, isT_ts, isT_ls, isT_ds, isT_is, isT_bs, isT_ss, isT_ns, z_forn, z_mulx, z_lr1, z_lr1N, okR_le, dk_get, dk_set, dk_add, dk_ll, z_rdo, z_tyo, z_app, z_ext, z_star, z_lr2, z_listN, z_sqt, z_sql, z_leno, z_frz, fzL_d, z_lens, z_sls, z_sll, z_addl, z_addt, z_na10, z_dct0, z_disp, z_disp1, z_slt, z_revt, dk_rd2, dk_ty2, dk_mem1, dk_len0, z_tupl, z_tupt, z_listt, z_listl, z_in2, slots0, mVar, wipeS, pickBy, dk_rd0, dk_rd1, dk_ix0, dk_ix1, dk_ix2, dk_ne, dk_setn, dk_ty0, dk_ty1, Option.some.injEq, List.map_cons, List.map_nil, List.length_cons, List.length_nil, List.replicate_succ, List.replicate_zero, List.cons_append, List.nil_append, List.append_nil, List.getElem?_cons_zero, List.getElem?_cons_succ, List.set_cons_zero, List.set_cons_succ, List.zip_cons_cons, List.zip_nil_left, List.foldl_cons, List.foldl_nil, List.filterMap_cons, List.filterMap_nil, Nat.reduceSub, Nat.reduceAdd, Nat.reduceLT, Nat.reduceLeDiff, Nat.zero_add, Nat.add_zero, Nat.reduceEqDiff, decide_eq_true_eq, Bool.not_eq_true, Bool.not_true, Bool.not_false, Bool.not_not, ite_true, ite_false, if_true, if_false, reduceIte, Bool.false_eq_true, and_self, and_true, true_and, Int.reduceNeg, Int.reduceLT, Int.reduceLE, Int.reduceSub, Int.reduceAdd, Int.reduceMul, Int.reducePow, Int.reduceEq, Int.reduceNe, decide_true, decide_false, decide_not, Bool.and_true, Bool.true_and, Bool.or_true, Bool.true_or, ne_eq, not_true_eq_false, not_false_eq_true, Bool.and_self, false_and, and_false, reduceCtorEq, eq_self, beq_self_eq_true, List.set_nil, List.getElem?_nil, List.length_append, List.length_map, Bool.false_and, Bool.and_false, Bool.false_or, Bool.or_false, Int.cast_ofNat_Int, Int.reduceToNat, Int.zero_add, Int.add_zero, Zm.pairD, Function.comp]
        · unfold e0_lbeside
          simp only [z_bok, z_bsok, z_bbad, z_bsbad, z_seqbad, z_outbad, z_asgbad, small_fmod, small_lit, fits_le, smallR_lit, z_na64, z_bif, z_bsif, z_noer, z_seqn, z_seqr, z_seqif, z_outr, z_outn, z_outif, z_C, z_op, z_T, z_tand, z_tor, z_tnot, z_and, z_or, z_not, z_if, z_nil, z_cons, z_tup, z_lst, z_new, z_allD0, z_allD1, z_map, z_sNil, z_sSeq, z_sIf, z_sDrop, z_sRet, z_sAsg, z_asg, z_asgif, z_sPar, z_gN, z_gT, z_gsNil, z_gsCons, z_obind, z_gSet, z_B, z_It, z_Enum, z_R1, z_R2, z_r1, z_r2, z_Comp, z_For, z_Yes, z_M, z_Sl, z_oN, z_oS, z_Rev, z_Neg, z_IsI, z_call, z_callK, z_chain, z_body, z_rdd, z_rds, z_int, z_vI, z_vB, z_le, z_eqi, z_nei, z_nes, z_eqs, z_vInt, z_vI2, z_isN, z_notN, z_enumt, z_enuml, z_itl, z_itt, z_its, z_ixt0, z_ixt1, z_ixt2, z_lenl, z_lent, z_tyt, z_tyl, z_tyd, z_tyi, z_tyb, z_tys, z_tyn, isT_tt, isT_lt, isT_dt, isT_it, isT_bt, isT_st, isT_nt, isT_ti, isT_li, isT_di, isT_ii, isT_bi, isT_si, isT_ni, isT_tb, isT_lb, isT_db, isT_ib, isT_bb, isT_sb, isT_nb, isT_ts, isT_ls, isT_ds, isT_is, isT_bs, isT_ss, isT_ns, z_forn, z_mulx, z_lr1, z_lr1N, okR_le, dk_get, dk_set, dk_add, dk_ll, z_rdo, z_tyo, z_app, z_ext, z_star, z_lr2, z_listN, z_sqt, z_sql, z_leno, z_frz, fzL_d, z_lens, z_sls, z_sll, z_addl, z_addt, z_na10, z_dct0, z_disp, z_disp1, z_slt, z_revt, dk_rd2, dk_ty2, dk_mem1, dk_len0, z_tupl, z_tupt, z_listt, z_listl, z_in2, slots0, mVar, wipeS, pickBy, dk_rd0, dk_rd1, dk_ix0, dk_ix1, dk_ix2, dk_ne, dk_setn, dk_ty0, dk_ty1, Option.some.injEq, List.map_cons, List.map_nil, List.length_cons, List.length_nil, List.replicate_succ, List.replicate_zero, List.cons_append, List.nil_append, List.append_nil, List.getElem?_cons_zero, List.getElem?_cons_succ, List.set_cons_zero, List.set_cons_succ, List.zip_cons_cons, List.zip_nil_left, List.foldl_cons, List.foldl_nil, List.filterMap_cons, List.filterMap_nil, Nat.reduceSub, Nat.reduceAdd, Nat.reduceLT, Nat.reduceLeDiff, Nat.zero_add, Nat.add_zero, Nat.reduceEqDiff, decide_eq_true_eq, Bool.not_eq_true, Bool.not_true, Bool.not_false, Bool.not_not, ite_true, ite_false, if_true, if_false, reduceIte, Bool.false_eq_true, and_self, and_true, true_and, Int.reduceNeg, Int.reduceLT, Int.reduceLE, Int.reduceSub, Int.reduceAdd, Int.reduceMul, Int.reducePow, Int.reduceEq, Int.reduceNe, decide_true, decide_false, decide_not, Bool.and_true, Bool.true_and, Bool.or_true, Bool.true_or, ne_eq, not_true_eq_false, not_false_eq_true, Bool.and_self, false_and, and_false, reduceCtorEq, eq_self, beq_self_eq_true, List.set_nil, List.getElem?_nil, List.length_append, List.length_map, Bool.false_and, Bool.and_false, Bool.false_or, Bool.or_false, Int.cast_ofNat_Int, Int.reduceToNat, Int.zero_add, Int.add_zero, Zm.pairD, Function.comp])
  have e2 : ((((ps.map Zm.pairD).map Val.d).filter fun v => match v with
      | .d (.tuple [.int i, .int j]) => hit f i j
      | _ => false).map fun v => match v with
      | .d (.tuple [.int i, .int j]) => Val.d (.int (i + j - f))
      | v => v) = ((sums f ps).map PyData.int).map Val.d := by
    unfold sums
    clear L h
    induction ps with
    | nil => rfl
    | cons p ps ih =>
      rw [List.map_cons, List.map_cons, List.filter_cons, List.filter_cons]
      show List.map _ (if hit f p.1 p.2 = true then _ else _) = List.map _ (List.map _ (List.map _ (if hit f p.1 p.2 = true then _ else _)))
      split
      · rw [List.map_cons, List.map_cons, List.map_cons, List.map_cons, ih]
        rfl
      · exact ih
  rw [e2] at L
  simp only [z_bok, z_bsok, z_bbad, z_bsbad, z_seqbad, z_outbad, z_asgbad, small_fmod, small_lit, fits_le, smallR_lit, z_na64, z_bif, z_bsif, z_noer, z_seqn, z_seqr, z_seqif, z_outr, z_outn, z_outif, z_C, z_op, z_T, z_tand, z_tor, z_tnot, z_and, z_or, z_not, z_if, z_nil, z_cons, z_tup, z_lst, z_new, z_allD0, z_allD1, z_map, z_sNil, z_sSeq, z_sIf, z_sDrop, z_sRet, z_sAsg, z_asg, z_asgif, z_sPar, z_gN, z_gT, z_gsNil, z_gsCons, z_obind, z_gSet, z_B, z_It, z_Enum, z_R1, z_R2, z_r1, z_r2, z_Comp, z_For, z_Yes, z_M, z_Sl, z_oN, z_oS, z_Rev, z_Neg, z_IsI, z_call, z_callK, z_chain, z_body, z_rdd, z_rds, z_int, z_vI, z_vB, z_le, z_eqi, z_nei, z_nes, z_eqs, z_vInt, z_vI2, z_isN, z_notN, z_enumt, z_enuml, z_itl, z_itt, z_its, z_ixt0, z_ixt1, z_ixt2, z_lenl, z_lent, z_tyt, z_tyl, z_tyd, z_tyi, z_tyb, z_tys, z_tyn, isT_tt, isT_lt, isT_dt, isT_it, isT_bt, isT_st, isT_nt, isT_ti, isT_li, isT_di, isT_ii, isT_bi, isT_si, isT_ni, isT_tb, isT_lb, isT_db, isT_ib, isT_bb, isT_sb, isT_nb, isT_ts, isT_ls, isT_ds, isT_is, isT_bs, isT_ss, isT_ns, z_forn, z_mulx, z_lr1, z_lr1N, okR_le, dk_get, dk_set, dk_add, dk_ll, z_rdo, z_tyo, z_app, z_ext, z_star, z_lr2, z_listN, z_sqt, z_sql, z_leno, z_frz, fzL_d, z_lens, z_sls, z_sll, z_addl, z_addt, z_na10, z_dct0, z_disp, z_disp1, z_slt, z_revt, dk_rd2, dk_ty2, dk_mem1, dk_len0, z_tupl, z_tupt, z_listt, z_listl, z_in2, slots0, mVar, wipeS, pickBy, dk_rd0, dk_rd1, dk_ix0, dk_ix1, dk_ix2, dk_ne, dk_setn, dk_ty0, dk_ty1, Option.some.injEq, List.map_cons, List.map_nil, List.length_cons, List.length_nil, List.replicate_succ, List.replicate_zero, List.cons_append, List.nil_append, List.append_nil, List.getElem?_cons_zero, List.getElem?_cons_succ, List.set_cons_zero, List.set_cons_succ, List.zip_cons_cons, List.zip_nil_left, List.foldl_cons, List.foldl_nil, List.filterMap_cons, List.filterMap_nil, Nat.reduceSub, Nat.reduceAdd, Nat.reduceLT, Nat.reduceLeDiff, Nat.zero_add, Nat.add_zero, Nat.reduceEqDiff, decide_eq_true_eq, Bool.not_eq_true, Bool.not_true, Bool.not_false, Bool.not_not, ite_true, ite_false, if_true, if_false, reduceIte, Bool.false_eq_true, and_self, and_true, true_and, Int.reduceNeg, Int.reduceLT, Int.reduceLE, Int.reduceSub, Int.reduceAdd, Int.reduceMul, Int.reducePow, Int.reduceEq, Int.reduceNe, decide_true, decide_false, decide_not, Bool.and_true, Bool.true_and, Bool.or_true, Bool.true_or, ne_eq, not_true_eq_false, not_false_eq_true, Bool.and_self, false_and, and_false, reduceCtorEq, eq_self, beq_self_eq_true, List.set_nil, List.getElem?_nil, List.length_append, List.length_map, Bool.false_and, Bool.and_false, Bool.false_or, Bool.or_false, Int.cast_ofNat_Int, Int.reduceToNat, Int.zero_add, Int.add_zero, L, z_lcK (show ((sums f ps).map PyData.int).length ≤ 16777216 by rw [List.length_map]; unfold sums; rw [List.length_map]; have := List.length_filter_le (hitP f) ps; omega),
    z_sortX (show listD (.d (.list ((sums f ps).map .int))) M = some _ from rfl) (sortD_i _)]
end Zl
namespace Zl
open PySem PySem.Spec PyProof.Rows L2 Zm
/-! ### drawn pieces -/
/-- fields ascend -/
def AscP (ps : List (Int × Int)) : Prop := ps.Pairwise fun a b => a.1 < b.1
theorem ran_nodup (a b : Int) : (ranD a b).Nodup := by
  unfold ranD
  refine List.pairwise_map.mpr (List.Pairwise.imp (fun {i j} (h : i ≠ j) e => ?_) (List.nodup_range (n := (b - a).toNat)))
  have e := PyData.int.inj e
  omega
theorem strict_of {ns : List Int} (h1 : ns.Pairwise (· ≤ ·)) (h2 : ns.Nodup) : ns.Pairwise (· < ·) := by
  induction ns with
  | nil => exact .nil
  | cons n ns ih =>
    rw [List.pairwise_cons] at h1 ⊢
    rw [List.nodup_cons] at h2
    refine ⟨fun m hm => ?_, ih h1.2 h2.2⟩
    have a := h1.1 m hm
    have b : n ≠ m := fun e => h2.1 (e ▸ hm)
    omega
/-- a comprehension whose turns put out a pair for each number -/
theorem pair_comp {g : GM} {e : EM} {s0 : Sl} (h : ∀ (i : Int) (q : Dk), ∃ (s1 : Sl) (j : Int) (q' : Dk), g (.d (.int i)) s0 (q.mem []) = some (s1, q.mem []) ∧ e s1 (q.mem []) = .ok (.d (.tuple [.int i, .int j])) (q'.mem []) ∧ j.natAbs < 256) : ∀ (ns : List Int) (q : Dk),
    ∃ (q' : Dk) (ps : List (Int × Int)), compL g mYes e s0 ((ns.map PyData.int).map .d) (q.mem []) = .ok ((ps.map Zm.pairD).map .d) (q'.mem []) ∧ ps.map (·.1) = ns ∧ ∀ p ∈ ps, p.2.natAbs < 256
  | [], q => ⟨q, [], rfl, rfl, fun _ h => by cases h⟩
  | n :: ns, q => by
    obtain ⟨s1, j, q1, hg, he, hj⟩ := h n q
    obtain ⟨q2, ps, e2, h2, h3⟩ := pair_comp h ns q1
    refine ⟨q2, (n, j) :: ps, ?_, by rw [List.map_cons, h2], fun p hp => by rcases List.mem_cons.mp hp with rfl | hp; exact hj; exact h3 p hp⟩
    rw [List.map_cons, List.map_cons, compL_consT hg rfl he, e2]
    rfl
theorem pieces_ok (q : Dk) {k many : Int} {cr : List PyData} (h1 : 1 ≤ k) (h2 : k ≤ 24) (h3 : 1 ≤ many) (h4 : many ≤ 16) : ∃ (q' : Dk) (ps : List (Int × Int)),
    d_lpieces [.obj 1, .d (.tuple (.int k :: cr)), .d (.int many)] (q.mem []) = .ok (.d (.tuple (ps.map Zm.pairD))) (q'.mem []) ∧ ps.length ≤ 16 ∧ 0 < ps.length ∧ AscP ps ∧ ∀ p ∈ ps, p.1.natAbs < 256 ∧ p.2.natAbs < 256 := by
  obtain ⟨q1, es, e1, hp1⟩ := mixed_ok q (Lay.ran 0 6) (by decide)
  obtain ⟨r, q2, e2, a2, b2⟩ := draw_ok q1 [] (m := 2) (by decide) (by decide)
  have hl1 := hp1.length_eq
  rw [ranD_len] at hl1
  have hl1 : es.length = 6 := hl1
  have hpl : (cutL es none (some (2 + r))).length = (2 + r).toNat := by
    rw [cutL_take (by omega), List.length_take]
    omega
  obtain ⟨q3, fs, e3, hp3⟩ := mixed_ok q2 (Lay.ran 0 k) (by rw [ranD_len]; omega)
  have hl3 := hp3.length_eq
  rw [ranD_len] at hl3
  obtain ⟨ns, hns, hns2⟩ := ints_of (ds := cutL fs none (some many)) (P := fun i => 0 ≤ i ∧ i < k) (fun x hx => by
    obtain ⟨i, rfl, a, b⟩ := ranD_mem (hp3.mem_iff.mp ((cutL_sub _ _ _).mem hx))
    exact ⟨i, rfl, a, b⟩)
  have hnl : ns.length ≤ 16 ∧ 0 < ns.length := by
    have := congrArg List.length hns
    rw [cutL_take (by omega), List.length_take, List.length_map] at this
    omega
  have hnd : ns.Nodup := by
    have a : (cutL fs none (some many)).Nodup := (cutL_sub _ _ _).nodup (hp3.nodup_iff.mpr (ran_nodup 0 k))
    rw [hns] at a
    exact (List.pairwise_map.mp a).imp fun {x y} h e => h (by rw [e])
  obtain ⟨q4, ps, e4, hf, hb⟩ := pair_comp (g := g0_lpieces) (e := e0_lpieces) (s0 := [some (.obj 1), some (.d (.tuple (.int k :: cr))), some (.d (.int many)), some (.d (.list (cutL es none (some (2 + r))))), some (.d (.list ((sortI ns).map .int))), none])
    (fun i q => by
      obtain ⟨p, hp, q', e⟩ := pick_ok q [] (ds := cutL es none (some (2 + r))) (by omega) (by omega)
      obtain ⟨j, rfl, a, b⟩ := ranD_mem (hp1.mem_iff.mp ((cutL_sub _ _ _).mem hp))
      refine ⟨_, j, q', rfl, ?_, by omega⟩
      unfold e0_lpieces
      simp only [z_bok, z_bsok, z_bbad, z_bsbad, z_seqbad, z_outbad, z_asgbad, small_fmod, small_lit, fits_le, smallR_lit, z_na64, z_bif, z_bsif, z_noer, z_seqn, z_seqr, z_seqif, z_outr, z_outn, z_outif, z_C, z_op, z_T, z_tand, z_tor, z_tnot, z_and, z_or, z_not, z_if, z_nil, z_cons, z_tup, z_lst, z_new, z_allD0, z_allD1, z_map, z_sNil, z_sSeq, z_sIf, z_sDrop, z_sRet, z_sAsg, z_asg, z_asgif, z_sPar, z_gN, z_gT, z_gsNil, z_gsCons, z_obind, z_gSet, z_B, z_It, z_Enum, z_R1, z_R2, z_r1, z_r2, z_Comp, z_For, z_Yes, z_M, z_Sl, z_oN, z_oS, z_Rev, z_Neg, z_IsI, z_call, z_callK, z_chain, z_body, z_rdd, z_rds, z_int, z_vI, z_vB, z_le, z_eqi, z_nei, z_nes, z_eqs, z_vInt, z_vI2, z_isN, z_notN, z_enumt, z_enuml, z_itl, z_itt, z_its, z_ixt0, z_ixt1, z_ixt2, z_lenl, z_lent, z_tyt, z_tyl, z_tyd, z_tyi, z_tyb, z_tys, z_tyn, isT_tt, isT_lt, isT_dt, isT_it, isT_bt, isT_st, isT_nt, isT_ti, isT_li, isT_di, isT_ii, isT_bi, isT_si, isT_ni, isT_tb, isT_lb, isT_db, isT_ib, isT_bb, isT_sb, isT_nb, isT_ts, isT_ls, isT_ds, isT_is, isT_bs, isT_ss, isT_ns, z_forn, z_mulx, z_lr1, z_lr1N, okR_le, dk_get, dk_set, dk_add, dk_ll, z_rdo, z_tyo, z_app, z_ext, z_star, z_lr2, z_listN, z_sqt, z_sql, z_leno, z_frz, fzL_d, z_lens, z_sls, z_sll, z_addl, z_addt, z_na10, z_dct0, z_disp, z_disp1, z_slt, z_revt, dk_rd2, dk_ty2, dk_mem1, dk_len0, z_tupl, z_tupt, z_listt, z_listl, z_in2, slots0, mVar, wipeS, pickBy, dk_rd0, dk_rd1, dk_ix0, dk_ix1, dk_ix2, dk_ne, dk_setn, dk_ty0, dk_ty1, Option.some.injEq, List.map_cons, List.map_nil, List.length_cons, List.length_nil, List.replicate_succ, List.replicate_zero, List.cons_append, List.nil_append, List.append_nil, List.getElem?_cons_zero, List.getElem?_cons_succ, List.set_cons_zero, List.set_cons_succ, List.zip_cons_cons, List.zip_nil_left, List.foldl_cons, List.foldl_nil, List.filterMap_cons, List.filterMap_nil, Nat.reduceSub, Nat.reduceAdd, Nat.reduceLT, Nat.reduceLeDiff, Nat.zero_add, Nat.add_zero, Nat.reduceEqDiff, decide_eq_true_eq, Bool.not_eq_true, Bool.not_true, Bool.not_false, Bool.not_not, ite_true, ite_false, if_true, if_false, reduceIte, Bool.false_eq_true, and_self, and_true, true_and, Int.reduceNeg, Int.reduceLT, Int.reduceLE, Int.reduceSub, Int.reduceAdd, Int.reduceMul, Int.reducePow, Int.reduceEq, Int.reduceNe, decide_true, decide_false, decide_not, Bool.and_true, Bool.true_and, Bool.or_true, Bool.true_or, ne_eq, not_true_eq_false, not_false_eq_true, Bool.and_self, false_and, and_false, reduceCtorEq, eq_self, beq_self_eq_true, List.set_nil, List.getElem?_nil, List.length_append, List.length_map, Bool.false_and, Bool.and_false, Bool.false_or, Bool.or_false, Int.cast_ofNat_Int, Int.reduceToNat, Int.zero_add, Int.add_zero, e]) (sortI ns) q3
  have hlen : ps.length = ns.length := by
    have := congrArg List.length hf
    rw [List.length_map, (sortI_perm ns).length_eq] at this
    exact this
  refine ⟨q4, ps, z_trim ?_ rfl, by omega, by omega, ?_, fun p hp => ⟨?_, hb p hp⟩⟩
  · unfold b_lpieces
    have k1 : k ≤ 16777216 := by omega
    have k2 : 0 ≤ k := by omega
    simp only [z_bok, z_bsok, z_bbad, z_bsbad, z_seqbad, z_outbad, z_asgbad, small_fmod, small_lit, fits_le, smallR_lit, z_na64, z_bif, z_bsif, z_noer, z_seqn, z_seqr, z_seqif, z_outr, z_outn, z_outif, z_C, z_op, z_T, z_tand, z_tor, z_tnot, z_and, z_or, z_not, z_if, z_nil, z_cons, z_tup, z_lst, z_new, z_allD0, z_allD1, z_map, z_sNil, z_sSeq, z_sIf, z_sDrop, z_sRet, z_sAsg, z_asg, z_asgif, z_sPar, z_gN, z_gT, z_gsNil, z_gsCons, z_obind, z_gSet, z_B, z_It, z_Enum, z_R1, z_R2, z_r1, z_r2, z_Comp, z_For, z_Yes, z_M, z_Sl, z_oN, z_oS, z_Rev, z_Neg, z_IsI, z_call, z_callK, z_chain, z_body, z_rdd, z_rds, z_int, z_vI, z_vB, z_le, z_eqi, z_nei, z_nes, z_eqs, z_vInt, z_vI2, z_isN, z_notN, z_enumt, z_enuml, z_itl, z_itt, z_its, z_ixt0, z_ixt1, z_ixt2, z_lenl, z_lent, z_tyt, z_tyl, z_tyd, z_tyi, z_tyb, z_tys, z_tyn, isT_tt, isT_lt, isT_dt, isT_it, isT_bt, isT_st, isT_nt, isT_ti, isT_li, isT_di, isT_ii, isT_bi, isT_si, isT_ni, isT_tb, isT_lb, isT_db, isT_ib, isT_bb, isT_sb, isT_nb, isT_ts, isT_ls, isT_ds, isT_is, isT_bs, isT_ss, isT_ns, z_forn, z_mulx, z_lr1, z_lr1N, okR_le, dk_get, dk_set, dk_add, dk_ll, z_rdo, z_tyo, z_app, z_ext, z_star, z_lr2, z_listN, z_sqt, z_sql, z_leno, z_frz, fzL_d, z_lens, z_sls, z_sll, z_addl, z_addt, z_na10, z_dct0, z_disp, z_disp1, z_slt, z_revt, dk_rd2, dk_ty2, dk_mem1, dk_len0, z_tupl, z_tupt, z_listt, z_listl, z_in2, slots0, mVar, wipeS, pickBy, dk_rd0, dk_rd1, dk_ix0, dk_ix1, dk_ix2, dk_ne, dk_setn, dk_ty0, dk_ty1, Option.some.injEq, List.map_cons, List.map_nil, List.length_cons, List.length_nil, List.replicate_succ, List.replicate_zero, List.cons_append, List.nil_append, List.append_nil, List.getElem?_cons_zero, List.getElem?_cons_succ, List.set_cons_zero, List.set_cons_succ, List.zip_cons_cons, List.zip_nil_left, List.foldl_cons, List.foldl_nil, List.filterMap_cons, List.filterMap_nil, Nat.reduceSub, Nat.reduceAdd, Nat.reduceLT, Nat.reduceLeDiff, Nat.zero_add, Nat.add_zero, Nat.reduceEqDiff, decide_eq_true_eq, Bool.not_eq_true, Bool.not_true, Bool.not_false, Bool.not_not, ite_true, ite_false, if_true, if_false, reduceIte, Bool.false_eq_true, and_self, and_true, true_and, Int.reduceNeg, Int.reduceLT, Int.reduceLE, Int.reduceSub, Int.reduceAdd, Int.reduceMul, Int.reducePow, Int.reduceEq, Int.reduceNe, decide_true, decide_false, decide_not, Bool.and_true, Bool.true_and, Bool.or_true, Bool.true_or, ne_eq, not_true_eq_false, not_false_eq_true, Bool.and_self, false_and, and_false, reduceCtorEq, eq_self, beq_self_eq_true, List.set_nil, List.getElem?_nil, List.length_append, List.length_map, Bool.false_and, Bool.and_false, Bool.false_or, Bool.or_false, Int.cast_ofNat_Int, Int.reduceToNat, Int.zero_add, Int.add_zero, e1, e2, k1, k2, e3, hns, z_sortX (show listD (.d (.list (ns.map PyData.int))) _ = some _ from rfl) (sortD_i _), e4, z_lcK (show (ps.map Zm.pairD).length ≤ 16777216 by rw [List.length_map]; omega)]
  · have a := strict_of (sortI_sorted ns) ((sortI_perm ns).nodup_iff.mpr hnd)
    rw [← hf] at a
    exact List.pairwise_map.mp a
  · have : p.1 ∈ ps.map (·.1) := List.mem_map.mpr ⟨p, hp, rfl⟩
    rw [hf] at this
    have := hns2 _ ((sortI_perm ns).mem_iff.mp this)
    omega
end Zl
namespace Zl
open PySem PySem.Spec PyProof.Rows L2 Zm
/-! ### the orders of a piece -/
def nb (rps : List (Int × Int)) (f : Int) : List Int := sortI (sums f rps)
theorem nb_len (rps : List (Int × Int)) (f : Int) : (nb rps f).length ≤ rps.length := by
  unfold nb
  rw [(sortI_perm _).length_eq]
  unfold sums
  rw [List.length_map]
  exact List.length_filter_le _ _
def stayD : PyData := .tuple [.str "stay"]
def goD (g : Int) : PyData := .tuple [.str "go", .int g]
def hitG (rps : List (Int × Int)) (f g : Int) : Bool := decide (g = f) || inI (nb rps f) g
def bk1 (rps : List (Int × Int)) (own f : Int) : List (Int × Int) := ((nb rps own).filter (hitG rps f)).map fun g => (f, g)
def bks (rps : List (Int × Int)) (own : Int) (fs : List Int) : List (Int × Int) := (fs.filter fun f => !decide (f = own)).flatMap (bk1 rps own)
def ordL (rps ps : List (Int × Int)) (own : Int) : List PyData := stayD :: ((nb rps own).map goD ++ (bks rps own (ps.map (·.1))).map (triD "back"))
def chartD (k : Int) (rps : List (Int × Int)) (cs : PyData) : PyData := .tuple [.int k, .tuple (rps.map Zm.pairD), cs]
def boardD (k : Int) (rps : List (Int × Int)) (cs : PyData) (ps : List (Int × Int)) : PyData := .tuple [chartD k rps cs, .tuple (ps.map Zm.pairD)]
section
variable {k : Int} {rps ps : List (Int × Int)} {cs : PyData}
theorem fields_ok {M : Mm} {c : PyData} (hp : ps.length ≤ 1000) : d_fields_of [.d (.tuple [c, .tuple (ps.map Zm.pairD)])] M = .ok (.d (.tuple ((ps.map (·.1)).map .int))) M := by
  refine z_trim ?_ rfl
  unfold b_fields_of
  have L := compL_map (g := g0_fields_of) (t := mYes) (e := e0_fields_of) (M := M) (s0 := [some (.d (.tuple [c, .tuple (ps.map Zm.pairD)])), none, none]) Zm.pairD (fun _ => true) (fun p => .int p.1) ps (fun p _ => ⟨_, rfl, rfl, fun _ => rfl⟩)
  rw [List.filter_eq_self.mpr (fun _ _ => rfl)] at L
  have e : (ps.map fun p => PyData.int p.1) = (ps.map (·.1)).map .int := by rw [List.map_map]; rfl
  rw [e] at L
  simp only [z_bok, z_bsok, z_bbad, z_bsbad, z_seqbad, z_outbad, z_asgbad, small_fmod, small_lit, fits_le, smallR_lit, z_na64, z_bif, z_bsif, z_noer, z_seqn, z_seqr, z_seqif, z_outr, z_outn, z_outif, z_C, z_op, z_T, z_tand, z_tor, z_tnot, z_and, z_or, z_not, z_if, z_nil, z_cons, z_tup, z_lst, z_new, z_allD0, z_allD1, z_map, z_sNil, z_sSeq, z_sIf, z_sDrop, z_sRet, z_sAsg, z_asg, z_asgif, z_sPar, z_gN, z_gT, z_gsNil, z_gsCons, z_obind, z_gSet, z_B, z_It, z_Enum, z_R1, z_R2, z_r1, z_r2, z_Comp, z_For, z_Yes, z_M, z_Sl, z_oN, z_oS, z_Rev, z_Neg, z_IsI, z_call, z_callK, z_chain, z_body, z_rdd, z_rds, z_int, z_vI, z_vB, z_le, z_eqi, z_nei, z_nes, z_eqs, z_vInt, z_vI2, z_isN, z_notN, z_enumt, z_enuml, z_itl, z_itt, z_its, z_ixt0, z_ixt1, z_ixt2, z_lenl, z_lent, z_tyt, z_tyl, z_tyd, z_tyi, z_tyb, z_tys, z_tyn, isT_tt, isT_lt, isT_dt, isT_it, isT_bt, isT_st, isT_nt, isT_ti, isT_li, isT_di, isT_ii, isT_bi, isT_si, isT_ni, isT_tb, isT_lb, isT_db, isT_ib, isT_bb, isT_sb, isT_nb, isT_ts, isT_ls, isT_ds, isT_is, isT_bs, isT_ss, isT_ns, z_forn, z_mulx, z_lr1, z_lr1N, okR_le, dk_get, dk_set, dk_add, dk_ll, z_rdo, z_tyo, z_app, z_ext, z_star, z_lr2, z_listN, z_sqt, z_sql, z_leno, z_frz, fzL_d, z_lens, z_sls, z_sll, z_addl, z_addt, z_na10, z_dct0, z_disp, z_disp1, z_slt, z_revt, dk_rd2, dk_ty2, dk_mem1, dk_len0, z_tupl, z_tupt, z_listt, z_listl, z_in2, slots0, mVar, wipeS, pickBy, dk_rd0, dk_rd1, dk_ix0, dk_ix1, dk_ix2, dk_ne, dk_setn, dk_ty0, dk_ty1, Option.some.injEq, List.map_cons, List.map_nil, List.length_cons, List.length_nil, List.replicate_succ, List.replicate_zero, List.cons_append, List.nil_append, List.append_nil, List.getElem?_cons_zero, List.getElem?_cons_succ, List.set_cons_zero, List.set_cons_succ, List.zip_cons_cons, List.zip_nil_left, List.foldl_cons, List.foldl_nil, List.filterMap_cons, List.filterMap_nil, Nat.reduceSub, Nat.reduceAdd, Nat.reduceLT, Nat.reduceLeDiff, Nat.zero_add, Nat.add_zero, Nat.reduceEqDiff, decide_eq_true_eq, Bool.not_eq_true, Bool.not_true, Bool.not_false, Bool.not_not, ite_true, ite_false, if_true, if_false, reduceIte, Bool.false_eq_true, and_self, and_true, true_and, Int.reduceNeg, Int.reduceLT, Int.reduceLE, Int.reduceSub, Int.reduceAdd, Int.reduceMul, Int.reducePow, Int.reduceEq, Int.reduceNe, decide_true, decide_false, decide_not, Bool.and_true, Bool.true_and, Bool.or_true, Bool.true_or, ne_eq, not_true_eq_false, not_false_eq_true, Bool.and_self, false_and, and_false, reduceCtorEq, eq_self, beq_self_eq_true, List.set_nil, List.getElem?_nil, List.length_append, List.length_map, Bool.false_and, Bool.and_false, Bool.false_or, Bool.or_false, Int.cast_ofNat_Int, Int.reduceToNat, Int.zero_add, Int.add_zero, L, z_lcK (show ((ps.map (·.1)).map PyData.int).length ≤ 16777216 by rw [List.length_map, List.length_map]; omega)]
theorem near_at {M : Mm} (hb : M.all (MO.below M.length) = true) {f : Int} (hr : rps.length ≤ 1000) : d_near [.d (chartD k rps cs), .d (.int f)] M = .ok (.d (.tuple ((nb rps f).map .int))) M := near_ok hb (by omega)
theorem fx_at {n : Nat} {p : Int × Int} (h : ps[n]? = some p) : atI ((ps.map (·.1)).map PyData.int) (n : Int) = some (.int p.1) := atI_at (by rw [List.getElem?_map, List.getElem?_map, h]; rfl)
theorem px_at {n : Nat} {p : Int × Int} (h : ps[n]? = some p) : atI (ps.map Zm.pairD) (n : Int) = some (Zm.pairD p) := atI_at (by rw [List.getElem?_map, h]; rfl)
theorem orders_loop {q : Dk} {n : Nat} {own : Int} (hr : rps.length ≤ 1000) : ∀ (fs : List Int) (us : List PyData) (a b : Option Val), us.length + fs.length * rps.length ≤ 1000000 → ∃ a' b',
    forL g0_orders_of l0_orders_of ((fs.map PyData.int).map .d) [some (.d (boardD k rps cs ps)), some (.d (.int n)), some (.d (.int own)), some (.d (.tuple ((nb rps own).map .int))), some (.obj 2), a, b, none] (q.mem [.lst (us.map .d)]) =
      .nx [some (.d (boardD k rps cs ps)), some (.d (.int n)), some (.d (.int own)), some (.d (.tuple ((nb rps own).map .int))), some (.obj 2), a', b', none] (q.mem [.lst ((us ++ (fs.flatMap (bk1 rps own)).map (triD "back")).map .d)])
  | [], us, a, b, _ => ⟨a, b, by simp only [List.flatMap_nil, List.map_nil, List.append_nil]; rfl⟩
  | f :: fs, us, a, b, h => by
    rw [List.length_cons, Nat.succ_mul] at h
    have hb : (bk1 rps own f).length ≤ rps.length := by
      unfold bk1
      rw [List.length_map]
      exact Nat.le_trans (List.length_filter_le _ _) (nb_len rps own)
    have L := compL_map (g := g2_orders_of) (t := t2_orders_of) (e := e2_orders_of) (M := q.mem [.lst (us.map .d)])
      (s0 := [some (.d (boardD k rps cs ps)), some (.d (.int n)), some (.d (.int own)), some (.d (.tuple ((nb rps own).map .int))), some (.obj 2), some (.d (.int f)), some (.d (.tuple ((nb rps f).map .int))), none])
      PyData.int (hitG rps f) (fun g => triD "back" (f, g)) (nb rps own) (fun g _ => ⟨_, rfl, by
        unfold t2_orders_of hitG
        simp only [z_bok, z_bsok, z_bbad, z_bsbad, z_seqbad, z_outbad, z_asgbad, small_fmod, small_lit, fits_le, smallR_lit, z_na64, z_bif, z_bsif, z_noer, z_seqn, z_seqr, z_seqif, z_outr, z_outn, z_outif, z_C, z_op, z_T, z_tand, z_tor, z_tnot, z_and, z_or, z_not, z_if, z_nil, z_cons, z_tup, z_lst, z_new, z_allD0, z_allD1, z_map, z_sNil, z_sSeq, z_sIf, z_sDrop, z_sRet, z_sAsg, z_asg, z_asgif, z_sPar, z_gN, z_gT, z_gsNil, z_gsCons, z_obind, z_gSet, z_B, z_It, z_Enum, z_R1, z_R2, z_r1, z_r2, z_Comp, z_For, z_Yes, z_M, z_Sl, z_oN, z_oS, z_Rev, z_Neg, z_IsI, z_call, z_callK, z_chain, z_body, z_rdd, z_rds, z_int, z_vI, z_vB, z_le, z_eqi, z_nei, z_nes, z_eqs, z_vInt, z_vI2, z_isN, z_notN, z_enumt, z_enuml, z_itl, z_itt, z_its, z_ixt0, z_ixt1, z_ixt2, z_lenl, z_lent, z_tyt, z_tyl, z_tyd, z_tyi, z_tyb, z_tys, z_tyn, isT_tt, isT_lt, isT_dt, isT_it, isT_bt, isT_st, isT_nt, isT_ti, isT_li, isT_di, isT_ii, isT_bi, isT_si, isT_ni, isT_tb, isT_lb, isT_db, isT_ib, isT_bb, isT_sb, isT_nb, isT_ts, isT_ls, isT_ds, isT_is, isT_bs, isT_ss, isT_ns, z_forn, z_mulx, z_lr1, z_lr1N, okR_le, dk_get, dk_set, dk_add, dk_ll, z_rdo, z_tyo, z_app, z_ext, z_star, z_lr2, z_listN, z_sqt, z_sql, z_leno, z_frz, fzL_d, z_lens, z_sls, z_sll, z_addl, z_addt, z_na10, z_dct0, z_disp, z_disp1, z_slt, z_revt, dk_rd2, dk_ty2, dk_mem1, dk_len0, z_tupl, z_tupt, z_listt, z_listl, z_in2, slots0, mVar, wipeS, pickBy, dk_rd0, dk_rd1, dk_ix0, dk_ix1, dk_ix2, dk_ne, dk_setn, dk_ty0, dk_ty1, Option.some.injEq, List.map_cons, List.map_nil, List.length_cons, List.length_nil, List.replicate_succ, List.replicate_zero, List.cons_append, List.nil_append, List.append_nil, List.getElem?_cons_zero, List.getElem?_cons_succ, List.set_cons_zero, List.set_cons_succ, List.zip_cons_cons, List.zip_nil_left, List.foldl_cons, List.foldl_nil, List.filterMap_cons, List.filterMap_nil, Nat.reduceSub, Nat.reduceAdd, Nat.reduceLT, Nat.reduceLeDiff, Nat.zero_add, Nat.add_zero, Nat.reduceEqDiff, decide_eq_true_eq, Bool.not_eq_true, Bool.not_true, Bool.not_false, Bool.not_not, ite_true, ite_false, if_true, if_false, reduceIte, Bool.false_eq_true, and_self, and_true, true_and, Int.reduceNeg, Int.reduceLT, Int.reduceLE, Int.reduceSub, Int.reduceAdd, Int.reduceMul, Int.reducePow, Int.reduceEq, Int.reduceNe, decide_true, decide_false, decide_not, Bool.and_true, Bool.true_and, Bool.or_true, Bool.true_or, ne_eq, not_true_eq_false, not_false_eq_true, Bool.and_self, false_and, and_false, reduceCtorEq, eq_self, beq_self_eq_true, List.set_nil, List.getElem?_nil, List.length_append, List.length_map, Bool.false_and, Bool.and_false, Bool.false_or, Bool.or_false, Int.cast_ofNat_Int, Int.reduceToNat, Int.zero_add, Int.add_zero, z_inti (ns := nb rps f) z_sqt]
        by_cases e : g = f
        · simp only [z_bok, z_bsok, z_bbad, z_bsbad, z_seqbad, z_outbad, z_asgbad, small_fmod, small_lit, fits_le, smallR_lit, z_na64, z_bif, z_bsif, z_noer, z_seqn, z_seqr, z_seqif, z_outr, z_outn, z_outif, z_C, z_op, z_T, z_tand, z_tor, z_tnot, z_and, z_or, z_not, z_if, z_nil, z_cons, z_tup, z_lst, z_new, z_allD0, z_allD1, z_map, z_sNil, z_sSeq, z_sIf, z_sDrop, z_sRet, z_sAsg, z_asg, z_asgif, z_sPar, z_gN, z_gT, z_gsNil, z_gsCons, z_obind, z_gSet, z_B, z_It, z_Enum, z_R1, z_R2, z_r1, z_r2, z_Comp, z_For, z_Yes, z_M, z_Sl, z_oN, z_oS, z_Rev, z_Neg, z_IsI, z_call, z_callK, z_chain, z_body, z_rdd, z_rds, z_int, z_vI, z_vB, z_le, z_eqi, z_nei, z_nes, z_eqs, z_vInt, z_vI2, z_isN, z_notN, z_enumt, z_enuml, z_itl, z_itt, z_its, z_ixt0, z_ixt1, z_ixt2, z_lenl, z_lent, z_tyt, z_tyl, z_tyd, z_tyi, z_tyb, z_tys, z_tyn, isT_tt, isT_lt, isT_dt, isT_it, isT_bt, isT_st, isT_nt, isT_ti, isT_li, isT_di, isT_ii, isT_bi, isT_si, isT_ni, isT_tb, isT_lb, isT_db, isT_ib, isT_bb, isT_sb, isT_nb, isT_ts, isT_ls, isT_ds, isT_is, isT_bs, isT_ss, isT_ns, z_forn, z_mulx, z_lr1, z_lr1N, okR_le, dk_get, dk_set, dk_add, dk_ll, z_rdo, z_tyo, z_app, z_ext, z_star, z_lr2, z_listN, z_sqt, z_sql, z_leno, z_frz, fzL_d, z_lens, z_sls, z_sll, z_addl, z_addt, z_na10, z_dct0, z_disp, z_disp1, z_slt, z_revt, dk_rd2, dk_ty2, dk_mem1, dk_len0, z_tupl, z_tupt, z_listt, z_listl, z_in2, slots0, mVar, wipeS, pickBy, dk_rd0, dk_rd1, dk_ix0, dk_ix1, dk_ix2, dk_ne, dk_setn, dk_ty0, dk_ty1, Option.some.injEq, List.map_cons, List.map_nil, List.length_cons, List.length_nil, List.replicate_succ, List.replicate_zero, List.cons_append, List.nil_append, List.append_nil, List.getElem?_cons_zero, List.getElem?_cons_succ, List.set_cons_zero, List.set_cons_succ, List.zip_cons_cons, List.zip_nil_left, List.foldl_cons, List.foldl_nil, List.filterMap_cons, List.filterMap_nil, Nat.reduceSub, Nat.reduceAdd, Nat.reduceLT, Nat.reduceLeDiff, Nat.zero_add, Nat.add_zero, Nat.reduceEqDiff, decide_eq_true_eq, Bool.not_eq_true, Bool.not_true, Bool.not_false, Bool.not_not, ite_true, ite_false, if_true, if_false, reduceIte, Bool.false_eq_true, and_self, and_true, true_and, Int.reduceNeg, Int.reduceLT, Int.reduceLE, Int.reduceSub, Int.reduceAdd, Int.reduceMul, Int.reducePow, Int.reduceEq, Int.reduceNe, decide_true, decide_false, decide_not, Bool.and_true, Bool.true_and, Bool.or_true, Bool.true_or, ne_eq, not_true_eq_false, not_false_eq_true, Bool.and_self, false_and, and_false, reduceCtorEq, eq_self, beq_self_eq_true, List.set_nil, List.getElem?_nil, List.length_append, List.length_map, Bool.false_and, Bool.and_false, Bool.false_or, Bool.or_false, Int.cast_ofNat_Int, Int.reduceToNat, Int.zero_add, Int.add_zero, e]
        · simp only [z_bok, z_bsok, z_bbad, z_bsbad, z_seqbad, z_outbad, z_asgbad, small_fmod, small_lit, fits_le, smallR_lit, z_na64, z_bif, z_bsif, z_noer, z_seqn, z_seqr, z_seqif, z_outr, z_outn, z_outif, z_C, z_op, z_T, z_tand, z_tor, z_tnot, z_and, z_or, z_not, z_if, z_nil, z_cons, z_tup, z_lst, z_new, z_allD0, z_allD1, z_map, z_sNil, z_sSeq, z_sIf, z_sDrop, z_sRet, z_sAsg, z_asg, z_asgif, z_sPar, z_gN, z_gT, z_gsNil, z_gsCons, z_obind, z_gSet, z_B, z_It, z_Enum, z_R1, z_R2, z_r1, z_r2, z_Comp, z_For, z_Yes, z_M, z_Sl, z_oN, z_oS, z_Rev, z_Neg, z_IsI, z_call, z_callK, z_chain, z_body, z_rdd, z_rds, z_int, z_vI, z_vB, z_le, z_eqi, z_nei, z_nes, z_eqs, z_vInt, z_vI2, z_isN, z_notN, z_enumt, z_enuml, z_itl, z_itt, z_its, z_ixt0, z_ixt1, z_ixt2, z_lenl, z_lent, z_tyt, z_tyl, z_tyd, z_tyi, z_tyb, z_tys, z_tyn, isT_tt, isT_lt, isT_dt, isT_it, isT_bt, isT_st, isT_nt, isT_ti, isT_li, isT_di, isT_ii, isT_bi, isT_si, isT_ni, isT_tb, isT_lb, isT_db, isT_ib, isT_bb, isT_sb, isT_nb, isT_ts, isT_ls, isT_ds, isT_is, isT_bs, isT_ss, isT_ns, z_forn, z_mulx, z_lr1, z_lr1N, okR_le, dk_get, dk_set, dk_add, dk_ll, z_rdo, z_tyo, z_app, z_ext, z_star, z_lr2, z_listN, z_sqt, z_sql, z_leno, z_frz, fzL_d, z_lens, z_sls, z_sll, z_addl, z_addt, z_na10, z_dct0, z_disp, z_disp1, z_slt, z_revt, dk_rd2, dk_ty2, dk_mem1, dk_len0, z_tupl, z_tupt, z_listt, z_listl, z_in2, slots0, mVar, wipeS, pickBy, dk_rd0, dk_rd1, dk_ix0, dk_ix1, dk_ix2, dk_ne, dk_setn, dk_ty0, dk_ty1, Option.some.injEq, List.map_cons, List.map_nil, List.length_cons, List.length_nil, List.replicate_succ, List.replicate_zero, List.cons_append, List.nil_append, List.append_nil, List.getElem?_cons_zero, List.getElem?_cons_succ, List.set_cons_zero, List.set_cons_succ, List.zip_cons_cons, List.zip_nil_left, List.foldl_cons, List.foldl_nil, List.filterMap_cons, List.filterMap_nil, Nat.reduceSub, Nat.reduceAdd, Nat.reduceLT, Nat.reduceLeDiff, Nat.zero_add, Nat.add_zero, Nat.reduceEqDiff, decide_eq_true_eq, Bool.not_eq_true, Bool.not_true, Bool.not_false, Bool.not_not, ite_true, ite_false, if_true, if_false, reduceIte, Bool.false_eq_true, and_self, and_true, true_and, Int.reduceNeg, Int.reduceLT, Int.reduceLE, Int.reduceSub, Int.reduceAdd, Int.reduceMul, Int.reducePow, Int.reduceEq, Int.reduceNe, decide_true, decide_false, decide_not, Bool.and_true, Bool.true_and, Bool.or_true, Bool.true_or, ne_eq, not_true_eq_false, not_false_eq_true, Bool.and_self, false_and, and_false, reduceCtorEq, eq_self, beq_self_eq_true, List.set_nil, List.getElem?_nil, List.length_append, List.length_map, Bool.false_and, Bool.and_false, Bool.false_or, Bool.or_false, Int.cast_ofNat_Int, Int.reduceToNat, Int.zero_add, Int.add_zero, e], fun _ => by
        unfold e2_orders_of
        simp only [z_bok, z_bsok, z_bbad, z_bsbad, z_seqbad, z_outbad, z_asgbad, small_fmod, small_lit, fits_le, smallR_lit, z_na64, z_bif, z_bsif, z_noer, z_seqn, z_seqr, z_seqif, z_outr, z_outn, z_outif, z_C, z_op, z_T, z_tand, z_tor, z_tnot, z_and, z_or, z_not, z_if, z_nil, z_cons, z_tup, z_lst, z_new, z_allD0, z_allD1, z_map, z_sNil, z_sSeq, z_sIf, z_sDrop, z_sRet, z_sAsg, z_asg, z_asgif, z_sPar, z_gN, z_gT, z_gsNil, z_gsCons, z_obind, z_gSet, z_B, z_It, z_Enum, z_R1, z_R2, z_r1, z_r2, z_Comp, z_For, z_Yes, z_M, z_Sl, z_oN, z_oS, z_Rev, z_Neg, z_IsI, z_call, z_callK, z_chain, z_body, z_rdd, z_rds, z_int, z_vI, z_vB, z_le, z_eqi, z_nei, z_nes, z_eqs, z_vInt, z_vI2, z_isN, z_notN, z_enumt, z_enuml, z_itl, z_itt, z_its, z_ixt0, z_ixt1, z_ixt2, z_lenl, z_lent, z_tyt, z_tyl, z_tyd, z_tyi, z_tyb, z_tys, z_tyn, isT_tt, isT_lt, isT_dt, isT_it, isT_bt, isT_st, isT_nt, isT_ti, isT_li, isT_di, isT_ii, isT_bi, isT_si, isT_ni, isT_tb, isT_lb, isT_db, isT_ib, isT_bb, isT_sb, isT_nb, isT_ts, isT_ls, isT_ds, isT_is, isT_bs, isT_ss, isT_ns, z_forn, z_mulx, z_lr1, z_lr1N, okR_le, dk_get, dk_set, dk_add, dk_ll, z_rdo, z_tyo, z_app, z_ext, z_star, z_lr2, z_listN, z_sqt, z_sql, z_leno, z_frz, fzL_d, z_lens, z_sls, z_sll, z_addl, z_addt, z_na10, z_dct0, z_disp, z_disp1, z_slt, z_revt, dk_rd2, dk_ty2, dk_mem1, dk_len0, z_tupl, z_tupt, z_listt, z_listl, z_in2, slots0, mVar, wipeS, pickBy, dk_rd0, dk_rd1, dk_ix0, dk_ix1, dk_ix2, dk_ne, dk_setn, dk_ty0, dk_ty1, Option.some.injEq, List.map_cons, List.map_nil, List.length_cons, List.length_nil, List.replicate_succ, List.replicate_zero, List.cons_append, List.nil_append, List.append_nil, List.getElem?_cons_zero, List.getElem?_cons_succ, List.set_cons_zero, List.set_cons_succ, List.zip_cons_cons, List.zip_nil_left, List.foldl_cons, List.foldl_nil, List.filterMap_cons, List.filterMap_nil, Nat.reduceSub, Nat.reduceAdd, Nat.reduceLT, Nat.reduceLeDiff, Nat.zero_add, Nat.add_zero, Nat.reduceEqDiff, decide_eq_true_eq, Bool.not_eq_true, Bool.not_true, Bool.not_false, Bool.not_not, ite_true, ite_false, if_true, if_false, reduceIte, Bool.false_eq_true, and_self, and_true, true_and, Int.reduceNeg, Int.reduceLT, Int.reduceLE, Int.reduceSub, Int.reduceAdd, Int.reduceMul, Int.reducePow, Int.reduceEq, Int.reduceNe, decide_true, decide_false, decide_not, Bool.and_true, Bool.true_and, Bool.or_true, Bool.true_or, ne_eq, not_true_eq_false, not_false_eq_true, Bool.and_self, false_and, and_false, reduceCtorEq, eq_self, beq_self_eq_true, List.set_nil, List.getElem?_nil, List.length_append, List.length_map, Bool.false_and, Bool.and_false, Bool.false_or, Bool.or_false, Int.cast_ofNat_Int, Int.reduceToNat, Int.zero_add, Int.add_zero, triD]⟩)
    have e1 : ((nb rps own).filter (hitG rps f)).map (fun g => triD "back" (f, g)) = (bk1 rps own f).map (triD "back") := by unfold bk1; rw [List.map_map]; rfl
    rw [e1] at L
    obtain ⟨a', b', e⟩ := orders_loop hr (q := q) (n := n) (own := own) fs (us ++ (bk1 rps own f).map (triD "back")) (some (.d (.int f))) (some (.d (.tuple ((nb rps f).map .int)))) (by rw [List.length_append, List.length_map]; omega)
    refine ⟨a', b', ?_⟩
    rw [List.map_cons, List.map_cons, z_forc (s1 := [some (.d (boardD k rps cs ps)), some (.d (.int n)), some (.d (.int own)), some (.d (.tuple ((nb rps own).map .int))), some (.obj 2), some (.d (.int f)), b, none]) (M1 := q.mem [.lst (us.map .d)]) rfl]
    have hn := near_at (k := k) (cs := cs) (f := f) (M := q.mem [.lst (us.map .d)]) (dk_below1 (Nat.succ_pos _)) hr
    have f1 : us.length + (bk1 rps own f).length ≤ 16777216 := by omega
    unfold l0_orders_of
    unfold boardD at e L ⊢
    simp only [z_bok, z_bsok, z_bbad, z_bsbad, z_seqbad, z_outbad, z_asgbad, small_fmod, small_lit, fits_le, smallR_lit, z_na64, z_bif, z_bsif, z_noer, z_seqn, z_seqr, z_seqif, z_outr, z_outn, z_outif, z_C, z_op, z_T, z_tand, z_tor, z_tnot, z_and, z_or, z_not, z_if, z_nil, z_cons, z_tup, z_lst, z_new, z_allD0, z_allD1, z_map, z_sNil, z_sSeq, z_sIf, z_sDrop, z_sRet, z_sAsg, z_asg, z_asgif, z_sPar, z_gN, z_gT, z_gsNil, z_gsCons, z_obind, z_gSet, z_B, z_It, z_Enum, z_R1, z_R2, z_r1, z_r2, z_Comp, z_For, z_Yes, z_M, z_Sl, z_oN, z_oS, z_Rev, z_Neg, z_IsI, z_call, z_callK, z_chain, z_body, z_rdd, z_rds, z_int, z_vI, z_vB, z_le, z_eqi, z_nei, z_nes, z_eqs, z_vInt, z_vI2, z_isN, z_notN, z_enumt, z_enuml, z_itl, z_itt, z_its, z_ixt0, z_ixt1, z_ixt2, z_lenl, z_lent, z_tyt, z_tyl, z_tyd, z_tyi, z_tyb, z_tys, z_tyn, isT_tt, isT_lt, isT_dt, isT_it, isT_bt, isT_st, isT_nt, isT_ti, isT_li, isT_di, isT_ii, isT_bi, isT_si, isT_ni, isT_tb, isT_lb, isT_db, isT_ib, isT_bb, isT_sb, isT_nb, isT_ts, isT_ls, isT_ds, isT_is, isT_bs, isT_ss, isT_ns, z_forn, z_mulx, z_lr1, z_lr1N, okR_le, dk_get, dk_set, dk_add, dk_ll, z_rdo, z_tyo, z_app, z_ext, z_star, z_lr2, z_listN, z_sqt, z_sql, z_leno, z_frz, fzL_d, z_lens, z_sls, z_sll, z_addl, z_addt, z_na10, z_dct0, z_disp, z_disp1, z_slt, z_revt, dk_rd2, dk_ty2, dk_mem1, dk_len0, z_tupl, z_tupt, z_listt, z_listl, z_in2, slots0, mVar, wipeS, pickBy, dk_rd0, dk_rd1, dk_ix0, dk_ix1, dk_ix2, dk_ne, dk_setn, dk_ty0, dk_ty1, Option.some.injEq, List.map_cons, List.map_nil, List.length_cons, List.length_nil, List.replicate_succ, List.replicate_zero, List.cons_append, List.nil_append, List.append_nil, List.getElem?_cons_zero, List.getElem?_cons_succ, List.set_cons_zero, List.set_cons_succ, List.zip_cons_cons, List.zip_nil_left, List.foldl_cons, List.foldl_nil, List.filterMap_cons, List.filterMap_nil, Nat.reduceSub, Nat.reduceAdd, Nat.reduceLT, Nat.reduceLeDiff, Nat.zero_add, Nat.add_zero, Nat.reduceEqDiff, decide_eq_true_eq, Bool.not_eq_true, Bool.not_true, Bool.not_false, Bool.not_not, ite_true, ite_false, if_true, if_false, reduceIte, Bool.false_eq_true, and_self, and_true, true_and, Int.reduceNeg, Int.reduceLT, Int.reduceLE, Int.reduceSub, Int.reduceAdd, Int.reduceMul, Int.reducePow, Int.reduceEq, Int.reduceNe, decide_true, decide_false, decide_not, Bool.and_true, Bool.true_and, Bool.or_true, Bool.true_or, ne_eq, not_true_eq_false, not_false_eq_true, Bool.and_self, false_and, and_false, reduceCtorEq, eq_self, beq_self_eq_true, List.set_nil, List.getElem?_nil, List.length_append, List.length_map, Bool.false_and, Bool.and_false, Bool.false_or, Bool.or_false, Int.cast_ofNat_Int, Int.reduceToNat, Int.zero_add, Int.add_zero, hn, L, z_lcK (show ((bk1 rps own f).map (triD "back")).length ≤ 16777216 by rw [List.length_map]; omega), f1]
    have e4 : us.map Val.d ++ ((bk1 rps own f).map (triD "back")).map Val.d = (us ++ (bk1 rps own f).map (triD "back")).map Val.d := List.map_append.symm
    have e5 : us ++ ((f :: fs).flatMap (bk1 rps own)).map (triD "back") = (us ++ (bk1 rps own f).map (triD "back")) ++ (fs.flatMap (bk1 rps own)).map (triD "back") := by rw [List.flatMap_cons, List.map_append, List.append_assoc]
    rw [e4, e5]
    exact e
theorem orders_of_ok {q : Dk} {n : Nat} {p : Int × Int} (h : ps[n]? = some p) (hr : rps.length ≤ 1000) (hp : ps.length ≤ 100) : d_orders_of [.d (boardD k rps cs ps), .d (.int n)] (q.mem []) = .ok (.d (.tuple (ordL rps ps p.1))) (q.mem []) := by
  refine z_trimc (R := [.lst ((ordL rps ps p.1).map .d)]) ?_ rfl (dk_below (Nat.succ_pos _))
  have L1 := compL_map (g := g3_orders_of) (t := mYes) (e := e3_orders_of) (M := q.mem [])
    (s0 := [some (.d (boardD k rps cs ps)), some (.d (.int n)), some (.d (.int p.1)), some (.d (.tuple ((nb rps p.1).map .int))), none, none, none, none]) PyData.int (fun _ => true) goD (nb rps p.1) (fun g _ => ⟨_, rfl, rfl, fun _ => by
      unfold e3_orders_of
      simp only [z_bok, z_bsok, z_bbad, z_bsbad, z_seqbad, z_outbad, z_asgbad, small_fmod, small_lit, fits_le, smallR_lit, z_na64, z_bif, z_bsif, z_noer, z_seqn, z_seqr, z_seqif, z_outr, z_outn, z_outif, z_C, z_op, z_T, z_tand, z_tor, z_tnot, z_and, z_or, z_not, z_if, z_nil, z_cons, z_tup, z_lst, z_new, z_allD0, z_allD1, z_map, z_sNil, z_sSeq, z_sIf, z_sDrop, z_sRet, z_sAsg, z_asg, z_asgif, z_sPar, z_gN, z_gT, z_gsNil, z_gsCons, z_obind, z_gSet, z_B, z_It, z_Enum, z_R1, z_R2, z_r1, z_r2, z_Comp, z_For, z_Yes, z_M, z_Sl, z_oN, z_oS, z_Rev, z_Neg, z_IsI, z_call, z_callK, z_chain, z_body, z_rdd, z_rds, z_int, z_vI, z_vB, z_le, z_eqi, z_nei, z_nes, z_eqs, z_vInt, z_vI2, z_isN, z_notN, z_enumt, z_enuml, z_itl, z_itt, z_its, z_ixt0, z_ixt1, z_ixt2, z_lenl, z_lent, z_tyt, z_tyl, z_tyd, z_tyi, z_tyb, z_tys, z_tyn, isT_tt, isT_lt, isT_dt, isT_it, isT_bt, isT_st, isT_nt, isT_ti, isT_li, isT_di, isT_ii, isT_bi, isT_si, isT_ni, isT_tb, isT_lb, isT_db, isT_ib, isT_bb, isT_sb, isT_nb, isT_ts, isT_ls, isT_ds, isT_is, isT_bs, isT_ss, isT_ns, z_forn, z_mulx, z_lr1, z_lr1N, okR_le, dk_get, dk_set, dk_add, dk_ll, z_rdo, z_tyo, z_app, z_ext, z_star, z_lr2, z_listN, z_sqt, z_sql, z_leno, z_frz, fzL_d, z_lens, z_sls, z_sll, z_addl, z_addt, z_na10, z_dct0, z_disp, z_disp1, z_slt, z_revt, dk_rd2, dk_ty2, dk_mem1, dk_len0, z_tupl, z_tupt, z_listt, z_listl, z_in2, slots0, mVar, wipeS, pickBy, dk_rd0, dk_rd1, dk_ix0, dk_ix1, dk_ix2, dk_ne, dk_setn, dk_ty0, dk_ty1, Option.some.injEq, List.map_cons, List.map_nil, List.length_cons, List.length_nil, List.replicate_succ, List.replicate_zero, List.cons_append, List.nil_append, List.append_nil, List.getElem?_cons_zero, List.getElem?_cons_succ, List.set_cons_zero, List.set_cons_succ, List.zip_cons_cons, List.zip_nil_left, List.foldl_cons, List.foldl_nil, List.filterMap_cons, List.filterMap_nil, Nat.reduceSub, Nat.reduceAdd, Nat.reduceLT, Nat.reduceLeDiff, Nat.zero_add, Nat.add_zero, Nat.reduceEqDiff, decide_eq_true_eq, Bool.not_eq_true, Bool.not_true, Bool.not_false, Bool.not_not, ite_true, ite_false, if_true, if_false, reduceIte, Bool.false_eq_true, and_self, and_true, true_and, Int.reduceNeg, Int.reduceLT, Int.reduceLE, Int.reduceSub, Int.reduceAdd, Int.reduceMul, Int.reducePow, Int.reduceEq, Int.reduceNe, decide_true, decide_false, decide_not, Bool.and_true, Bool.true_and, Bool.or_true, Bool.true_or, ne_eq, not_true_eq_false, not_false_eq_true, Bool.and_self, false_and, and_false, reduceCtorEq, eq_self, beq_self_eq_true, List.set_nil, List.getElem?_nil, List.length_append, List.length_map, Bool.false_and, Bool.and_false, Bool.false_or, Bool.or_false, Int.cast_ofNat_Int, Int.reduceToNat, Int.zero_add, Int.add_zero, goD]⟩)
  rw [List.filter_eq_self.mpr (fun _ _ => rfl)] at L1
  have hl := nb_len rps p.1
  have L2 := compL_map (g := g1_orders_of) (t := t1_orders_of) (e := e1_orders_of) (M := q.mem [.lst ((stayD :: (nb rps p.1).map goD).map .d)])
    (s0 := [some (.d (boardD k rps cs ps)), some (.d (.int n)), some (.d (.int p.1)), some (.d (.tuple ((nb rps p.1).map .int))), some (.obj 2), none, none, none]) PyData.int (fun f => !decide (f = p.1)) PyData.int (ps.map (·.1)) (fun g _ => ⟨_, rfl, by
      unfold t1_orders_of
      simp only [z_bok, z_bsok, z_bbad, z_bsbad, z_seqbad, z_outbad, z_asgbad, small_fmod, small_lit, fits_le, smallR_lit, z_na64, z_bif, z_bsif, z_noer, z_seqn, z_seqr, z_seqif, z_outr, z_outn, z_outif, z_C, z_op, z_T, z_tand, z_tor, z_tnot, z_and, z_or, z_not, z_if, z_nil, z_cons, z_tup, z_lst, z_new, z_allD0, z_allD1, z_map, z_sNil, z_sSeq, z_sIf, z_sDrop, z_sRet, z_sAsg, z_asg, z_asgif, z_sPar, z_gN, z_gT, z_gsNil, z_gsCons, z_obind, z_gSet, z_B, z_It, z_Enum, z_R1, z_R2, z_r1, z_r2, z_Comp, z_For, z_Yes, z_M, z_Sl, z_oN, z_oS, z_Rev, z_Neg, z_IsI, z_call, z_callK, z_chain, z_body, z_rdd, z_rds, z_int, z_vI, z_vB, z_le, z_eqi, z_nei, z_nes, z_eqs, z_vInt, z_vI2, z_isN, z_notN, z_enumt, z_enuml, z_itl, z_itt, z_its, z_ixt0, z_ixt1, z_ixt2, z_lenl, z_lent, z_tyt, z_tyl, z_tyd, z_tyi, z_tyb, z_tys, z_tyn, isT_tt, isT_lt, isT_dt, isT_it, isT_bt, isT_st, isT_nt, isT_ti, isT_li, isT_di, isT_ii, isT_bi, isT_si, isT_ni, isT_tb, isT_lb, isT_db, isT_ib, isT_bb, isT_sb, isT_nb, isT_ts, isT_ls, isT_ds, isT_is, isT_bs, isT_ss, isT_ns, z_forn, z_mulx, z_lr1, z_lr1N, okR_le, dk_get, dk_set, dk_add, dk_ll, z_rdo, z_tyo, z_app, z_ext, z_star, z_lr2, z_listN, z_sqt, z_sql, z_leno, z_frz, fzL_d, z_lens, z_sls, z_sll, z_addl, z_addt, z_na10, z_dct0, z_disp, z_disp1, z_slt, z_revt, dk_rd2, dk_ty2, dk_mem1, dk_len0, z_tupl, z_tupt, z_listt, z_listl, z_in2, slots0, mVar, wipeS, pickBy, dk_rd0, dk_rd1, dk_ix0, dk_ix1, dk_ix2, dk_ne, dk_setn, dk_ty0, dk_ty1, Option.some.injEq, List.map_cons, List.map_nil, List.length_cons, List.length_nil, List.replicate_succ, List.replicate_zero, List.cons_append, List.nil_append, List.append_nil, List.getElem?_cons_zero, List.getElem?_cons_succ, List.set_cons_zero, List.set_cons_succ, List.zip_cons_cons, List.zip_nil_left, List.foldl_cons, List.foldl_nil, List.filterMap_cons, List.filterMap_nil, Nat.reduceSub, Nat.reduceAdd, Nat.reduceLT, Nat.reduceLeDiff, Nat.zero_add, Nat.add_zero, Nat.reduceEqDiff, decide_eq_true_eq, Bool.not_eq_true, Bool.not_true, Bool.not_false, Bool.not_not, ite_true, ite_false, if_true, if_false, reduceIte, Bool.false_eq_true, and_self, and_true, true_and, Int.reduceNeg, Int.reduceLT, Int.reduceLE, Int.reduceSub, Int.reduceAdd, Int.reduceMul, Int.reducePow, Int.reduceEq, Int.reduceNe, decide_true, decide_false, decide_not, Bool.and_true, Bool.true_and, Bool.or_true, Bool.true_or, ne_eq, not_true_eq_false, not_false_eq_true, Bool.and_self, false_and, and_false, reduceCtorEq, eq_self, beq_self_eq_true, List.set_nil, List.getElem?_nil, List.length_append, List.length_map, Bool.false_and, Bool.and_false, Bool.false_or, Bool.or_false, Int.cast_ofNat_Int, Int.reduceToNat, Int.zero_add, Int.add_zero], fun _ => rfl⟩)
  have hfl : ((ps.map (·.1)).filter fun f => !decide (f = p.1)).length ≤ 100 := Nat.le_trans (List.length_filter_le _ _) (by rw [List.length_map]; exact hp)
  obtain ⟨a, b, e⟩ := orders_loop (k := k) (cs := cs) (ps := ps) (q := q) (n := n) (own := p.1) hr ((ps.map (·.1)).filter fun f => !decide (f = p.1)) (stayD :: (nb rps p.1).map goD) none none (by
    have : ((ps.map (·.1)).filter fun f => !decide (f = p.1)).length * rps.length ≤ 100 * 1000 := Nat.mul_le_mul hfl hr
    rw [List.length_cons, List.length_map]
    omega)
  have hn := near_at (k := k) (cs := cs) (f := p.1) (M := q.mem []) (dk_below (Nat.succ_pos _)) hr
  have hfo := fields_ok (ps := ps) (c := chartD k rps cs) (M := q.mem []) (by omega)
  have hfo2 := fields_ok (ps := ps) (c := chartD k rps cs) (M := q.mem [.lst ((stayD :: (nb rps p.1).map goD).map .d)]) (by omega)
  have f1 : (nb rps p.1).length + 1 ≤ 16777216 := by omega
  unfold b_orders_of
  unfold boardD at e L1 L2 ⊢
  simp only [stayD, List.map_cons] at e L2 hfo2
  simp only [z_bok, z_bsok, z_bbad, z_bsbad, z_seqbad, z_outbad, z_asgbad, small_fmod, small_lit, fits_le, smallR_lit, z_na64, z_bif, z_bsif, z_noer, z_seqn, z_seqr, z_seqif, z_outr, z_outn, z_outif, z_C, z_op, z_T, z_tand, z_tor, z_tnot, z_and, z_or, z_not, z_if, z_nil, z_cons, z_tup, z_lst, z_new, z_allD0, z_allD1, z_map, z_sNil, z_sSeq, z_sIf, z_sDrop, z_sRet, z_sAsg, z_asg, z_asgif, z_sPar, z_gN, z_gT, z_gsNil, z_gsCons, z_obind, z_gSet, z_B, z_It, z_Enum, z_R1, z_R2, z_r1, z_r2, z_Comp, z_For, z_Yes, z_M, z_Sl, z_oN, z_oS, z_Rev, z_Neg, z_IsI, z_call, z_callK, z_chain, z_body, z_rdd, z_rds, z_int, z_vI, z_vB, z_le, z_eqi, z_nei, z_nes, z_eqs, z_vInt, z_vI2, z_isN, z_notN, z_enumt, z_enuml, z_itl, z_itt, z_its, z_ixt0, z_ixt1, z_ixt2, z_lenl, z_lent, z_tyt, z_tyl, z_tyd, z_tyi, z_tyb, z_tys, z_tyn, isT_tt, isT_lt, isT_dt, isT_it, isT_bt, isT_st, isT_nt, isT_ti, isT_li, isT_di, isT_ii, isT_bi, isT_si, isT_ni, isT_tb, isT_lb, isT_db, isT_ib, isT_bb, isT_sb, isT_nb, isT_ts, isT_ls, isT_ds, isT_is, isT_bs, isT_ss, isT_ns, z_forn, z_mulx, z_lr1, z_lr1N, okR_le, dk_get, dk_set, dk_add, dk_ll, z_rdo, z_tyo, z_app, z_ext, z_star, z_lr2, z_listN, z_sqt, z_sql, z_leno, z_frz, fzL_d, z_lens, z_sls, z_sll, z_addl, z_addt, z_na10, z_dct0, z_disp, z_disp1, z_slt, z_revt, dk_rd2, dk_ty2, dk_mem1, dk_len0, z_tupl, z_tupt, z_listt, z_listl, z_in2, slots0, mVar, wipeS, pickBy, dk_rd0, dk_rd1, dk_ix0, dk_ix1, dk_ix2, dk_ne, dk_setn, dk_ty0, dk_ty1, Option.some.injEq, List.map_cons, List.map_nil, List.length_cons, List.length_nil, List.replicate_succ, List.replicate_zero, List.cons_append, List.nil_append, List.append_nil, List.getElem?_cons_zero, List.getElem?_cons_succ, List.set_cons_zero, List.set_cons_succ, List.zip_cons_cons, List.zip_nil_left, List.foldl_cons, List.foldl_nil, List.filterMap_cons, List.filterMap_nil, Nat.reduceSub, Nat.reduceAdd, Nat.reduceLT, Nat.reduceLeDiff, Nat.zero_add, Nat.add_zero, Nat.reduceEqDiff, decide_eq_true_eq, Bool.not_eq_true, Bool.not_true, Bool.not_false, Bool.not_not, ite_true, ite_false, if_true, if_false, reduceIte, Bool.false_eq_true, and_self, and_true, true_and, Int.reduceNeg, Int.reduceLT, Int.reduceLE, Int.reduceSub, Int.reduceAdd, Int.reduceMul, Int.reducePow, Int.reduceEq, Int.reduceNe, decide_true, decide_false, decide_not, Bool.and_true, Bool.true_and, Bool.or_true, Bool.true_or, ne_eq, not_true_eq_false, not_false_eq_true, Bool.and_self, false_and, and_false, reduceCtorEq, eq_self, beq_self_eq_true, List.set_nil, List.getElem?_nil, List.length_append, List.length_map, Bool.false_and, Bool.and_false, Bool.false_or, Bool.or_false, Int.cast_ofNat_Int, Int.reduceToNat, Int.zero_add, Int.add_zero, hfo, z_ixt (fx_at h), hn, L1, z_lcK (show ((nb rps p.1).map goD).length ≤ 16777216 by rw [List.length_map]; omega), f1, hfo2, L2,
    z_lcK (show (((ps.map (·.1)).filter fun f => !decide (f = p.1)).map PyData.int).length ≤ 16777216 by rw [List.length_map]; omega), e]
  have hs : vTuple [.obj 2] (q.mem [.lst ((ordL rps ps p.1).map .d)]) = .ok (.d (.tuple (ordL rps ps p.1))) (q.mem [.lst ((ordL rps ps p.1).map .d)]) := by
    show (match seqD (.obj 2) (q.mem [.lst ((ordL rps ps p.1).map .d)]) with
      | some ds => Out.ok (Val.d (.tuple ds)) _
      | none => .bad) = _
    rw [seqD_obj (ds := ordL rps ps p.1) rfl]
  show (Out.bindS (vTuple [.obj 2] (q.mem [.lst ((ordL rps ps p.1).map .d)])) _ _).out = _
  rw [hs]
  rfl
/-! ### the law's own list -/
theorem lo_inner {q : Dk} {B n pc ow fi re go pl : Option Val} {f : Int} (hr : rps.length ≤ 1000) : ∀ (gs : List Int) (us : List PyData) (a : Option Val), us.length + gs.length ≤ 1000000 → ∃ a',
    forL g1_lorders_of l1_lorders_of ((gs.map PyData.int).map .d) [B, n, some (.d (chartD k rps cs)), pc, ow, fi, re, go, some (.obj 2), some (.d (.int f)), a, pl] (q.mem [.lst (us.map .d)]) =
      .nx [B, n, some (.d (chartD k rps cs)), pc, ow, fi, re, go, some (.obj 2), some (.d (.int f)), a', pl] (q.mem [.lst ((us ++ ((gs.filter (hitG rps f)).map fun g => (f, g)).map (triD "back")).map .d)])
  | [], us, a, _ => ⟨a, by simp only [List.filter_nil, List.map_nil, List.append_nil]; rfl⟩
  | g :: gs, us, a, h => by
    rw [List.length_cons] at h
    rw [List.map_cons, List.map_cons, z_forc (s1 := [B, n, some (.d (chartD k rps cs)), pc, ow, fi, re, go, some (.obj 2), some (.d (.int f)), some (.d (.int g)), pl]) (M1 := q.mem [.lst (us.map .d)]) rfl]
    have hb : d_lbeside [.d (chartD k rps cs), .d (.int f)] (q.mem [.lst (us.map .d)]) = .ok (.d (.list ((nb rps f).map .int))) (q.mem [.lst (us.map .d)]) := beside_ok (by omega)
    have hi := z_inti (M := q.mem [.lst (us.map .d)]) (g := g) (ns := nb rps f) (v := .d (.list ((nb rps f).map .int))) z_sql
    have f1 : us.length < 16777216 := by omega
    cases hh : hitG rps f g with
    | true =>
      obtain ⟨a', e⟩ := lo_inner hr (q := q) (B := B) (n := n) (pc := pc) (ow := ow) (fi := fi) (re := re) (go := go) (pl := pl) (f := f) gs (us ++ [triD "back" (f, g)]) (some (.d (.int g))) (by rw [List.length_append, List.length_singleton]; omega)
      refine ⟨a', ?_⟩
      have e4 : us.map Val.d ++ [Val.d (.tuple [.str "back", .int f, .int g])] = (us ++ [triD "back" (f, g)]).map Val.d := by rw [List.map_append]; rfl
      have e5 : us ++ ((((g :: gs).filter (hitG rps f)).map fun g => (f, g)).map (triD "back")) = (us ++ [triD "back" (f, g)]) ++ (((gs.filter (hitG rps f)).map fun g => (f, g)).map (triD "back")) := by
        rw [List.filter_cons_of_pos hh, List.append_assoc]
        rfl
      have hh2 : (decide (g = f) || inI (nb rps f) g) = true := hh
      unfold l1_lorders_of
      by_cases hg : g = f
      · simp only [z_bok, z_bsok, z_bbad, z_bsbad, z_seqbad, z_outbad, z_asgbad, small_fmod, small_lit, fits_le, smallR_lit, z_na64, z_bif, z_bsif, z_noer, z_seqn, z_seqr, z_seqif, z_outr, z_outn, z_outif, z_C, z_op, z_T, z_tand, z_tor, z_tnot, z_and, z_or, z_not, z_if, z_nil, z_cons, z_tup, z_lst, z_new, z_allD0, z_allD1, z_map, z_sNil, z_sSeq, z_sIf, z_sDrop, z_sRet, z_sAsg, z_asg, z_asgif, z_sPar, z_gN, z_gT, z_gsNil, z_gsCons, z_obind, z_gSet, z_B, z_It, z_Enum, z_R1, z_R2, z_r1, z_r2, z_Comp, z_For, z_Yes, z_M, z_Sl, z_oN, z_oS, z_Rev, z_Neg, z_IsI, z_call, z_callK, z_chain, z_body, z_rdd, z_rds, z_int, z_vI, z_vB, z_le, z_eqi, z_nei, z_nes, z_eqs, z_vInt, z_vI2, z_isN, z_notN, z_enumt, z_enuml, z_itl, z_itt, z_its, z_ixt0, z_ixt1, z_ixt2, z_lenl, z_lent, z_tyt, z_tyl, z_tyd, z_tyi, z_tyb, z_tys, z_tyn, isT_tt, isT_lt, isT_dt, isT_it, isT_bt, isT_st, isT_nt, isT_ti, isT_li, isT_di, isT_ii, isT_bi, isT_si, isT_ni, isT_tb, isT_lb, isT_db, isT_ib, isT_bb, isT_sb, isT_nb, isT_ts, isT_ls, isT_ds, isT_is, isT_bs, isT_ss, isT_ns, z_forn, z_mulx, z_lr1, z_lr1N, okR_le, dk_get, dk_set, dk_add, dk_ll, z_rdo, z_tyo, z_app, z_ext, z_star, z_lr2, z_listN, z_sqt, z_sql, z_leno, z_frz, fzL_d, z_lens, z_sls, z_sll, z_addl, z_addt, z_na10, z_dct0, z_disp, z_disp1, z_slt, z_revt, dk_rd2, dk_ty2, dk_mem1, dk_len0, z_tupl, z_tupt, z_listt, z_listl, z_in2, slots0, mVar, wipeS, pickBy, dk_rd0, dk_rd1, dk_ix0, dk_ix1, dk_ix2, dk_ne, dk_setn, dk_ty0, dk_ty1, Option.some.injEq, List.map_cons, List.map_nil, List.length_cons, List.length_nil, List.replicate_succ, List.replicate_zero, List.cons_append, List.nil_append, List.append_nil, List.getElem?_cons_zero, List.getElem?_cons_succ, List.set_cons_zero, List.set_cons_succ, List.zip_cons_cons, List.zip_nil_left, List.foldl_cons, List.foldl_nil, List.filterMap_cons, List.filterMap_nil, Nat.reduceSub, Nat.reduceAdd, Nat.reduceLT, Nat.reduceLeDiff, Nat.zero_add, Nat.add_zero, Nat.reduceEqDiff, decide_eq_true_eq, Bool.not_eq_true, Bool.not_true, Bool.not_false, Bool.not_not, ite_true, ite_false, if_true, if_false, reduceIte, Bool.false_eq_true, and_self, and_true, true_and, Int.reduceNeg, Int.reduceLT, Int.reduceLE, Int.reduceSub, Int.reduceAdd, Int.reduceMul, Int.reducePow, Int.reduceEq, Int.reduceNe, decide_true, decide_false, decide_not, Bool.and_true, Bool.true_and, Bool.or_true, Bool.true_or, ne_eq, not_true_eq_false, not_false_eq_true, Bool.and_self, false_and, and_false, reduceCtorEq, eq_self, beq_self_eq_true, List.set_nil, List.getElem?_nil, List.length_append, List.length_map, Bool.false_and, Bool.and_false, Bool.false_or, Bool.or_false, Int.cast_ofNat_Int, Int.reduceToNat, Int.zero_add, Int.add_zero, hg, f1]
        subst hg
        rw [e4, e5]
        exact e
      · rw [decide_eq_false hg, Bool.false_or] at hh2
        simp only [z_bok, z_bsok, z_bbad, z_bsbad, z_seqbad, z_outbad, z_asgbad, small_fmod, small_lit, fits_le, smallR_lit, z_na64, z_bif, z_bsif, z_noer, z_seqn, z_seqr, z_seqif, z_outr, z_outn, z_outif, z_C, z_op, z_T, z_tand, z_tor, z_tnot, z_and, z_or, z_not, z_if, z_nil, z_cons, z_tup, z_lst, z_new, z_allD0, z_allD1, z_map, z_sNil, z_sSeq, z_sIf, z_sDrop, z_sRet, z_sAsg, z_asg, z_asgif, z_sPar, z_gN, z_gT, z_gsNil, z_gsCons, z_obind, z_gSet, z_B, z_It, z_Enum, z_R1, z_R2, z_r1, z_r2, z_Comp, z_For, z_Yes, z_M, z_Sl, z_oN, z_oS, z_Rev, z_Neg, z_IsI, z_call, z_callK, z_chain, z_body, z_rdd, z_rds, z_int, z_vI, z_vB, z_le, z_eqi, z_nei, z_nes, z_eqs, z_vInt, z_vI2, z_isN, z_notN, z_enumt, z_enuml, z_itl, z_itt, z_its, z_ixt0, z_ixt1, z_ixt2, z_lenl, z_lent, z_tyt, z_tyl, z_tyd, z_tyi, z_tyb, z_tys, z_tyn, isT_tt, isT_lt, isT_dt, isT_it, isT_bt, isT_st, isT_nt, isT_ti, isT_li, isT_di, isT_ii, isT_bi, isT_si, isT_ni, isT_tb, isT_lb, isT_db, isT_ib, isT_bb, isT_sb, isT_nb, isT_ts, isT_ls, isT_ds, isT_is, isT_bs, isT_ss, isT_ns, z_forn, z_mulx, z_lr1, z_lr1N, okR_le, dk_get, dk_set, dk_add, dk_ll, z_rdo, z_tyo, z_app, z_ext, z_star, z_lr2, z_listN, z_sqt, z_sql, z_leno, z_frz, fzL_d, z_lens, z_sls, z_sll, z_addl, z_addt, z_na10, z_dct0, z_disp, z_disp1, z_slt, z_revt, dk_rd2, dk_ty2, dk_mem1, dk_len0, z_tupl, z_tupt, z_listt, z_listl, z_in2, slots0, mVar, wipeS, pickBy, dk_rd0, dk_rd1, dk_ix0, dk_ix1, dk_ix2, dk_ne, dk_setn, dk_ty0, dk_ty1, Option.some.injEq, List.map_cons, List.map_nil, List.length_cons, List.length_nil, List.replicate_succ, List.replicate_zero, List.cons_append, List.nil_append, List.append_nil, List.getElem?_cons_zero, List.getElem?_cons_succ, List.set_cons_zero, List.set_cons_succ, List.zip_cons_cons, List.zip_nil_left, List.foldl_cons, List.foldl_nil, List.filterMap_cons, List.filterMap_nil, Nat.reduceSub, Nat.reduceAdd, Nat.reduceLT, Nat.reduceLeDiff, Nat.zero_add, Nat.add_zero, Nat.reduceEqDiff, decide_eq_true_eq, Bool.not_eq_true, Bool.not_true, Bool.not_false, Bool.not_not, ite_true, ite_false, if_true, if_false, reduceIte, Bool.false_eq_true, and_self, and_true, true_and, Int.reduceNeg, Int.reduceLT, Int.reduceLE, Int.reduceSub, Int.reduceAdd, Int.reduceMul, Int.reducePow, Int.reduceEq, Int.reduceNe, decide_true, decide_false, decide_not, Bool.and_true, Bool.true_and, Bool.or_true, Bool.true_or, ne_eq, not_true_eq_false, not_false_eq_true, Bool.and_self, false_and, and_false, reduceCtorEq, eq_self, beq_self_eq_true, List.set_nil, List.getElem?_nil, List.length_append, List.length_map, Bool.false_and, Bool.and_false, Bool.false_or, Bool.or_false, Int.cast_ofNat_Int, Int.reduceToNat, Int.zero_add, Int.add_zero, hg, hb, hi, hh2, f1]
        rw [e4, e5]
        exact e
    | false =>
      obtain ⟨a', e⟩ := lo_inner hr (q := q) (B := B) (n := n) (pc := pc) (ow := ow) (fi := fi) (re := re) (go := go) (pl := pl) (f := f) gs us (some (.d (.int g))) (by omega)
      refine ⟨a', ?_⟩
      have hh2 : (decide (g = f) || inI (nb rps f) g) = false := hh
      rw [Bool.or_eq_false_iff, decide_eq_false_iff_not] at hh2
      rw [List.filter_cons_of_neg (by rw [hh]; decide)]
      unfold l1_lorders_of
      simp only [z_bok, z_bsok, z_bbad, z_bsbad, z_seqbad, z_outbad, z_asgbad, small_fmod, small_lit, fits_le, smallR_lit, z_na64, z_bif, z_bsif, z_noer, z_seqn, z_seqr, z_seqif, z_outr, z_outn, z_outif, z_C, z_op, z_T, z_tand, z_tor, z_tnot, z_and, z_or, z_not, z_if, z_nil, z_cons, z_tup, z_lst, z_new, z_allD0, z_allD1, z_map, z_sNil, z_sSeq, z_sIf, z_sDrop, z_sRet, z_sAsg, z_asg, z_asgif, z_sPar, z_gN, z_gT, z_gsNil, z_gsCons, z_obind, z_gSet, z_B, z_It, z_Enum, z_R1, z_R2, z_r1, z_r2, z_Comp, z_For, z_Yes, z_M, z_Sl, z_oN, z_oS, z_Rev, z_Neg, z_IsI, z_call, z_callK, z_chain, z_body, z_rdd, z_rds, z_int, z_vI, z_vB, z_le, z_eqi, z_nei, z_nes, z_eqs, z_vInt, z_vI2, z_isN, z_notN, z_enumt, z_enuml, z_itl, z_itt, z_its, z_ixt0, z_ixt1, z_ixt2, z_lenl, z_lent, z_tyt, z_tyl, z_tyd, z_tyi, z_tyb, z_tys, z_tyn, isT_tt, isT_lt, isT_dt, isT_it, isT_bt, isT_st, isT_nt, isT_ti, isT_li, isT_di, isT_ii, isT_bi, isT_si, isT_ni, isT_tb, isT_lb, isT_db, isT_ib, isT_bb, isT_sb, isT_nb, isT_ts, isT_ls, isT_ds, isT_is, isT_bs, isT_ss, isT_ns, z_forn, z_mulx, z_lr1, z_lr1N, okR_le, dk_get, dk_set, dk_add, dk_ll, z_rdo, z_tyo, z_app, z_ext, z_star, z_lr2, z_listN, z_sqt, z_sql, z_leno, z_frz, fzL_d, z_lens, z_sls, z_sll, z_addl, z_addt, z_na10, z_dct0, z_disp, z_disp1, z_slt, z_revt, dk_rd2, dk_ty2, dk_mem1, dk_len0, z_tupl, z_tupt, z_listt, z_listl, z_in2, slots0, mVar, wipeS, pickBy, dk_rd0, dk_rd1, dk_ix0, dk_ix1, dk_ix2, dk_ne, dk_setn, dk_ty0, dk_ty1, Option.some.injEq, List.map_cons, List.map_nil, List.length_cons, List.length_nil, List.replicate_succ, List.replicate_zero, List.cons_append, List.nil_append, List.append_nil, List.getElem?_cons_zero, List.getElem?_cons_succ, List.set_cons_zero, List.set_cons_succ, List.zip_cons_cons, List.zip_nil_left, List.foldl_cons, List.foldl_nil, List.filterMap_cons, List.filterMap_nil, Nat.reduceSub, Nat.reduceAdd, Nat.reduceLT, Nat.reduceLeDiff, Nat.zero_add, Nat.add_zero, Nat.reduceEqDiff, decide_eq_true_eq, Bool.not_eq_true, Bool.not_true, Bool.not_false, Bool.not_not, ite_true, ite_false, if_true, if_false, reduceIte, Bool.false_eq_true, and_self, and_true, true_and, Int.reduceNeg, Int.reduceLT, Int.reduceLE, Int.reduceSub, Int.reduceAdd, Int.reduceMul, Int.reducePow, Int.reduceEq, Int.reduceNe, decide_true, decide_false, decide_not, Bool.and_true, Bool.true_and, Bool.or_true, Bool.true_or, ne_eq, not_true_eq_false, not_false_eq_true, Bool.and_self, false_and, and_false, reduceCtorEq, eq_self, beq_self_eq_true, List.set_nil, List.getElem?_nil, List.length_append, List.length_map, Bool.false_and, Bool.and_false, Bool.false_or, Bool.or_false, Int.cast_ofNat_Int, Int.reduceToNat, Int.zero_add, Int.add_zero, hh2.1, hb, hi, hh2.2]
      exact e
theorem lo_outer {q : Dk} {B n pc fi go pl : Option Val} {own : Int} (hr : rps.length ≤ 1000) : ∀ (fs : List Int) (us : List PyData) (a b : Option Val), us.length + fs.length * rps.length ≤ 1000000 → ∃ a' b',
    forL g0_lorders_of l0_lorders_of ((fs.map PyData.int).map .d) [B, n, some (.d (chartD k rps cs)), pc, some (.d (.int own)), fi, some (.d (.list ((nb rps own).map .int))), go, some (.obj 2), a, b, pl] (q.mem [.lst (us.map .d)]) =
      .nx [B, n, some (.d (chartD k rps cs)), pc, some (.d (.int own)), fi, some (.d (.list ((nb rps own).map .int))), go, some (.obj 2), a', b', pl] (q.mem [.lst ((us ++ (bks rps own fs).map (triD "back")).map .d)])
  | [], us, a, b, _ => ⟨a, b, by simp only [bks, List.filter_nil, List.flatMap_nil, List.map_nil, List.append_nil]; rfl⟩
  | f :: fs, us, a, b, h => by
    rw [List.length_cons, Nat.succ_mul] at h
    rw [List.map_cons, List.map_cons, z_forc (s1 := [B, n, some (.d (chartD k rps cs)), pc, some (.d (.int own)), fi, some (.d (.list ((nb rps own).map .int))), go, some (.obj 2), some (.d (.int f)), b, pl]) (M1 := q.mem [.lst (us.map .d)]) rfl]
    have hl := nb_len rps own
    by_cases hf : f = own
    · obtain ⟨a', b', e⟩ := lo_outer hr (q := q) (B := B) (n := n) (pc := pc) (fi := fi) (go := go) (pl := pl) (own := own) fs us (some (.d (.int f))) b (by omega)
      refine ⟨a', b', ?_⟩
      have e5 : bks rps own (f :: fs) = bks rps own fs := by
        unfold bks
        rw [List.filter_cons_of_neg (by rw [decide_eq_true hf]; decide)]
      rw [e5]
      unfold l0_lorders_of
      simp only [z_bok, z_bsok, z_bbad, z_bsbad, z_seqbad, z_outbad, z_asgbad, small_fmod, small_lit, fits_le, smallR_lit, z_na64, z_bif, z_bsif, z_noer, z_seqn, z_seqr, z_seqif, z_outr, z_outn, z_outif, z_C, z_op, z_T, z_tand, z_tor, z_tnot, z_and, z_or, z_not, z_if, z_nil, z_cons, z_tup, z_lst, z_new, z_allD0, z_allD1, z_map, z_sNil, z_sSeq, z_sIf, z_sDrop, z_sRet, z_sAsg, z_asg, z_asgif, z_sPar, z_gN, z_gT, z_gsNil, z_gsCons, z_obind, z_gSet, z_B, z_It, z_Enum, z_R1, z_R2, z_r1, z_r2, z_Comp, z_For, z_Yes, z_M, z_Sl, z_oN, z_oS, z_Rev, z_Neg, z_IsI, z_call, z_callK, z_chain, z_body, z_rdd, z_rds, z_int, z_vI, z_vB, z_le, z_eqi, z_nei, z_nes, z_eqs, z_vInt, z_vI2, z_isN, z_notN, z_enumt, z_enuml, z_itl, z_itt, z_its, z_ixt0, z_ixt1, z_ixt2, z_lenl, z_lent, z_tyt, z_tyl, z_tyd, z_tyi, z_tyb, z_tys, z_tyn, isT_tt, isT_lt, isT_dt, isT_it, isT_bt, isT_st, isT_nt, isT_ti, isT_li, isT_di, isT_ii, isT_bi, isT_si, isT_ni, isT_tb, isT_lb, isT_db, isT_ib, isT_bb, isT_sb, isT_nb, isT_ts, isT_ls, isT_ds, isT_is, isT_bs, isT_ss, isT_ns, z_forn, z_mulx, z_lr1, z_lr1N, okR_le, dk_get, dk_set, dk_add, dk_ll, z_rdo, z_tyo, z_app, z_ext, z_star, z_lr2, z_listN, z_sqt, z_sql, z_leno, z_frz, fzL_d, z_lens, z_sls, z_sll, z_addl, z_addt, z_na10, z_dct0, z_disp, z_disp1, z_slt, z_revt, dk_rd2, dk_ty2, dk_mem1, dk_len0, z_tupl, z_tupt, z_listt, z_listl, z_in2, slots0, mVar, wipeS, pickBy, dk_rd0, dk_rd1, dk_ix0, dk_ix1, dk_ix2, dk_ne, dk_setn, dk_ty0, dk_ty1, Option.some.injEq, List.map_cons, List.map_nil, List.length_cons, List.length_nil, List.replicate_succ, List.replicate_zero, List.cons_append, List.nil_append, List.append_nil, List.getElem?_cons_zero, List.getElem?_cons_succ, List.set_cons_zero, List.set_cons_succ, List.zip_cons_cons, List.zip_nil_left, List.foldl_cons, List.foldl_nil, List.filterMap_cons, List.filterMap_nil, Nat.reduceSub, Nat.reduceAdd, Nat.reduceLT, Nat.reduceLeDiff, Nat.zero_add, Nat.add_zero, Nat.reduceEqDiff, decide_eq_true_eq, Bool.not_eq_true, Bool.not_true, Bool.not_false, Bool.not_not, ite_true, ite_false, if_true, if_false, reduceIte, Bool.false_eq_true, and_self, and_true, true_and, Int.reduceNeg, Int.reduceLT, Int.reduceLE, Int.reduceSub, Int.reduceAdd, Int.reduceMul, Int.reducePow, Int.reduceEq, Int.reduceNe, decide_true, decide_false, decide_not, Bool.and_true, Bool.true_and, Bool.or_true, Bool.true_or, ne_eq, not_true_eq_false, not_false_eq_true, Bool.and_self, false_and, and_false, reduceCtorEq, eq_self, beq_self_eq_true, List.set_nil, List.getElem?_nil, List.length_append, List.length_map, Bool.false_and, Bool.and_false, Bool.false_or, Bool.or_false, Int.cast_ofNat_Int, Int.reduceToNat, Int.zero_add, Int.add_zero, hf]
      rw [hf] at e
      exact e
    · obtain ⟨b1, e1⟩ := lo_inner (k := k) (cs := cs) hr (q := q) (B := B) (n := n) (pc := pc) (ow := some (.d (.int own))) (fi := fi) (re := some (.d (.list ((nb rps own).map .int)))) (go := go) (pl := pl) (f := f) (nb rps own) us b (by omega)
      have hb : (bk1 rps own f).length ≤ rps.length := by
        unfold bk1
        rw [List.length_map]
        exact Nat.le_trans (List.length_filter_le _ _) hl
      obtain ⟨a', b', e⟩ := lo_outer hr (q := q) (B := B) (n := n) (pc := pc) (fi := fi) (go := go) (pl := pl) (own := own) fs (us ++ (bk1 rps own f).map (triD "back")) (some (.d (.int f))) b1 (by rw [List.length_append, List.length_map]; omega)
      refine ⟨a', b', ?_⟩
      have e5 : us ++ (bks rps own (f :: fs)).map (triD "back") = (us ++ (bk1 rps own f).map (triD "back")) ++ (bks rps own fs).map (triD "back") := by
        unfold bks
        rw [List.filter_cons_of_pos (by rw [decide_eq_false hf]; rfl), List.flatMap_cons, List.map_append, List.append_assoc]
      rw [e5]
      unfold l0_lorders_of
      simp only [z_bok, z_bsok, z_bbad, z_bsbad, z_seqbad, z_outbad, z_asgbad, small_fmod, small_lit, fits_le, smallR_lit, z_na64, z_bif, z_bsif, z_noer, z_seqn, z_seqr, z_seqif, z_outr, z_outn, z_outif, z_C, z_op, z_T, z_tand, z_tor, z_tnot, z_and, z_or, z_not, z_if, z_nil, z_cons, z_tup, z_lst, z_new, z_allD0, z_allD1, z_map, z_sNil, z_sSeq, z_sIf, z_sDrop, z_sRet, z_sAsg, z_asg, z_asgif, z_sPar, z_gN, z_gT, z_gsNil, z_gsCons, z_obind, z_gSet, z_B, z_It, z_Enum, z_R1, z_R2, z_r1, z_r2, z_Comp, z_For, z_Yes, z_M, z_Sl, z_oN, z_oS, z_Rev, z_Neg, z_IsI, z_call, z_callK, z_chain, z_body, z_rdd, z_rds, z_int, z_vI, z_vB, z_le, z_eqi, z_nei, z_nes, z_eqs, z_vInt, z_vI2, z_isN, z_notN, z_enumt, z_enuml, z_itl, z_itt, z_its, z_ixt0, z_ixt1, z_ixt2, z_lenl, z_lent, z_tyt, z_tyl, z_tyd, z_tyi, z_tyb, z_tys, z_tyn, isT_tt, isT_lt, isT_dt, isT_it, isT_bt, isT_st, isT_nt, isT_ti, isT_li, isT_di, isT_ii, isT_bi, isT_si, isT_ni, isT_tb, isT_lb, isT_db, isT_ib, isT_bb, isT_sb, isT_nb, isT_ts, isT_ls, isT_ds, isT_is, isT_bs, isT_ss, isT_ns, z_forn, z_mulx, z_lr1, z_lr1N, okR_le, dk_get, dk_set, dk_add, dk_ll, z_rdo, z_tyo, z_app, z_ext, z_star, z_lr2, z_listN, z_sqt, z_sql, z_leno, z_frz, fzL_d, z_lens, z_sls, z_sll, z_addl, z_addt, z_na10, z_dct0, z_disp, z_disp1, z_slt, z_revt, dk_rd2, dk_ty2, dk_mem1, dk_len0, z_tupl, z_tupt, z_listt, z_listl, z_in2, slots0, mVar, wipeS, pickBy, dk_rd0, dk_rd1, dk_ix0, dk_ix1, dk_ix2, dk_ne, dk_setn, dk_ty0, dk_ty1, Option.some.injEq, List.map_cons, List.map_nil, List.length_cons, List.length_nil, List.replicate_succ, List.replicate_zero, List.cons_append, List.nil_append, List.append_nil, List.getElem?_cons_zero, List.getElem?_cons_succ, List.set_cons_zero, List.set_cons_succ, List.zip_cons_cons, List.zip_nil_left, List.foldl_cons, List.foldl_nil, List.filterMap_cons, List.filterMap_nil, Nat.reduceSub, Nat.reduceAdd, Nat.reduceLT, Nat.reduceLeDiff, Nat.zero_add, Nat.add_zero, Nat.reduceEqDiff, decide_eq_true_eq, Bool.not_eq_true, Bool.not_true, Bool.not_false, Bool.not_not, ite_true, ite_false, if_true, if_false, reduceIte, Bool.false_eq_true, and_self, and_true, true_and, Int.reduceNeg, Int.reduceLT, Int.reduceLE, Int.reduceSub, Int.reduceAdd, Int.reduceMul, Int.reducePow, Int.reduceEq, Int.reduceNe, decide_true, decide_false, decide_not, Bool.and_true, Bool.true_and, Bool.or_true, Bool.true_or, ne_eq, not_true_eq_false, not_false_eq_true, Bool.and_self, false_and, and_false, reduceCtorEq, eq_self, beq_self_eq_true, List.set_nil, List.getElem?_nil, List.length_append, List.length_map, Bool.false_and, Bool.and_false, Bool.false_or, Bool.or_false, Int.cast_ofNat_Int, Int.reduceToNat, Int.zero_add, Int.add_zero, hf, e1]
      exact e
end
end Zl
namespace Zl
open PySem PySem.Spec PyProof.Rows L2 Zm
theorem bks_sorted {rps : List (Int × Int)} {own : Int} {fs : List Int} (h : fs.Pairwise (· < ·)) : (bks rps own fs).Pairwise fun a b => leP a b = true := by
  unfold bks
  rw [List.pairwise_flatMap]
  refine ⟨fun f _ => ?_, ?_⟩
  · unfold bk1
    rw [List.pairwise_map]
    have a : (nb rps own).Pairwise (· ≤ ·) := sortI_sorted _
    exact List.Pairwise.imp (fun {x y} (h : x ≤ y) => (leP_iff (a := (f, x)) (b := (f, y))).mpr (.inr ⟨rfl, h⟩)) (a.sublist List.filter_sublist)
  · refine (h.sublist List.filter_sublist).imp fun {x y} h a ha b hb => ?_
    unfold bk1 at ha hb
    obtain ⟨g, _, rfl⟩ := List.mem_map.mp ha
    obtain ⟨g', _, rfl⟩ := List.mem_map.mp hb
    exact leP_iff.mpr (.inl h)
theorem bks_len {rps : List (Int × Int)} {own : Int} {fs : List Int} (hr : rps.length ≤ 1000) (hf : fs.length ≤ 100) : (bks rps own fs).length ≤ 100000 := by
  unfold bks
  have h2 : (fs.filter fun f => !decide (f = own)).length ≤ 100 := Nat.le_trans (List.length_filter_le _ _) hf
  generalize (fs.filter fun f => !decide (f = own)) = l at h2
  have : ∀ l : List Int, (l.flatMap (bk1 rps own)).length ≤ l.length * 1000 := fun l => by
    induction l with
    | nil => exact Nat.le_refl _
    | cons f l ih =>
      rw [List.flatMap_cons, List.length_append, List.length_cons, Nat.succ_mul]
      have hb : (bk1 rps own f).length ≤ 1000 := by
        unfold bk1
        rw [List.length_map]
        exact Nat.le_trans (List.length_filter_le _ _) (Nat.le_trans (nb_len rps own) hr)
      omega
  have := this l
  omega
section
variable {k : Int} {rps ps : List (Int × Int)} {cs : PyData}
theorem lorders_ok {q : Dk} {n : Nat} {p : Int × Int} (h : ps[n]? = some p) (ha : AscP ps) (hr : rps.length ≤ 1000) (hp : ps.length ≤ 100) : d_lorders_of [.d (boardD k rps cs ps), .d (.int n)] (q.mem []) = .ok (.d (.list (ordL rps ps p.1))) (q.mem []) := by
  refine z_trimc (R := [.lst (((bks rps p.1 (ps.map (·.1))).map (triD "back")).map .d)]) ?_ rfl (dk_below (Nat.succ_pos _))
  have hl := nb_len rps p.1
  have hbl : (bks rps p.1 (ps.map (·.1))).length ≤ 100000 := bks_len hr (by rw [List.length_map]; exact hp)
  have L1 := compL_map (g := g3_lorders_of) (t := mYes) (e := e3_lorders_of) (M := q.mem [])
    (s0 := [some (.d (boardD k rps cs ps)), some (.d (.int n)), some (.d (chartD k rps cs)), some (.d (.tuple (ps.map Zm.pairD))), none, none, none, none, none, none, none, none]) Zm.pairD (fun _ => true) (fun p => .int p.1) ps (fun p _ => ⟨_, rfl, rfl, fun _ => rfl⟩)
  rw [List.filter_eq_self.mpr (fun _ _ => rfl)] at L1
  have e : (ps.map fun p => PyData.int p.1) = (ps.map (·.1)).map .int := by rw [List.map_map]; rfl
  rw [e] at L1
  have hb : d_lbeside [.d (chartD k rps cs), .d (.int p.1)] (q.mem []) = .ok (.d (.list ((nb rps p.1).map .int))) (q.mem []) := beside_ok (by omega)
  have L2 := compL_map (g := g2_lorders_of) (t := mYes) (e := e2_lorders_of) (M := q.mem [])
    (s0 := [some (.d (boardD k rps cs ps)), some (.d (.int n)), some (.d (chartD k rps cs)), some (.d (.tuple (ps.map Zm.pairD))), some (.d (.int p.1)), some (.d (.list ((ps.map (·.1)).map .int))), some (.d (.list ((nb rps p.1).map .int))), none, none, none, none, none]) PyData.int (fun _ => true) goD (nb rps p.1) (fun g _ => ⟨_, rfl, rfl, fun _ => by
      unfold e2_lorders_of
      simp only [z_bok, z_bsok, z_bbad, z_bsbad, z_seqbad, z_outbad, z_asgbad, small_fmod, small_lit, fits_le, smallR_lit, z_na64, z_bif, z_bsif, z_noer, z_seqn, z_seqr, z_seqif, z_outr, z_outn, z_outif, z_C, z_op, z_T, z_tand, z_tor, z_tnot, z_and, z_or, z_not, z_if, z_nil, z_cons, z_tup, z_lst, z_new, z_allD0, z_allD1, z_map, z_sNil, z_sSeq, z_sIf, z_sDrop, z_sRet, z_sAsg, z_asg, z_asgif, z_sPar, z_gN, z_gT, z_gsNil, z_gsCons, z_obind, z_gSet, z_B, z_It, z_Enum, z_R1, z_R2, z_r1, z_r2, z_Comp, z_For, z_Yes, z_M, z_Sl, z_oN, z_oS, z_Rev, z_Neg, z_IsI, z_call, z_callK, z_chain, z_body, z_rdd, z_rds, z_int, z_vI, z_vB, z_le, z_eqi, z_nei, z_nes, z_eqs, z_vInt, z_vI2, z_isN, z_notN, z_enumt, z_enuml, z_itl, z_itt, z_its, z_ixt0, z_ixt1, z_ixt2, z_lenl, z_lent, z_tyt, z_tyl, z_tyd, z_tyi, z_tyb, z_tys, z_tyn, isT_tt, isT_lt, isT_dt, isT_it, isT_bt, isT_st, isT_nt, isT_ti, isT_li, isT_di, isT_ii, isT_bi, isT_si, isT_ni, isT_tb, isT_lb, isT_db, isT_ib, isT_bb, isT_sb, isT_nb, isT_ts, isT_ls, isT_ds, isT_is, isT_bs, isT_ss, isT_ns, z_forn, z_mulx, z_lr1, z_lr1N, okR_le, dk_get, dk_set, dk_add, dk_ll, z_rdo, z_tyo, z_app, z_ext, z_star, z_lr2, z_listN, z_sqt, z_sql, z_leno, z_frz, fzL_d, z_lens, z_sls, z_sll, z_addl, z_addt, z_na10, z_dct0, z_disp, z_disp1, z_slt, z_revt, dk_rd2, dk_ty2, dk_mem1, dk_len0, z_tupl, z_tupt, z_listt, z_listl, z_in2, slots0, mVar, wipeS, pickBy, dk_rd0, dk_rd1, dk_ix0, dk_ix1, dk_ix2, dk_ne, dk_setn, dk_ty0, dk_ty1, Option.some.injEq, List.map_cons, List.map_nil, List.length_cons, List.length_nil, List.replicate_succ, List.replicate_zero, List.cons_append, List.nil_append, List.append_nil, List.getElem?_cons_zero, List.getElem?_cons_succ, List.set_cons_zero, List.set_cons_succ, List.zip_cons_cons, List.zip_nil_left, List.foldl_cons, List.foldl_nil, List.filterMap_cons, List.filterMap_nil, Nat.reduceSub, Nat.reduceAdd, Nat.reduceLT, Nat.reduceLeDiff, Nat.zero_add, Nat.add_zero, Nat.reduceEqDiff, decide_eq_true_eq, Bool.not_eq_true, Bool.not_true, Bool.not_false, Bool.not_not, ite_true, ite_false, if_true, if_false, reduceIte, Bool.false_eq_true, and_self, and_true, true_and, Int.reduceNeg, Int.reduceLT, Int.reduceLE, Int.reduceSub, Int.reduceAdd, Int.reduceMul, Int.reducePow, Int.reduceEq, Int.reduceNe, decide_true, decide_false, decide_not, Bool.and_true, Bool.true_and, Bool.or_true, Bool.true_or, ne_eq, not_true_eq_false, not_false_eq_true, Bool.and_self, false_and, and_false, reduceCtorEq, eq_self, beq_self_eq_true, List.set_nil, List.getElem?_nil, List.length_append, List.length_map, Bool.false_and, Bool.and_false, Bool.false_or, Bool.or_false, Int.cast_ofNat_Int, Int.reduceToNat, Int.zero_add, Int.add_zero, goD]⟩)
  rw [List.filter_eq_self.mpr (fun _ _ => rfl)] at L2
  obtain ⟨a, b, e3⟩ := lo_outer (k := k) (cs := cs) (q := q) (B := some (.d (boardD k rps cs ps))) (n := some (.d (.int n))) (pc := some (.d (.tuple (ps.map Zm.pairD)))) (fi := some (.d (.list ((ps.map (·.1)).map .int)))) (go := some (.d (.list ((nb rps p.1).map goD)))) (pl := none) (own := p.1) hr (ps.map (·.1)) [] none none (by
    have : (ps.map (·.1)).length * rps.length ≤ 100 * 1000 := Nat.mul_le_mul (by rw [List.length_map]; exact hp) hr
    rw [List.length_nil]
    omega)
  simp only [List.nil_append, List.map_nil] at e3
  have hs := z_sortT (z := "back") (ps := bks rps p.1 (ps.map (·.1))) (M := q.mem [.lst (((bks rps p.1 (ps.map (·.1))).map (triD "back")).map .d)]) (v := .obj 2) (by unfold listD; exact seqD_obj rfl)
  have e5 : sortP (bks rps p.1 (ps.map (·.1))) = bks rps p.1 (ps.map (·.1)) := (sortP_eq (List.Perm.refl _) (bks_sorted (List.pairwise_map.mpr ha))).symm
  rw [e5] at hs
  have f1 : 0 + 1 + (nb rps p.1).length ≤ 16777216 := by omega
  have f2 : (nb rps p.1).length + 1 + (bks rps p.1 (ps.map (·.1))).length ≤ 16777216 := by omega
  unfold b_lorders_of
  unfold boardD at e3 L1 L2 ⊢
  simp only [z_bok, z_bsok, z_bbad, z_bsbad, z_seqbad, z_outbad, z_asgbad, small_fmod, small_lit, fits_le, smallR_lit, z_na64, z_bif, z_bsif, z_noer, z_seqn, z_seqr, z_seqif, z_outr, z_outn, z_outif, z_C, z_op, z_T, z_tand, z_tor, z_tnot, z_and, z_or, z_not, z_if, z_nil, z_cons, z_tup, z_lst, z_new, z_allD0, z_allD1, z_map, z_sNil, z_sSeq, z_sIf, z_sDrop, z_sRet, z_sAsg, z_asg, z_asgif, z_sPar, z_gN, z_gT, z_gsNil, z_gsCons, z_obind, z_gSet, z_B, z_It, z_Enum, z_R1, z_R2, z_r1, z_r2, z_Comp, z_For, z_Yes, z_M, z_Sl, z_oN, z_oS, z_Rev, z_Neg, z_IsI, z_call, z_callK, z_chain, z_body, z_rdd, z_rds, z_int, z_vI, z_vB, z_le, z_eqi, z_nei, z_nes, z_eqs, z_vInt, z_vI2, z_isN, z_notN, z_enumt, z_enuml, z_itl, z_itt, z_its, z_ixt0, z_ixt1, z_ixt2, z_lenl, z_lent, z_tyt, z_tyl, z_tyd, z_tyi, z_tyb, z_tys, z_tyn, isT_tt, isT_lt, isT_dt, isT_it, isT_bt, isT_st, isT_nt, isT_ti, isT_li, isT_di, isT_ii, isT_bi, isT_si, isT_ni, isT_tb, isT_lb, isT_db, isT_ib, isT_bb, isT_sb, isT_nb, isT_ts, isT_ls, isT_ds, isT_is, isT_bs, isT_ss, isT_ns, z_forn, z_mulx, z_lr1, z_lr1N, okR_le, dk_get, dk_set, dk_add, dk_ll, z_rdo, z_tyo, z_app, z_ext, z_star, z_lr2, z_listN, z_sqt, z_sql, z_leno, z_frz, fzL_d, z_lens, z_sls, z_sll, z_addl, z_addt, z_na10, z_dct0, z_disp, z_disp1, z_slt, z_revt, dk_rd2, dk_ty2, dk_mem1, dk_len0, z_tupl, z_tupt, z_listt, z_listl, z_in2, slots0, mVar, wipeS, pickBy, dk_rd0, dk_rd1, dk_ix0, dk_ix1, dk_ix2, dk_ne, dk_setn, dk_ty0, dk_ty1, Option.some.injEq, List.map_cons, List.map_nil, List.length_cons, List.length_nil, List.replicate_succ, List.replicate_zero, List.cons_append, List.nil_append, List.append_nil, List.getElem?_cons_zero, List.getElem?_cons_succ, List.set_cons_zero, List.set_cons_succ, List.zip_cons_cons, List.zip_nil_left, List.foldl_cons, List.foldl_nil, List.filterMap_cons, List.filterMap_nil, Nat.reduceSub, Nat.reduceAdd, Nat.reduceLT, Nat.reduceLeDiff, Nat.zero_add, Nat.add_zero, Nat.reduceEqDiff, decide_eq_true_eq, Bool.not_eq_true, Bool.not_true, Bool.not_false, Bool.not_not, ite_true, ite_false, if_true, if_false, reduceIte, Bool.false_eq_true, and_self, and_true, true_and, Int.reduceNeg, Int.reduceLT, Int.reduceLE, Int.reduceSub, Int.reduceAdd, Int.reduceMul, Int.reducePow, Int.reduceEq, Int.reduceNe, decide_true, decide_false, decide_not, Bool.and_true, Bool.true_and, Bool.or_true, Bool.true_or, ne_eq, not_true_eq_false, not_false_eq_true, Bool.and_self, false_and, and_false, reduceCtorEq, eq_self, beq_self_eq_true, List.set_nil, List.getElem?_nil, List.length_append, List.length_map, Bool.false_and, Bool.and_false, Bool.false_or, Bool.or_false, Int.cast_ofNat_Int, Int.reduceToNat, Int.zero_add, Int.add_zero, z_ixt (px_at h), L1, z_lcK (show ((ps.map (·.1)).map PyData.int).length ≤ 16777216 by rw [List.length_map, List.length_map]; omega), Zm.pairD, hb, L2, z_lcK (show ((nb rps p.1).map goD).length ≤ 16777216 by rw [List.length_map]; omega), e3, hs, f1, f2]
  rfl
end
end Zl
namespace Zl
open PySem PySem.Spec PyProof.Rows L2 Zm
/-! ### the judge of orders -/
section
variable {k : Int} {rps ps : List (Int × Int)} {cs : PyData}
theorem place_loop {M : Mm} {B : Option Val} {f : Int} : ∀ (ps : List (Int × Int)) (n : Nat) (a b : Option Val),
    (inI (ps.map (·.1)) f = true ∧ ∃ m : Nat, forL g0_place_in l0_place_in (pairsN n (ps.map Zm.pairD)) [B, some (.d (.int f)), a, b] M = .rt (.d (.int m)) M) ∨
    (inI (ps.map (·.1)) f = false ∧ ∃ s', forL g0_place_in l0_place_in (pairsN n (ps.map Zm.pairD)) [B, some (.d (.int f)), a, b] M = .nx s' M)
  | [], n, a, b => .inr ⟨rfl, _, rfl⟩
  | p :: ps, n, a, b => by
    have u : forL g0_place_in l0_place_in (pairsN n ((p :: ps).map Zm.pairD)) [B, some (.d (.int f)), a, b] M = match l0_place_in [B, some (.d (.int f)), some (.d (.int n)), some (.d (Zm.pairD p))] M with
      | .nx s2 M2 => forL g0_place_in l0_place_in (pairsN (n + 1) (ps.map Zm.pairD)) s2 M2
      | .ct s2 M2 => forL g0_place_in l0_place_in (pairsN (n + 1) (ps.map Zm.pairD)) s2 M2
      | .bk s2 M2 => .nx s2 M2
      | o => o := by
      rw [List.map_cons, pairsN_c]
      exact z_forc rfl
    have e : inI ((p :: ps).map (·.1)) f = ((p.1 == f) || inI (ps.map (·.1)) f) := rfl
    by_cases h : p.1 = f
    · refine .inl ⟨by rw [e, beq_iff_eq.mpr h]; rfl, n, ?_⟩
      rw [u]
      unfold l0_place_in
      simp only [z_bok, z_bsok, z_bbad, z_bsbad, z_seqbad, z_outbad, z_asgbad, small_fmod, small_lit, fits_le, smallR_lit, z_na64, z_bif, z_bsif, z_noer, z_seqn, z_seqr, z_seqif, z_outr, z_outn, z_outif, z_C, z_op, z_T, z_tand, z_tor, z_tnot, z_and, z_or, z_not, z_if, z_nil, z_cons, z_tup, z_lst, z_new, z_allD0, z_allD1, z_map, z_sNil, z_sSeq, z_sIf, z_sDrop, z_sRet, z_sAsg, z_asg, z_asgif, z_sPar, z_gN, z_gT, z_gsNil, z_gsCons, z_obind, z_gSet, z_B, z_It, z_Enum, z_R1, z_R2, z_r1, z_r2, z_Comp, z_For, z_Yes, z_M, z_Sl, z_oN, z_oS, z_Rev, z_Neg, z_IsI, z_call, z_callK, z_chain, z_body, z_rdd, z_rds, z_int, z_vI, z_vB, z_le, z_eqi, z_nei, z_nes, z_eqs, z_vInt, z_vI2, z_isN, z_notN, z_enumt, z_enuml, z_itl, z_itt, z_its, z_ixt0, z_ixt1, z_ixt2, z_lenl, z_lent, z_tyt, z_tyl, z_tyd, z_tyi, z_tyb, z_tys, z_tyn, isT_tt, isT_lt, isT_dt, isT_it, isT_bt, isT_st, isT_nt, isT_ti, isT_li, isT_di, isT_ii, isT_bi, isT_si, isT_ni, isT_tb, isT_lb, isT_db, isT_ib, isT_bb, isT_sb, isT_nb, isT_ts, isT_ls, isT_ds, isT_is, isT_bs, isT_ss, isT_ns, z_forn, z_mulx, z_lr1, z_lr1N, okR_le, dk_get, dk_set, dk_add, dk_ll, z_rdo, z_tyo, z_app, z_ext, z_star, z_lr2, z_listN, z_sqt, z_sql, z_leno, z_frz, fzL_d, z_lens, z_sls, z_sll, z_addl, z_addt, z_na10, z_dct0, z_disp, z_disp1, z_slt, z_revt, dk_rd2, dk_ty2, dk_mem1, dk_len0, z_tupl, z_tupt, z_listt, z_listl, z_in2, slots0, mVar, wipeS, pickBy, dk_rd0, dk_rd1, dk_ix0, dk_ix1, dk_ix2, dk_ne, dk_setn, dk_ty0, dk_ty1, Option.some.injEq, List.map_cons, List.map_nil, List.length_cons, List.length_nil, List.replicate_succ, List.replicate_zero, List.cons_append, List.nil_append, List.append_nil, List.getElem?_cons_zero, List.getElem?_cons_succ, List.set_cons_zero, List.set_cons_succ, List.zip_cons_cons, List.zip_nil_left, List.foldl_cons, List.foldl_nil, List.filterMap_cons, List.filterMap_nil, Nat.reduceSub, Nat.reduceAdd, Nat.reduceLT, Nat.reduceLeDiff, Nat.zero_add, Nat.add_zero, Nat.reduceEqDiff, decide_eq_true_eq, Bool.not_eq_true, Bool.not_true, Bool.not_false, Bool.not_not, ite_true, ite_false, if_true, if_false, reduceIte, Bool.false_eq_true, and_self, and_true, true_and, Int.reduceNeg, Int.reduceLT, Int.reduceLE, Int.reduceSub, Int.reduceAdd, Int.reduceMul, Int.reducePow, Int.reduceEq, Int.reduceNe, decide_true, decide_false, decide_not, Bool.and_true, Bool.true_and, Bool.or_true, Bool.true_or, ne_eq, not_true_eq_false, not_false_eq_true, Bool.and_self, false_and, and_false, reduceCtorEq, eq_self, beq_self_eq_true, List.set_nil, List.getElem?_nil, List.length_append, List.length_map, Bool.false_and, Bool.and_false, Bool.false_or, Bool.or_false, Int.cast_ofNat_Int, Int.reduceToNat, Int.zero_add, Int.add_zero, Zm.pairD, h]
    · have h2 : (p.1 == f) = false := beq_eq_false_iff_ne.mpr h
      rw [e, h2, Bool.false_or]
      have v : l0_place_in [B, some (.d (.int f)), some (.d (.int n)), some (.d (Zm.pairD p))] M = .nx [B, some (.d (.int f)), some (.d (.int n)), some (.d (Zm.pairD p))] M := by
        unfold l0_place_in
        simp only [z_bok, z_bsok, z_bbad, z_bsbad, z_seqbad, z_outbad, z_asgbad, small_fmod, small_lit, fits_le, smallR_lit, z_na64, z_bif, z_bsif, z_noer, z_seqn, z_seqr, z_seqif, z_outr, z_outn, z_outif, z_C, z_op, z_T, z_tand, z_tor, z_tnot, z_and, z_or, z_not, z_if, z_nil, z_cons, z_tup, z_lst, z_new, z_allD0, z_allD1, z_map, z_sNil, z_sSeq, z_sIf, z_sDrop, z_sRet, z_sAsg, z_asg, z_asgif, z_sPar, z_gN, z_gT, z_gsNil, z_gsCons, z_obind, z_gSet, z_B, z_It, z_Enum, z_R1, z_R2, z_r1, z_r2, z_Comp, z_For, z_Yes, z_M, z_Sl, z_oN, z_oS, z_Rev, z_Neg, z_IsI, z_call, z_callK, z_chain, z_body, z_rdd, z_rds, z_int, z_vI, z_vB, z_le, z_eqi, z_nei, z_nes, z_eqs, z_vInt, z_vI2, z_isN, z_notN, z_enumt, z_enuml, z_itl, z_itt, z_its, z_ixt0, z_ixt1, z_ixt2, z_lenl, z_lent, z_tyt, z_tyl, z_tyd, z_tyi, z_tyb, z_tys, z_tyn, isT_tt, isT_lt, isT_dt, isT_it, isT_bt, isT_st, isT_nt, isT_ti, isT_li, isT_di, isT_ii, isT_bi, isT_si, isT_ni, isT_tb, isT_lb, isT_db, isT_ib, isT_bb, isT_sb, isT_nb, isT_ts, isT_ls, isT_ds, isT_is, isT_bs, isT_ss, isT_ns, z_forn, z_mulx, z_lr1, z_lr1N, okR_le, dk_get, dk_set, dk_add, dk_ll, z_rdo, z_tyo, z_app, z_ext, z_star, z_lr2, z_listN, z_sqt, z_sql, z_leno, z_frz, fzL_d, z_lens, z_sls, z_sll, z_addl, z_addt, z_na10, z_dct0, z_disp, z_disp1, z_slt, z_revt, dk_rd2, dk_ty2, dk_mem1, dk_len0, z_tupl, z_tupt, z_listt, z_listl, z_in2, slots0, mVar, wipeS, pickBy, dk_rd0, dk_rd1, dk_ix0, dk_ix1, dk_ix2, dk_ne, dk_setn, dk_ty0, dk_ty1, Option.some.injEq, List.map_cons, List.map_nil, List.length_cons, List.length_nil, List.replicate_succ, List.replicate_zero, List.cons_append, List.nil_append, List.append_nil, List.getElem?_cons_zero, List.getElem?_cons_succ, List.set_cons_zero, List.set_cons_succ, List.zip_cons_cons, List.zip_nil_left, List.foldl_cons, List.foldl_nil, List.filterMap_cons, List.filterMap_nil, Nat.reduceSub, Nat.reduceAdd, Nat.reduceLT, Nat.reduceLeDiff, Nat.zero_add, Nat.add_zero, Nat.reduceEqDiff, decide_eq_true_eq, Bool.not_eq_true, Bool.not_true, Bool.not_false, Bool.not_not, ite_true, ite_false, if_true, if_false, reduceIte, Bool.false_eq_true, and_self, and_true, true_and, Int.reduceNeg, Int.reduceLT, Int.reduceLE, Int.reduceSub, Int.reduceAdd, Int.reduceMul, Int.reducePow, Int.reduceEq, Int.reduceNe, decide_true, decide_false, decide_not, Bool.and_true, Bool.true_and, Bool.or_true, Bool.true_or, ne_eq, not_true_eq_false, not_false_eq_true, Bool.and_self, false_and, and_false, reduceCtorEq, eq_self, beq_self_eq_true, List.set_nil, List.getElem?_nil, List.length_append, List.length_map, Bool.false_and, Bool.and_false, Bool.false_or, Bool.or_false, Int.cast_ofNat_Int, Int.reduceToNat, Int.zero_add, Int.add_zero, Zm.pairD, h]
      rw [u, v]
      exact place_loop ps (n + 1) _ _
theorem place_ok {M : Mm} {c : PyData} {f : Int} : ∃ x, d_place_in [.d (.tuple [c, .tuple (ps.map Zm.pairD)]), .d (.int f)] M = .ok (.d x) M ∧ isN (.d x) = !inI (ps.map (·.1)) f := by
  rcases place_loop (M := M) (B := some (.d (.tuple [c, .tuple (ps.map Zm.pairD)]))) (f := f) ps 0 none none with ⟨h, m, e⟩ | ⟨h, s', e⟩
  · refine ⟨.int m, z_trim ?_ rfl, by rw [h]; rfl⟩
    unfold b_place_in
    simp only [z_bok, z_bsok, z_bbad, z_bsbad, z_seqbad, z_outbad, z_asgbad, small_fmod, small_lit, fits_le, smallR_lit, z_na64, z_bif, z_bsif, z_noer, z_seqn, z_seqr, z_seqif, z_outr, z_outn, z_outif, z_C, z_op, z_T, z_tand, z_tor, z_tnot, z_and, z_or, z_not, z_if, z_nil, z_cons, z_tup, z_lst, z_new, z_allD0, z_allD1, z_map, z_sNil, z_sSeq, z_sIf, z_sDrop, z_sRet, z_sAsg, z_asg, z_asgif, z_sPar, z_gN, z_gT, z_gsNil, z_gsCons, z_obind, z_gSet, z_B, z_It, z_Enum, z_R1, z_R2, z_r1, z_r2, z_Comp, z_For, z_Yes, z_M, z_Sl, z_oN, z_oS, z_Rev, z_Neg, z_IsI, z_call, z_callK, z_chain, z_body, z_rdd, z_rds, z_int, z_vI, z_vB, z_le, z_eqi, z_nei, z_nes, z_eqs, z_vInt, z_vI2, z_isN, z_notN, z_enumt, z_enuml, z_itl, z_itt, z_its, z_ixt0, z_ixt1, z_ixt2, z_lenl, z_lent, z_tyt, z_tyl, z_tyd, z_tyi, z_tyb, z_tys, z_tyn, isT_tt, isT_lt, isT_dt, isT_it, isT_bt, isT_st, isT_nt, isT_ti, isT_li, isT_di, isT_ii, isT_bi, isT_si, isT_ni, isT_tb, isT_lb, isT_db, isT_ib, isT_bb, isT_sb, isT_nb, isT_ts, isT_ls, isT_ds, isT_is, isT_bs, isT_ss, isT_ns, z_forn, z_mulx, z_lr1, z_lr1N, okR_le, dk_get, dk_set, dk_add, dk_ll, z_rdo, z_tyo, z_app, z_ext, z_star, z_lr2, z_listN, z_sqt, z_sql, z_leno, z_frz, fzL_d, z_lens, z_sls, z_sll, z_addl, z_addt, z_na10, z_dct0, z_disp, z_disp1, z_slt, z_revt, dk_rd2, dk_ty2, dk_mem1, dk_len0, z_tupl, z_tupt, z_listt, z_listl, z_in2, slots0, mVar, wipeS, pickBy, dk_rd0, dk_rd1, dk_ix0, dk_ix1, dk_ix2, dk_ne, dk_setn, dk_ty0, dk_ty1, Option.some.injEq, List.map_cons, List.map_nil, List.length_cons, List.length_nil, List.replicate_succ, List.replicate_zero, List.cons_append, List.nil_append, List.append_nil, List.getElem?_cons_zero, List.getElem?_cons_succ, List.set_cons_zero, List.set_cons_succ, List.zip_cons_cons, List.zip_nil_left, List.foldl_cons, List.foldl_nil, List.filterMap_cons, List.filterMap_nil, Nat.reduceSub, Nat.reduceAdd, Nat.reduceLT, Nat.reduceLeDiff, Nat.zero_add, Nat.add_zero, Nat.reduceEqDiff, decide_eq_true_eq, Bool.not_eq_true, Bool.not_true, Bool.not_false, Bool.not_not, ite_true, ite_false, if_true, if_false, reduceIte, Bool.false_eq_true, and_self, and_true, true_and, Int.reduceNeg, Int.reduceLT, Int.reduceLE, Int.reduceSub, Int.reduceAdd, Int.reduceMul, Int.reducePow, Int.reduceEq, Int.reduceNe, decide_true, decide_false, decide_not, Bool.and_true, Bool.true_and, Bool.or_true, Bool.true_or, ne_eq, not_true_eq_false, not_false_eq_true, Bool.and_self, false_and, and_false, reduceCtorEq, eq_self, beq_self_eq_true, List.set_nil, List.getElem?_nil, List.length_append, List.length_map, Bool.false_and, Bool.and_false, Bool.false_or, Bool.or_false, Int.cast_ofNat_Int, Int.reduceToNat, Int.zero_add, Int.add_zero, e]
  · refine ⟨.none, z_trim ?_ rfl, by rw [h]; rfl⟩
    unfold b_place_in
    simp only [z_bok, z_bsok, z_bbad, z_bsbad, z_seqbad, z_outbad, z_asgbad, small_fmod, small_lit, fits_le, smallR_lit, z_na64, z_bif, z_bsif, z_noer, z_seqn, z_seqr, z_seqif, z_outr, z_outn, z_outif, z_C, z_op, z_T, z_tand, z_tor, z_tnot, z_and, z_or, z_not, z_if, z_nil, z_cons, z_tup, z_lst, z_new, z_allD0, z_allD1, z_map, z_sNil, z_sSeq, z_sIf, z_sDrop, z_sRet, z_sAsg, z_asg, z_asgif, z_sPar, z_gN, z_gT, z_gsNil, z_gsCons, z_obind, z_gSet, z_B, z_It, z_Enum, z_R1, z_R2, z_r1, z_r2, z_Comp, z_For, z_Yes, z_M, z_Sl, z_oN, z_oS, z_Rev, z_Neg, z_IsI, z_call, z_callK, z_chain, z_body, z_rdd, z_rds, z_int, z_vI, z_vB, z_le, z_eqi, z_nei, z_nes, z_eqs, z_vInt, z_vI2, z_isN, z_notN, z_enumt, z_enuml, z_itl, z_itt, z_its, z_ixt0, z_ixt1, z_ixt2, z_lenl, z_lent, z_tyt, z_tyl, z_tyd, z_tyi, z_tyb, z_tys, z_tyn, isT_tt, isT_lt, isT_dt, isT_it, isT_bt, isT_st, isT_nt, isT_ti, isT_li, isT_di, isT_ii, isT_bi, isT_si, isT_ni, isT_tb, isT_lb, isT_db, isT_ib, isT_bb, isT_sb, isT_nb, isT_ts, isT_ls, isT_ds, isT_is, isT_bs, isT_ss, isT_ns, z_forn, z_mulx, z_lr1, z_lr1N, okR_le, dk_get, dk_set, dk_add, dk_ll, z_rdo, z_tyo, z_app, z_ext, z_star, z_lr2, z_listN, z_sqt, z_sql, z_leno, z_frz, fzL_d, z_lens, z_sls, z_sll, z_addl, z_addt, z_na10, z_dct0, z_disp, z_disp1, z_slt, z_revt, dk_rd2, dk_ty2, dk_mem1, dk_len0, z_tupl, z_tupt, z_listt, z_listl, z_in2, slots0, mVar, wipeS, pickBy, dk_rd0, dk_rd1, dk_ix0, dk_ix1, dk_ix2, dk_ne, dk_setn, dk_ty0, dk_ty1, Option.some.injEq, List.map_cons, List.map_nil, List.length_cons, List.length_nil, List.replicate_succ, List.replicate_zero, List.cons_append, List.nil_append, List.append_nil, List.getElem?_cons_zero, List.getElem?_cons_succ, List.set_cons_zero, List.set_cons_succ, List.zip_cons_cons, List.zip_nil_left, List.foldl_cons, List.foldl_nil, List.filterMap_cons, List.filterMap_nil, Nat.reduceSub, Nat.reduceAdd, Nat.reduceLT, Nat.reduceLeDiff, Nat.zero_add, Nat.add_zero, Nat.reduceEqDiff, decide_eq_true_eq, Bool.not_eq_true, Bool.not_true, Bool.not_false, Bool.not_not, ite_true, ite_false, if_true, if_false, reduceIte, Bool.false_eq_true, and_self, and_true, true_and, Int.reduceNeg, Int.reduceLT, Int.reduceLE, Int.reduceSub, Int.reduceAdd, Int.reduceMul, Int.reducePow, Int.reduceEq, Int.reduceNe, decide_true, decide_false, decide_not, Bool.and_true, Bool.true_and, Bool.or_true, Bool.true_or, ne_eq, not_true_eq_false, not_false_eq_true, Bool.and_self, false_and, and_false, reduceCtorEq, eq_self, beq_self_eq_true, List.set_nil, List.getElem?_nil, List.length_append, List.length_map, Bool.false_and, Bool.and_false, Bool.false_or, Bool.or_false, Int.cast_ofNat_Int, Int.reduceToNat, Int.zero_add, Int.add_zero, e]
def backB (rps ps : List (Int × Int)) (own f g : Int) : Bool := !decide (f = own) && inI (ps.map (·.1)) f && inI (nb rps own) g && hitG rps f g
theorem backed_ok {q : Dk} {n : Nat} {p : Int × Int} (h : ps[n]? = some p) (hr : rps.length ≤ 1000) (hp : ps.length ≤ 100) {f g : Int} :
    d_is_backed [.d (boardD k rps cs ps), .d (.int n), .d (.int f), .d (.int g)] (q.mem []) = .ok (.d (.bool (backB rps ps p.1 f g))) (q.mem []) := by
  refine z_trim ?_ rfl
  have hfo := fields_ok (ps := ps) (c := chartD k rps cs) (M := q.mem []) (by omega)
  obtain ⟨x, e1, e2⟩ := place_ok (M := q.mem []) (ps := ps) (c := chartD k rps cs) (f := f)
  have hn := near_at (k := k) (cs := cs) (f := p.1) (M := q.mem []) (dk_below (Nat.succ_pos _)) hr
  have hn2 := near_at (k := k) (cs := cs) (f := f) (M := q.mem []) (dk_below (Nat.succ_pos _)) hr
  have hi := z_inti (M := q.mem []) (g := g) (ns := nb rps p.1) (v := .d (.tuple ((nb rps p.1).map .int))) z_sqt
  have hi2 := z_inti (M := q.mem []) (g := g) (ns := nb rps f) (v := .d (.tuple ((nb rps f).map .int))) z_sqt
  unfold b_is_backed boardD backB hitG
  simp only [z_bok, z_bsok, z_bbad, z_bsbad, z_seqbad, z_outbad, z_asgbad, small_fmod, small_lit, fits_le, smallR_lit, z_na64, z_bif, z_bsif, z_noer, z_seqn, z_seqr, z_seqif, z_outr, z_outn, z_outif, z_C, z_op, z_T, z_tand, z_tor, z_tnot, z_and, z_or, z_not, z_if, z_nil, z_cons, z_tup, z_lst, z_new, z_allD0, z_allD1, z_map, z_sNil, z_sSeq, z_sIf, z_sDrop, z_sRet, z_sAsg, z_asg, z_asgif, z_sPar, z_gN, z_gT, z_gsNil, z_gsCons, z_obind, z_gSet, z_B, z_It, z_Enum, z_R1, z_R2, z_r1, z_r2, z_Comp, z_For, z_Yes, z_M, z_Sl, z_oN, z_oS, z_Rev, z_Neg, z_IsI, z_call, z_callK, z_chain, z_body, z_rdd, z_rds, z_int, z_vI, z_vB, z_le, z_eqi, z_nei, z_nes, z_eqs, z_vInt, z_vI2, z_isN, z_notN, z_enumt, z_enuml, z_itl, z_itt, z_its, z_ixt0, z_ixt1, z_ixt2, z_lenl, z_lent, z_tyt, z_tyl, z_tyd, z_tyi, z_tyb, z_tys, z_tyn, isT_tt, isT_lt, isT_dt, isT_it, isT_bt, isT_st, isT_nt, isT_ti, isT_li, isT_di, isT_ii, isT_bi, isT_si, isT_ni, isT_tb, isT_lb, isT_db, isT_ib, isT_bb, isT_sb, isT_nb, isT_ts, isT_ls, isT_ds, isT_is, isT_bs, isT_ss, isT_ns, z_forn, z_mulx, z_lr1, z_lr1N, okR_le, dk_get, dk_set, dk_add, dk_ll, z_rdo, z_tyo, z_app, z_ext, z_star, z_lr2, z_listN, z_sqt, z_sql, z_leno, z_frz, fzL_d, z_lens, z_sls, z_sll, z_addl, z_addt, z_na10, z_dct0, z_disp, z_disp1, z_slt, z_revt, dk_rd2, dk_ty2, dk_mem1, dk_len0, z_tupl, z_tupt, z_listt, z_listl, z_in2, slots0, mVar, wipeS, pickBy, dk_rd0, dk_rd1, dk_ix0, dk_ix1, dk_ix2, dk_ne, dk_setn, dk_ty0, dk_ty1, Option.some.injEq, List.map_cons, List.map_nil, List.length_cons, List.length_nil, List.replicate_succ, List.replicate_zero, List.cons_append, List.nil_append, List.append_nil, List.getElem?_cons_zero, List.getElem?_cons_succ, List.set_cons_zero, List.set_cons_succ, List.zip_cons_cons, List.zip_nil_left, List.foldl_cons, List.foldl_nil, List.filterMap_cons, List.filterMap_nil, Nat.reduceSub, Nat.reduceAdd, Nat.reduceLT, Nat.reduceLeDiff, Nat.zero_add, Nat.add_zero, Nat.reduceEqDiff, decide_eq_true_eq, Bool.not_eq_true, Bool.not_true, Bool.not_false, Bool.not_not, ite_true, ite_false, if_true, if_false, reduceIte, Bool.false_eq_true, and_self, and_true, true_and, Int.reduceNeg, Int.reduceLT, Int.reduceLE, Int.reduceSub, Int.reduceAdd, Int.reduceMul, Int.reducePow, Int.reduceEq, Int.reduceNe, decide_true, decide_false, decide_not, Bool.and_true, Bool.true_and, Bool.or_true, Bool.true_or, ne_eq, not_true_eq_false, not_false_eq_true, Bool.and_self, false_and, and_false, reduceCtorEq, eq_self, beq_self_eq_true, List.set_nil, List.getElem?_nil, List.length_append, List.length_map, Bool.false_and, Bool.and_false, Bool.false_or, Bool.or_false, Int.cast_ofNat_Int, Int.reduceToNat, Int.zero_add, Int.add_zero, hfo, z_ixt (fx_at h), is_integer_eq, isI]
  by_cases h1 : f = p.1
  · simp only [z_bok, z_bsok, z_bbad, z_bsbad, z_seqbad, z_outbad, z_asgbad, small_fmod, small_lit, fits_le, smallR_lit, z_na64, z_bif, z_bsif, z_noer, z_seqn, z_seqr, z_seqif, z_outr, z_outn, z_outif, z_C, z_op, z_T, z_tand, z_tor, z_tnot, z_and, z_or, z_not, z_if, z_nil, z_cons, z_tup, z_lst, z_new, z_allD0, z_allD1, z_map, z_sNil, z_sSeq, z_sIf, z_sDrop, z_sRet, z_sAsg, z_asg, z_asgif, z_sPar, z_gN, z_gT, z_gsNil, z_gsCons, z_obind, z_gSet, z_B, z_It, z_Enum, z_R1, z_R2, z_r1, z_r2, z_Comp, z_For, z_Yes, z_M, z_Sl, z_oN, z_oS, z_Rev, z_Neg, z_IsI, z_call, z_callK, z_chain, z_body, z_rdd, z_rds, z_int, z_vI, z_vB, z_le, z_eqi, z_nei, z_nes, z_eqs, z_vInt, z_vI2, z_isN, z_notN, z_enumt, z_enuml, z_itl, z_itt, z_its, z_ixt0, z_ixt1, z_ixt2, z_lenl, z_lent, z_tyt, z_tyl, z_tyd, z_tyi, z_tyb, z_tys, z_tyn, isT_tt, isT_lt, isT_dt, isT_it, isT_bt, isT_st, isT_nt, isT_ti, isT_li, isT_di, isT_ii, isT_bi, isT_si, isT_ni, isT_tb, isT_lb, isT_db, isT_ib, isT_bb, isT_sb, isT_nb, isT_ts, isT_ls, isT_ds, isT_is, isT_bs, isT_ss, isT_ns, z_forn, z_mulx, z_lr1, z_lr1N, okR_le, dk_get, dk_set, dk_add, dk_ll, z_rdo, z_tyo, z_app, z_ext, z_star, z_lr2, z_listN, z_sqt, z_sql, z_leno, z_frz, fzL_d, z_lens, z_sls, z_sll, z_addl, z_addt, z_na10, z_dct0, z_disp, z_disp1, z_slt, z_revt, dk_rd2, dk_ty2, dk_mem1, dk_len0, z_tupl, z_tupt, z_listt, z_listl, z_in2, slots0, mVar, wipeS, pickBy, dk_rd0, dk_rd1, dk_ix0, dk_ix1, dk_ix2, dk_ne, dk_setn, dk_ty0, dk_ty1, Option.some.injEq, List.map_cons, List.map_nil, List.length_cons, List.length_nil, List.replicate_succ, List.replicate_zero, List.cons_append, List.nil_append, List.append_nil, List.getElem?_cons_zero, List.getElem?_cons_succ, List.set_cons_zero, List.set_cons_succ, List.zip_cons_cons, List.zip_nil_left, List.foldl_cons, List.foldl_nil, List.filterMap_cons, List.filterMap_nil, Nat.reduceSub, Nat.reduceAdd, Nat.reduceLT, Nat.reduceLeDiff, Nat.zero_add, Nat.add_zero, Nat.reduceEqDiff, decide_eq_true_eq, Bool.not_eq_true, Bool.not_true, Bool.not_false, Bool.not_not, ite_true, ite_false, if_true, if_false, reduceIte, Bool.false_eq_true, and_self, and_true, true_and, Int.reduceNeg, Int.reduceLT, Int.reduceLE, Int.reduceSub, Int.reduceAdd, Int.reduceMul, Int.reducePow, Int.reduceEq, Int.reduceNe, decide_true, decide_false, decide_not, Bool.and_true, Bool.true_and, Bool.or_true, Bool.true_or, ne_eq, not_true_eq_false, not_false_eq_true, Bool.and_self, false_and, and_false, reduceCtorEq, eq_self, beq_self_eq_true, List.set_nil, List.getElem?_nil, List.length_append, List.length_map, Bool.false_and, Bool.and_false, Bool.false_or, Bool.or_false, Int.cast_ofNat_Int, Int.reduceToNat, Int.zero_add, Int.add_zero, h1]
  · simp only [z_bok, z_bsok, z_bbad, z_bsbad, z_seqbad, z_outbad, z_asgbad, small_fmod, small_lit, fits_le, smallR_lit, z_na64, z_bif, z_bsif, z_noer, z_seqn, z_seqr, z_seqif, z_outr, z_outn, z_outif, z_C, z_op, z_T, z_tand, z_tor, z_tnot, z_and, z_or, z_not, z_if, z_nil, z_cons, z_tup, z_lst, z_new, z_allD0, z_allD1, z_map, z_sNil, z_sSeq, z_sIf, z_sDrop, z_sRet, z_sAsg, z_asg, z_asgif, z_sPar, z_gN, z_gT, z_gsNil, z_gsCons, z_obind, z_gSet, z_B, z_It, z_Enum, z_R1, z_R2, z_r1, z_r2, z_Comp, z_For, z_Yes, z_M, z_Sl, z_oN, z_oS, z_Rev, z_Neg, z_IsI, z_call, z_callK, z_chain, z_body, z_rdd, z_rds, z_int, z_vI, z_vB, z_le, z_eqi, z_nei, z_nes, z_eqs, z_vInt, z_vI2, z_isN, z_notN, z_enumt, z_enuml, z_itl, z_itt, z_its, z_ixt0, z_ixt1, z_ixt2, z_lenl, z_lent, z_tyt, z_tyl, z_tyd, z_tyi, z_tyb, z_tys, z_tyn, isT_tt, isT_lt, isT_dt, isT_it, isT_bt, isT_st, isT_nt, isT_ti, isT_li, isT_di, isT_ii, isT_bi, isT_si, isT_ni, isT_tb, isT_lb, isT_db, isT_ib, isT_bb, isT_sb, isT_nb, isT_ts, isT_ls, isT_ds, isT_is, isT_bs, isT_ss, isT_ns, z_forn, z_mulx, z_lr1, z_lr1N, okR_le, dk_get, dk_set, dk_add, dk_ll, z_rdo, z_tyo, z_app, z_ext, z_star, z_lr2, z_listN, z_sqt, z_sql, z_leno, z_frz, fzL_d, z_lens, z_sls, z_sll, z_addl, z_addt, z_na10, z_dct0, z_disp, z_disp1, z_slt, z_revt, dk_rd2, dk_ty2, dk_mem1, dk_len0, z_tupl, z_tupt, z_listt, z_listl, z_in2, slots0, mVar, wipeS, pickBy, dk_rd0, dk_rd1, dk_ix0, dk_ix1, dk_ix2, dk_ne, dk_setn, dk_ty0, dk_ty1, Option.some.injEq, List.map_cons, List.map_nil, List.length_cons, List.length_nil, List.replicate_succ, List.replicate_zero, List.cons_append, List.nil_append, List.append_nil, List.getElem?_cons_zero, List.getElem?_cons_succ, List.set_cons_zero, List.set_cons_succ, List.zip_cons_cons, List.zip_nil_left, List.foldl_cons, List.foldl_nil, List.filterMap_cons, List.filterMap_nil, Nat.reduceSub, Nat.reduceAdd, Nat.reduceLT, Nat.reduceLeDiff, Nat.zero_add, Nat.add_zero, Nat.reduceEqDiff, decide_eq_true_eq, Bool.not_eq_true, Bool.not_true, Bool.not_false, Bool.not_not, ite_true, ite_false, if_true, if_false, reduceIte, Bool.false_eq_true, and_self, and_true, true_and, Int.reduceNeg, Int.reduceLT, Int.reduceLE, Int.reduceSub, Int.reduceAdd, Int.reduceMul, Int.reducePow, Int.reduceEq, Int.reduceNe, decide_true, decide_false, decide_not, Bool.and_true, Bool.true_and, Bool.or_true, Bool.true_or, ne_eq, not_true_eq_false, not_false_eq_true, Bool.and_self, false_and, and_false, reduceCtorEq, eq_self, beq_self_eq_true, List.set_nil, List.getElem?_nil, List.length_append, List.length_map, Bool.false_and, Bool.and_false, Bool.false_or, Bool.or_false, Int.cast_ofNat_Int, Int.reduceToNat, Int.zero_add, Int.add_zero, h1, e1, e2]
    cases inI (ps.map (·.1)) f with
    | false => simp only [z_bok, z_bsok, z_bbad, z_bsbad, z_seqbad, z_outbad, z_asgbad, small_fmod, small_lit, fits_le, smallR_lit, z_na64, z_bif, z_bsif, z_noer, z_seqn, z_seqr, z_seqif, z_outr, z_outn, z_outif, z_C, z_op, z_T, z_tand, z_tor, z_tnot, z_and, z_or, z_not, z_if, z_nil, z_cons, z_tup, z_lst, z_new, z_allD0, z_allD1, z_map, z_sNil, z_sSeq, z_sIf, z_sDrop, z_sRet, z_sAsg, z_asg, z_asgif, z_sPar, z_gN, z_gT, z_gsNil, z_gsCons, z_obind, z_gSet, z_B, z_It, z_Enum, z_R1, z_R2, z_r1, z_r2, z_Comp, z_For, z_Yes, z_M, z_Sl, z_oN, z_oS, z_Rev, z_Neg, z_IsI, z_call, z_callK, z_chain, z_body, z_rdd, z_rds, z_int, z_vI, z_vB, z_le, z_eqi, z_nei, z_nes, z_eqs, z_vInt, z_vI2, z_isN, z_notN, z_enumt, z_enuml, z_itl, z_itt, z_its, z_ixt0, z_ixt1, z_ixt2, z_lenl, z_lent, z_tyt, z_tyl, z_tyd, z_tyi, z_tyb, z_tys, z_tyn, isT_tt, isT_lt, isT_dt, isT_it, isT_bt, isT_st, isT_nt, isT_ti, isT_li, isT_di, isT_ii, isT_bi, isT_si, isT_ni, isT_tb, isT_lb, isT_db, isT_ib, isT_bb, isT_sb, isT_nb, isT_ts, isT_ls, isT_ds, isT_is, isT_bs, isT_ss, isT_ns, z_forn, z_mulx, z_lr1, z_lr1N, okR_le, dk_get, dk_set, dk_add, dk_ll, z_rdo, z_tyo, z_app, z_ext, z_star, z_lr2, z_listN, z_sqt, z_sql, z_leno, z_frz, fzL_d, z_lens, z_sls, z_sll, z_addl, z_addt, z_na10, z_dct0, z_disp, z_disp1, z_slt, z_revt, dk_rd2, dk_ty2, dk_mem1, dk_len0, z_tupl, z_tupt, z_listt, z_listl, z_in2, slots0, mVar, wipeS, pickBy, dk_rd0, dk_rd1, dk_ix0, dk_ix1, dk_ix2, dk_ne, dk_setn, dk_ty0, dk_ty1, Option.some.injEq, List.map_cons, List.map_nil, List.length_cons, List.length_nil, List.replicate_succ, List.replicate_zero, List.cons_append, List.nil_append, List.append_nil, List.getElem?_cons_zero, List.getElem?_cons_succ, List.set_cons_zero, List.set_cons_succ, List.zip_cons_cons, List.zip_nil_left, List.foldl_cons, List.foldl_nil, List.filterMap_cons, List.filterMap_nil, Nat.reduceSub, Nat.reduceAdd, Nat.reduceLT, Nat.reduceLeDiff, Nat.zero_add, Nat.add_zero, Nat.reduceEqDiff, decide_eq_true_eq, Bool.not_eq_true, Bool.not_true, Bool.not_false, Bool.not_not, ite_true, ite_false, if_true, if_false, reduceIte, Bool.false_eq_true, and_self, and_true, true_and, Int.reduceNeg, Int.reduceLT, Int.reduceLE, Int.reduceSub, Int.reduceAdd, Int.reduceMul, Int.reducePow, Int.reduceEq, Int.reduceNe, decide_true, decide_false, decide_not, Bool.and_true, Bool.true_and, Bool.or_true, Bool.true_or, ne_eq, not_true_eq_false, not_false_eq_true, Bool.and_self, false_and, and_false, reduceCtorEq, eq_self, beq_self_eq_true, List.set_nil, List.getElem?_nil, List.length_append, List.length_map, Bool.false_and, Bool.and_false, Bool.false_or, Bool.or_false, Int.cast_ofNat_Int, Int.reduceToNat, Int.zero_add, Int.add_zero]
    | true =>
      simp only [z_bok, z_bsok, z_bbad, z_bsbad, z_seqbad, z_outbad, z_asgbad, small_fmod, small_lit, fits_le, smallR_lit, z_na64, z_bif, z_bsif, z_noer, z_seqn, z_seqr, z_seqif, z_outr, z_outn, z_outif, z_C, z_op, z_T, z_tand, z_tor, z_tnot, z_and, z_or, z_not, z_if, z_nil, z_cons, z_tup, z_lst, z_new, z_allD0, z_allD1, z_map, z_sNil, z_sSeq, z_sIf, z_sDrop, z_sRet, z_sAsg, z_asg, z_asgif, z_sPar, z_gN, z_gT, z_gsNil, z_gsCons, z_obind, z_gSet, z_B, z_It, z_Enum, z_R1, z_R2, z_r1, z_r2, z_Comp, z_For, z_Yes, z_M, z_Sl, z_oN, z_oS, z_Rev, z_Neg, z_IsI, z_call, z_callK, z_chain, z_body, z_rdd, z_rds, z_int, z_vI, z_vB, z_le, z_eqi, z_nei, z_nes, z_eqs, z_vInt, z_vI2, z_isN, z_notN, z_enumt, z_enuml, z_itl, z_itt, z_its, z_ixt0, z_ixt1, z_ixt2, z_lenl, z_lent, z_tyt, z_tyl, z_tyd, z_tyi, z_tyb, z_tys, z_tyn, isT_tt, isT_lt, isT_dt, isT_it, isT_bt, isT_st, isT_nt, isT_ti, isT_li, isT_di, isT_ii, isT_bi, isT_si, isT_ni, isT_tb, isT_lb, isT_db, isT_ib, isT_bb, isT_sb, isT_nb, isT_ts, isT_ls, isT_ds, isT_is, isT_bs, isT_ss, isT_ns, z_forn, z_mulx, z_lr1, z_lr1N, okR_le, dk_get, dk_set, dk_add, dk_ll, z_rdo, z_tyo, z_app, z_ext, z_star, z_lr2, z_listN, z_sqt, z_sql, z_leno, z_frz, fzL_d, z_lens, z_sls, z_sll, z_addl, z_addt, z_na10, z_dct0, z_disp, z_disp1, z_slt, z_revt, dk_rd2, dk_ty2, dk_mem1, dk_len0, z_tupl, z_tupt, z_listt, z_listl, z_in2, slots0, mVar, wipeS, pickBy, dk_rd0, dk_rd1, dk_ix0, dk_ix1, dk_ix2, dk_ne, dk_setn, dk_ty0, dk_ty1, Option.some.injEq, List.map_cons, List.map_nil, List.length_cons, List.length_nil, List.replicate_succ, List.replicate_zero, List.cons_append, List.nil_append, List.append_nil, List.getElem?_cons_zero, List.getElem?_cons_succ, List.set_cons_zero, List.set_cons_succ, List.zip_cons_cons, List.zip_nil_left, List.foldl_cons, List.foldl_nil, List.filterMap_cons, List.filterMap_nil, Nat.reduceSub, Nat.reduceAdd, Nat.reduceLT, Nat.reduceLeDiff, Nat.zero_add, Nat.add_zero, Nat.reduceEqDiff, decide_eq_true_eq, Bool.not_eq_true, Bool.not_true, Bool.not_false, Bool.not_not, ite_true, ite_false, if_true, if_false, reduceIte, Bool.false_eq_true, and_self, and_true, true_and, Int.reduceNeg, Int.reduceLT, Int.reduceLE, Int.reduceSub, Int.reduceAdd, Int.reduceMul, Int.reducePow, Int.reduceEq, Int.reduceNe, decide_true, decide_false, decide_not, Bool.and_true, Bool.true_and, Bool.or_true, Bool.true_or, ne_eq, not_true_eq_false, not_false_eq_true, Bool.and_self, false_and, and_false, reduceCtorEq, eq_self, beq_self_eq_true, List.set_nil, List.getElem?_nil, List.length_append, List.length_map, Bool.false_and, Bool.and_false, Bool.false_or, Bool.or_false, Int.cast_ofNat_Int, Int.reduceToNat, Int.zero_add, Int.add_zero, hn, hi]
      cases inI (nb rps p.1) g with
      | false => simp only [z_bok, z_bsok, z_bbad, z_bsbad, z_seqbad, z_outbad, z_asgbad, small_fmod, small_lit, fits_le, smallR_lit, z_na64, z_bif, z_bsif, z_noer, z_seqn, z_seqr, z_seqif, z_outr, z_outn, z_outif, z_C, z_op, z_T, z_tand, z_tor, z_tnot, z_and, z_or, z_not, z_if, z_nil, z_cons, z_tup, z_lst, z_new, z_allD0, z_allD1, z_map, z_sNil, z_sSeq, z_sIf, z_sDrop, z_sRet, z_sAsg, z_asg, z_asgif, z_sPar, z_gN, z_gT, z_gsNil, z_gsCons, z_obind, z_gSet, z_B, z_It, z_Enum, z_R1, z_R2, z_r1, z_r2, z_Comp, z_For, z_Yes, z_M, z_Sl, z_oN, z_oS, z_Rev, z_Neg, z_IsI, z_call, z_callK, z_chain, z_body, z_rdd, z_rds, z_int, z_vI, z_vB, z_le, z_eqi, z_nei, z_nes, z_eqs, z_vInt, z_vI2, z_isN, z_notN, z_enumt, z_enuml, z_itl, z_itt, z_its, z_ixt0, z_ixt1, z_ixt2, z_lenl, z_lent, z_tyt, z_tyl, z_tyd, z_tyi, z_tyb, z_tys, z_tyn, isT_tt, isT_lt, isT_dt, isT_it, isT_bt, isT_st, isT_nt, isT_ti, isT_li, isT_di, isT_ii, isT_bi, isT_si, isT_ni, isT_tb, isT_lb, isT_db, isT_ib, isT_bb, isT_sb, isT_nb, isT_ts, isT_ls, isT_ds, isT_is, isT_bs, isT_ss, isT_ns, z_forn, z_mulx, z_lr1, z_lr1N, okR_le, dk_get, dk_set, dk_add, dk_ll, z_rdo, z_tyo, z_app, z_ext, z_star, z_lr2, z_listN, z_sqt, z_sql, z_leno, z_frz, fzL_d, z_lens, z_sls, z_sll, z_addl, z_addt, z_na10, z_dct0, z_disp, z_disp1, z_slt, z_revt, dk_rd2, dk_ty2, dk_mem1, dk_len0, z_tupl, z_tupt, z_listt, z_listl, z_in2, slots0, mVar, wipeS, pickBy, dk_rd0, dk_rd1, dk_ix0, dk_ix1, dk_ix2, dk_ne, dk_setn, dk_ty0, dk_ty1, Option.some.injEq, List.map_cons, List.map_nil, List.length_cons, List.length_nil, List.replicate_succ, List.replicate_zero, List.cons_append, List.nil_append, List.append_nil, List.getElem?_cons_zero, List.getElem?_cons_succ, List.set_cons_zero, List.set_cons_succ, List.zip_cons_cons, List.zip_nil_left, List.foldl_cons, List.foldl_nil, List.filterMap_cons, List.filterMap_nil, Nat.reduceSub, Nat.reduceAdd, Nat.reduceLT, Nat.reduceLeDiff, Nat.zero_add, Nat.add_zero, Nat.reduceEqDiff, decide_eq_true_eq, Bool.not_eq_true, Bool.not_true, Bool.not_false, Bool.not_not, ite_true, ite_false, if_true, if_false, reduceIte, Bool.false_eq_true, and_self, and_true, true_and, Int.reduceNeg, Int.reduceLT, Int.reduceLE, Int.reduceSub, Int.reduceAdd, Int.reduceMul, Int.reducePow, Int.reduceEq, Int.reduceNe, decide_true, decide_false, decide_not, Bool.and_true, Bool.true_and, Bool.or_true, Bool.true_or, ne_eq, not_true_eq_false, not_false_eq_true, Bool.and_self, false_and, and_false, reduceCtorEq, eq_self, beq_self_eq_true, List.set_nil, List.getElem?_nil, List.length_append, List.length_map, Bool.false_and, Bool.and_false, Bool.false_or, Bool.or_false, Int.cast_ofNat_Int, Int.reduceToNat, Int.zero_add, Int.add_zero]
      | true =>
        simp only [z_bok, z_bsok, z_bbad, z_bsbad, z_seqbad, z_outbad, z_asgbad, small_fmod, small_lit, fits_le, smallR_lit, z_na64, z_bif, z_bsif, z_noer, z_seqn, z_seqr, z_seqif, z_outr, z_outn, z_outif, z_C, z_op, z_T, z_tand, z_tor, z_tnot, z_and, z_or, z_not, z_if, z_nil, z_cons, z_tup, z_lst, z_new, z_allD0, z_allD1, z_map, z_sNil, z_sSeq, z_sIf, z_sDrop, z_sRet, z_sAsg, z_asg, z_asgif, z_sPar, z_gN, z_gT, z_gsNil, z_gsCons, z_obind, z_gSet, z_B, z_It, z_Enum, z_R1, z_R2, z_r1, z_r2, z_Comp, z_For, z_Yes, z_M, z_Sl, z_oN, z_oS, z_Rev, z_Neg, z_IsI, z_call, z_callK, z_chain, z_body, z_rdd, z_rds, z_int, z_vI, z_vB, z_le, z_eqi, z_nei, z_nes, z_eqs, z_vInt, z_vI2, z_isN, z_notN, z_enumt, z_enuml, z_itl, z_itt, z_its, z_ixt0, z_ixt1, z_ixt2, z_lenl, z_lent, z_tyt, z_tyl, z_tyd, z_tyi, z_tyb, z_tys, z_tyn, isT_tt, isT_lt, isT_dt, isT_it, isT_bt, isT_st, isT_nt, isT_ti, isT_li, isT_di, isT_ii, isT_bi, isT_si, isT_ni, isT_tb, isT_lb, isT_db, isT_ib, isT_bb, isT_sb, isT_nb, isT_ts, isT_ls, isT_ds, isT_is, isT_bs, isT_ss, isT_ns, z_forn, z_mulx, z_lr1, z_lr1N, okR_le, dk_get, dk_set, dk_add, dk_ll, z_rdo, z_tyo, z_app, z_ext, z_star, z_lr2, z_listN, z_sqt, z_sql, z_leno, z_frz, fzL_d, z_lens, z_sls, z_sll, z_addl, z_addt, z_na10, z_dct0, z_disp, z_disp1, z_slt, z_revt, dk_rd2, dk_ty2, dk_mem1, dk_len0, z_tupl, z_tupt, z_listt, z_listl, z_in2, slots0, mVar, wipeS, pickBy, dk_rd0, dk_rd1, dk_ix0, dk_ix1, dk_ix2, dk_ne, dk_setn, dk_ty0, dk_ty1, Option.some.injEq, List.map_cons, List.map_nil, List.length_cons, List.length_nil, List.replicate_succ, List.replicate_zero, List.cons_append, List.nil_append, List.append_nil, List.getElem?_cons_zero, List.getElem?_cons_succ, List.set_cons_zero, List.set_cons_succ, List.zip_cons_cons, List.zip_nil_left, List.foldl_cons, List.foldl_nil, List.filterMap_cons, List.filterMap_nil, Nat.reduceSub, Nat.reduceAdd, Nat.reduceLT, Nat.reduceLeDiff, Nat.zero_add, Nat.add_zero, Nat.reduceEqDiff, decide_eq_true_eq, Bool.not_eq_true, Bool.not_true, Bool.not_false, Bool.not_not, ite_true, ite_false, if_true, if_false, reduceIte, Bool.false_eq_true, and_self, and_true, true_and, Int.reduceNeg, Int.reduceLT, Int.reduceLE, Int.reduceSub, Int.reduceAdd, Int.reduceMul, Int.reducePow, Int.reduceEq, Int.reduceNe, decide_true, decide_false, decide_not, Bool.and_true, Bool.true_and, Bool.or_true, Bool.true_or, ne_eq, not_true_eq_false, not_false_eq_true, Bool.and_self, false_and, and_false, reduceCtorEq, eq_self, beq_self_eq_true, List.set_nil, List.getElem?_nil, List.length_append, List.length_map, Bool.false_and, Bool.and_false, Bool.false_or, Bool.or_false, Int.cast_ofNat_Int, Int.reduceToNat, Int.zero_add, Int.add_zero]
        by_cases h2 : g = f
        · simp only [z_bok, z_bsok, z_bbad, z_bsbad, z_seqbad, z_outbad, z_asgbad, small_fmod, small_lit, fits_le, smallR_lit, z_na64, z_bif, z_bsif, z_noer, z_seqn, z_seqr, z_seqif, z_outr, z_outn, z_outif, z_C, z_op, z_T, z_tand, z_tor, z_tnot, z_and, z_or, z_not, z_if, z_nil, z_cons, z_tup, z_lst, z_new, z_allD0, z_allD1, z_map, z_sNil, z_sSeq, z_sIf, z_sDrop, z_sRet, z_sAsg, z_asg, z_asgif, z_sPar, z_gN, z_gT, z_gsNil, z_gsCons, z_obind, z_gSet, z_B, z_It, z_Enum, z_R1, z_R2, z_r1, z_r2, z_Comp, z_For, z_Yes, z_M, z_Sl, z_oN, z_oS, z_Rev, z_Neg, z_IsI, z_call, z_callK, z_chain, z_body, z_rdd, z_rds, z_int, z_vI, z_vB, z_le, z_eqi, z_nei, z_nes, z_eqs, z_vInt, z_vI2, z_isN, z_notN, z_enumt, z_enuml, z_itl, z_itt, z_its, z_ixt0, z_ixt1, z_ixt2, z_lenl, z_lent, z_tyt, z_tyl, z_tyd, z_tyi, z_tyb, z_tys, z_tyn, isT_tt, isT_lt, isT_dt, isT_it, isT_bt, isT_st, isT_nt, isT_ti, isT_li, isT_di, isT_ii, isT_bi, isT_si, isT_ni, isT_tb, isT_lb, isT_db, isT_ib, isT_bb, isT_sb, isT_nb, isT_ts, isT_ls, isT_ds, isT_is, isT_bs, isT_ss, isT_ns, z_forn, z_mulx, z_lr1, z_lr1N, okR_le, dk_get, dk_set, dk_add, dk_ll, z_rdo, z_tyo, z_app, z_ext, z_star, z_lr2, z_listN, z_sqt, z_sql, z_leno, z_frz, fzL_d, z_lens, z_sls, z_sll, z_addl, z_addt, z_na10, z_dct0, z_disp, z_disp1, z_slt, z_revt, dk_rd2, dk_ty2, dk_mem1, dk_len0, z_tupl, z_tupt, z_listt, z_listl, z_in2, slots0, mVar, wipeS, pickBy, dk_rd0, dk_rd1, dk_ix0, dk_ix1, dk_ix2, dk_ne, dk_setn, dk_ty0, dk_ty1, Option.some.injEq, List.map_cons, List.map_nil, List.length_cons, List.length_nil, List.replicate_succ, List.replicate_zero, List.cons_append, List.nil_append, List.append_nil, List.getElem?_cons_zero, List.getElem?_cons_succ, List.set_cons_zero, List.set_cons_succ, List.zip_cons_cons, List.zip_nil_left, List.foldl_cons, List.foldl_nil, List.filterMap_cons, List.filterMap_nil, Nat.reduceSub, Nat.reduceAdd, Nat.reduceLT, Nat.reduceLeDiff, Nat.zero_add, Nat.add_zero, Nat.reduceEqDiff, decide_eq_true_eq, Bool.not_eq_true, Bool.not_true, Bool.not_false, Bool.not_not, ite_true, ite_false, if_true, if_false, reduceIte, Bool.false_eq_true, and_self, and_true, true_and, Int.reduceNeg, Int.reduceLT, Int.reduceLE, Int.reduceSub, Int.reduceAdd, Int.reduceMul, Int.reducePow, Int.reduceEq, Int.reduceNe, decide_true, decide_false, decide_not, Bool.and_true, Bool.true_and, Bool.or_true, Bool.true_or, ne_eq, not_true_eq_false, not_false_eq_true, Bool.and_self, false_and, and_false, reduceCtorEq, eq_self, beq_self_eq_true, List.set_nil, List.getElem?_nil, List.length_append, List.length_map, Bool.false_and, Bool.and_false, Bool.false_or, Bool.or_false, Int.cast_ofNat_Int, Int.reduceToNat, Int.zero_add, Int.add_zero, h2]
        · simp only [z_bok, z_bsok, z_bbad, z_bsbad, z_seqbad, z_outbad, z_asgbad, small_fmod, small_lit, fits_le, smallR_lit, z_na64, z_bif, z_bsif, z_noer, z_seqn, z_seqr, z_seqif, z_outr, z_outn, z_outif, z_C, z_op, z_T, z_tand, z_tor, z_tnot, z_and, z_or, z_not, z_if, z_nil, z_cons, z_tup, z_lst, z_new, z_allD0, z_allD1, z_map, z_sNil, z_sSeq, z_sIf, z_sDrop, z_sRet, z_sAsg, z_asg, z_asgif, z_sPar, z_gN, z_gT, z_gsNil, z_gsCons, z_obind, z_gSet, z_B, z_It, z_Enum, z_R1, z_R2, z_r1, z_r2, z_Comp, z_For, z_Yes, z_M, z_Sl, z_oN, z_oS, z_Rev, z_Neg, z_IsI, z_call, z_callK, z_chain, z_body, z_rdd, z_rds, z_int, z_vI, z_vB, z_le, z_eqi, z_nei, z_nes, z_eqs, z_vInt, z_vI2, z_isN, z_notN, z_enumt, z_enuml, z_itl, z_itt, z_its, z_ixt0, z_ixt1, z_ixt2, z_lenl, z_lent, z_tyt, z_tyl, z_tyd, z_tyi, z_tyb, z_tys, z_tyn, isT_tt, isT_lt, isT_dt, isT_it, isT_bt, isT_st, isT_nt, isT_ti, isT_li, isT_di, isT_ii, isT_bi, isT_si, isT_ni, isT_tb, isT_lb, isT_db, isT_ib, isT_bb, isT_sb, isT_nb, isT_ts, isT_ls, isT_ds, isT_is, isT_bs, isT_ss, isT_ns, z_forn, z_mulx, z_lr1, z_lr1N, okR_le, dk_get, dk_set, dk_add, dk_ll, z_rdo, z_tyo, z_app, z_ext, z_star, z_lr2, z_listN, z_sqt, z_sql, z_leno, z_frz, fzL_d, z_lens, z_sls, z_sll, z_addl, z_addt, z_na10, z_dct0, z_disp, z_disp1, z_slt, z_revt, dk_rd2, dk_ty2, dk_mem1, dk_len0, z_tupl, z_tupt, z_listt, z_listl, z_in2, slots0, mVar, wipeS, pickBy, dk_rd0, dk_rd1, dk_ix0, dk_ix1, dk_ix2, dk_ne, dk_setn, dk_ty0, dk_ty1, Option.some.injEq, List.map_cons, List.map_nil, List.length_cons, List.length_nil, List.replicate_succ, List.replicate_zero, List.cons_append, List.nil_append, List.append_nil, List.getElem?_cons_zero, List.getElem?_cons_succ, List.set_cons_zero, List.set_cons_succ, List.zip_cons_cons, List.zip_nil_left, List.foldl_cons, List.foldl_nil, List.filterMap_cons, List.filterMap_nil, Nat.reduceSub, Nat.reduceAdd, Nat.reduceLT, Nat.reduceLeDiff, Nat.zero_add, Nat.add_zero, Nat.reduceEqDiff, decide_eq_true_eq, Bool.not_eq_true, Bool.not_true, Bool.not_false, Bool.not_not, ite_true, ite_false, if_true, if_false, reduceIte, Bool.false_eq_true, and_self, and_true, true_and, Int.reduceNeg, Int.reduceLT, Int.reduceLE, Int.reduceSub, Int.reduceAdd, Int.reduceMul, Int.reducePow, Int.reduceEq, Int.reduceNe, decide_true, decide_false, decide_not, Bool.and_true, Bool.true_and, Bool.or_true, Bool.true_or, ne_eq, not_true_eq_false, not_false_eq_true, Bool.and_self, false_and, and_false, reduceCtorEq, eq_self, beq_self_eq_true, List.set_nil, List.getElem?_nil, List.length_append, List.length_map, Bool.false_and, Bool.and_false, Bool.false_or, Bool.or_false, Int.cast_ofNat_Int, Int.reduceToNat, Int.zero_add, Int.add_zero, h2, hn2, hi2]
theorem cut1 {x : PyData} {ds : List PyData} : cutL (x :: ds) (some 1) none = ds := by rw [cutL_drop (by decide)]; rfl
theorem order_stay {q : Dk} {B n : Val} (hB : ∀ M, rd B M = B) (hn : ∀ M, rd n M = n) : d_is_order [B, n, .d stayD] (q.mem []) = .ok (.d (.bool true)) (q.mem []) := by
  refine z_trim ?_ rfl
  unfold b_is_order stayD
  simp only [z_bok, z_bsok, z_bbad, z_bsbad, z_seqbad, z_outbad, z_asgbad, small_fmod, small_lit, fits_le, smallR_lit, z_na64, z_bif, z_bsif, z_noer, z_seqn, z_seqr, z_seqif, z_outr, z_outn, z_outif, z_C, z_op, z_T, z_tand, z_tor, z_tnot, z_and, z_or, z_not, z_if, z_nil, z_cons, z_tup, z_lst, z_new, z_allD0, z_allD1, z_map, z_sNil, z_sSeq, z_sIf, z_sDrop, z_sRet, z_sAsg, z_asg, z_asgif, z_sPar, z_gN, z_gT, z_gsNil, z_gsCons, z_obind, z_gSet, z_B, z_It, z_Enum, z_R1, z_R2, z_r1, z_r2, z_Comp, z_For, z_Yes, z_M, z_Sl, z_oN, z_oS, z_Rev, z_Neg, z_IsI, z_call, z_callK, z_chain, z_body, z_rdd, z_rds, z_int, z_vI, z_vB, z_le, z_eqi, z_nei, z_nes, z_eqs, z_vInt, z_vI2, z_isN, z_notN, z_enumt, z_enuml, z_itl, z_itt, z_its, z_ixt0, z_ixt1, z_ixt2, z_lenl, z_lent, z_tyt, z_tyl, z_tyd, z_tyi, z_tyb, z_tys, z_tyn, isT_tt, isT_lt, isT_dt, isT_it, isT_bt, isT_st, isT_nt, isT_ti, isT_li, isT_di, isT_ii, isT_bi, isT_si, isT_ni, isT_tb, isT_lb, isT_db, isT_ib, isT_bb, isT_sb, isT_nb, isT_ts, isT_ls, isT_ds, isT_is, isT_bs, isT_ss, isT_ns, z_forn, z_mulx, z_lr1, z_lr1N, okR_le, dk_get, dk_set, dk_add, dk_ll, z_rdo, z_tyo, z_app, z_ext, z_star, z_lr2, z_listN, z_sqt, z_sql, z_leno, z_frz, fzL_d, z_lens, z_sls, z_sll, z_addl, z_addt, z_na10, z_dct0, z_disp, z_disp1, z_slt, z_revt, dk_rd2, dk_ty2, dk_mem1, dk_len0, z_tupl, z_tupt, z_listt, z_listl, z_in2, slots0, mVar, wipeS, pickBy, dk_rd0, dk_rd1, dk_ix0, dk_ix1, dk_ix2, dk_ne, dk_setn, dk_ty0, dk_ty1, Option.some.injEq, List.map_cons, List.map_nil, List.length_cons, List.length_nil, List.replicate_succ, List.replicate_zero, List.cons_append, List.nil_append, List.append_nil, List.getElem?_cons_zero, List.getElem?_cons_succ, List.set_cons_zero, List.set_cons_succ, List.zip_cons_cons, List.zip_nil_left, List.foldl_cons, List.foldl_nil, List.filterMap_cons, List.filterMap_nil, Nat.reduceSub, Nat.reduceAdd, Nat.reduceLT, Nat.reduceLeDiff, Nat.zero_add, Nat.add_zero, Nat.reduceEqDiff, decide_eq_true_eq, Bool.not_eq_true, Bool.not_true, Bool.not_false, Bool.not_not, ite_true, ite_false, if_true, if_false, reduceIte, Bool.false_eq_true, and_self, and_true, true_and, Int.reduceNeg, Int.reduceLT, Int.reduceLE, Int.reduceSub, Int.reduceAdd, Int.reduceMul, Int.reducePow, Int.reduceEq, Int.reduceNe, decide_true, decide_false, decide_not, Bool.and_true, Bool.true_and, Bool.or_true, Bool.true_or, ne_eq, not_true_eq_false, not_false_eq_true, Bool.and_self, false_and, and_false, reduceCtorEq, eq_self, beq_self_eq_true, List.set_nil, List.getElem?_nil, List.length_append, List.length_map, Bool.false_and, Bool.and_false, Bool.false_or, Bool.or_false, Int.cast_ofNat_Int, Int.reduceToNat, Int.zero_add, Int.add_zero, cut1, List.length_singleton]
theorem order_go {q : Dk} {n : Nat} {p : Int × Int} (h : ps[n]? = some p) (hr : rps.length ≤ 1000) (hp : ps.length ≤ 100) {g : Int} :
    d_is_order [.d (boardD k rps cs ps), .d (.int n), .d (goD g)] (q.mem []) = .ok (.d (.bool (inI (nb rps p.1) g))) (q.mem []) := by
  refine z_trim ?_ rfl
  have hfo := fields_ok (ps := ps) (c := chartD k rps cs) (M := q.mem []) (by omega)
  have hn := near_at (k := k) (cs := cs) (f := p.1) (M := q.mem []) (dk_below (Nat.succ_pos _)) hr
  have hi := z_inti (M := q.mem []) (g := g) (ns := nb rps p.1) (v := .d (.tuple ((nb rps p.1).map .int))) z_sqt
  have n1 : ¬ (Str.ofString "go") = Str.ofString "stay" := by decide
  unfold b_is_order goD boardD
  simp only [z_bok, z_bsok, z_bbad, z_bsbad, z_seqbad, z_outbad, z_asgbad, small_fmod, small_lit, fits_le, smallR_lit, z_na64, z_bif, z_bsif, z_noer, z_seqn, z_seqr, z_seqif, z_outr, z_outn, z_outif, z_C, z_op, z_T, z_tand, z_tor, z_tnot, z_and, z_or, z_not, z_if, z_nil, z_cons, z_tup, z_lst, z_new, z_allD0, z_allD1, z_map, z_sNil, z_sSeq, z_sIf, z_sDrop, z_sRet, z_sAsg, z_asg, z_asgif, z_sPar, z_gN, z_gT, z_gsNil, z_gsCons, z_obind, z_gSet, z_B, z_It, z_Enum, z_R1, z_R2, z_r1, z_r2, z_Comp, z_For, z_Yes, z_M, z_Sl, z_oN, z_oS, z_Rev, z_Neg, z_IsI, z_call, z_callK, z_chain, z_body, z_rdd, z_rds, z_int, z_vI, z_vB, z_le, z_eqi, z_nei, z_nes, z_eqs, z_vInt, z_vI2, z_isN, z_notN, z_enumt, z_enuml, z_itl, z_itt, z_its, z_ixt0, z_ixt1, z_ixt2, z_lenl, z_lent, z_tyt, z_tyl, z_tyd, z_tyi, z_tyb, z_tys, z_tyn, isT_tt, isT_lt, isT_dt, isT_it, isT_bt, isT_st, isT_nt, isT_ti, isT_li, isT_di, isT_ii, isT_bi, isT_si, isT_ni, isT_tb, isT_lb, isT_db, isT_ib, isT_bb, isT_sb, isT_nb, isT_ts, isT_ls, isT_ds, isT_is, isT_bs, isT_ss, isT_ns, z_forn, z_mulx, z_lr1, z_lr1N, okR_le, dk_get, dk_set, dk_add, dk_ll, z_rdo, z_tyo, z_app, z_ext, z_star, z_lr2, z_listN, z_sqt, z_sql, z_leno, z_frz, fzL_d, z_lens, z_sls, z_sll, z_addl, z_addt, z_na10, z_dct0, z_disp, z_disp1, z_slt, z_revt, dk_rd2, dk_ty2, dk_mem1, dk_len0, z_tupl, z_tupt, z_listt, z_listl, z_in2, slots0, mVar, wipeS, pickBy, dk_rd0, dk_rd1, dk_ix0, dk_ix1, dk_ix2, dk_ne, dk_setn, dk_ty0, dk_ty1, Option.some.injEq, List.map_cons, List.map_nil, List.length_cons, List.length_nil, List.replicate_succ, List.replicate_zero, List.cons_append, List.nil_append, List.append_nil, List.getElem?_cons_zero, List.getElem?_cons_succ, List.set_cons_zero, List.set_cons_succ, List.zip_cons_cons, List.zip_nil_left, List.foldl_cons, List.foldl_nil, List.filterMap_cons, List.filterMap_nil, Nat.reduceSub, Nat.reduceAdd, Nat.reduceLT, Nat.reduceLeDiff, Nat.zero_add, Nat.add_zero, Nat.reduceEqDiff, decide_eq_true_eq, Bool.not_eq_true, Bool.not_true, Bool.not_false, Bool.not_not, ite_true, ite_false, if_true, if_false, reduceIte, Bool.false_eq_true, and_self, and_true, true_and, Int.reduceNeg, Int.reduceLT, Int.reduceLE, Int.reduceSub, Int.reduceAdd, Int.reduceMul, Int.reducePow, Int.reduceEq, Int.reduceNe, decide_true, decide_false, decide_not, Bool.and_true, Bool.true_and, Bool.or_true, Bool.true_or, ne_eq, not_true_eq_false, not_false_eq_true, Bool.and_self, false_and, and_false, reduceCtorEq, eq_self, beq_self_eq_true, List.set_nil, List.getElem?_nil, List.length_append, List.length_map, Bool.false_and, Bool.and_false, Bool.false_or, Bool.or_false, Int.cast_ofNat_Int, Int.reduceToNat, Int.zero_add, Int.add_zero, cut1, n1, is_integer_eq, isI, hfo, z_ixt (fx_at h), hn, hi]
theorem order_back {q : Dk} {n : Nat} {p : Int × Int} (h : ps[n]? = some p) (hr : rps.length ≤ 1000) (hp : ps.length ≤ 100) {f g : Int} :
    d_is_order [.d (boardD k rps cs ps), .d (.int n), .d (triD "back" (f, g))] (q.mem []) = .ok (.d (.bool (backB rps ps p.1 f g))) (q.mem []) := by
  refine z_trim ?_ rfl
  have hb := backed_ok (k := k) (cs := cs) (q := q) h hr hp (f := f) (g := g)
  have n1 : ¬ (Str.ofString "back") = Str.ofString "stay" := by decide
  have n2 : ¬ (Str.ofString "back") = Str.ofString "go" := by decide
  unfold b_is_order triD
  simp only [z_bok, z_bsok, z_bbad, z_bsbad, z_seqbad, z_outbad, z_asgbad, small_fmod, small_lit, fits_le, smallR_lit, z_na64, z_bif, z_bsif, z_noer, z_seqn, z_seqr, z_seqif, z_outr, z_outn, z_outif, z_C, z_op, z_T, z_tand, z_tor, z_tnot, z_and, z_or, z_not, z_if, z_nil, z_cons, z_tup, z_lst, z_new, z_allD0, z_allD1, z_map, z_sNil, z_sSeq, z_sIf, z_sDrop, z_sRet, z_sAsg, z_asg, z_asgif, z_sPar, z_gN, z_gT, z_gsNil, z_gsCons, z_obind, z_gSet, z_B, z_It, z_Enum, z_R1, z_R2, z_r1, z_r2, z_Comp, z_For, z_Yes, z_M, z_Sl, z_oN, z_oS, z_Rev, z_Neg, z_IsI, z_call, z_callK, z_chain, z_body, z_rdd, z_rds, z_int, z_vI, z_vB, z_le, z_eqi, z_nei, z_nes, z_eqs, z_vInt, z_vI2, z_isN, z_notN, z_enumt, z_enuml, z_itl, z_itt, z_its, z_ixt0, z_ixt1, z_ixt2, z_lenl, z_lent, z_tyt, z_tyl, z_tyd, z_tyi, z_tyb, z_tys, z_tyn, isT_tt, isT_lt, isT_dt, isT_it, isT_bt, isT_st, isT_nt, isT_ti, isT_li, isT_di, isT_ii, isT_bi, isT_si, isT_ni, isT_tb, isT_lb, isT_db, isT_ib, isT_bb, isT_sb, isT_nb, isT_ts, isT_ls, isT_ds, isT_is, isT_bs, isT_ss, isT_ns, z_forn, z_mulx, z_lr1, z_lr1N, okR_le, dk_get, dk_set, dk_add, dk_ll, z_rdo, z_tyo, z_app, z_ext, z_star, z_lr2, z_listN, z_sqt, z_sql, z_leno, z_frz, fzL_d, z_lens, z_sls, z_sll, z_addl, z_addt, z_na10, z_dct0, z_disp, z_disp1, z_slt, z_revt, dk_rd2, dk_ty2, dk_mem1, dk_len0, z_tupl, z_tupt, z_listt, z_listl, z_in2, slots0, mVar, wipeS, pickBy, dk_rd0, dk_rd1, dk_ix0, dk_ix1, dk_ix2, dk_ne, dk_setn, dk_ty0, dk_ty1, Option.some.injEq, List.map_cons, List.map_nil, List.length_cons, List.length_nil, List.replicate_succ, List.replicate_zero, List.cons_append, List.nil_append, List.append_nil, List.getElem?_cons_zero, List.getElem?_cons_succ, List.set_cons_zero, List.set_cons_succ, List.zip_cons_cons, List.zip_nil_left, List.foldl_cons, List.foldl_nil, List.filterMap_cons, List.filterMap_nil, Nat.reduceSub, Nat.reduceAdd, Nat.reduceLT, Nat.reduceLeDiff, Nat.zero_add, Nat.add_zero, Nat.reduceEqDiff, decide_eq_true_eq, Bool.not_eq_true, Bool.not_true, Bool.not_false, Bool.not_not, ite_true, ite_false, if_true, if_false, reduceIte, Bool.false_eq_true, and_self, and_true, true_and, Int.reduceNeg, Int.reduceLT, Int.reduceLE, Int.reduceSub, Int.reduceAdd, Int.reduceMul, Int.reducePow, Int.reduceEq, Int.reduceNe, decide_true, decide_false, decide_not, Bool.and_true, Bool.true_and, Bool.or_true, Bool.true_or, ne_eq, not_true_eq_false, not_false_eq_true, Bool.and_self, false_and, and_false, reduceCtorEq, eq_self, beq_self_eq_true, List.set_nil, List.getElem?_nil, List.length_append, List.length_map, Bool.false_and, Bool.and_false, Bool.false_or, Bool.or_false, Int.cast_ofNat_Int, Int.reduceToNat, Int.zero_add, Int.add_zero, cut1, n1, n2, hb]
end
end Zl
namespace Zl
open PySem PySem.Spec PyProof.Rows L2 Zm
/-! ### unlike orders have unlike texts -/
theorem sh_tup (ds : List PyData) : (PyData.tuple ds).shown = tupleText (PyData.shownAll ds) := by rw [PyData.shown]
theorem sh_c (x : PyData) (ds : List PyData) : PyData.shownAll (x :: ds) = x.shown :: PyData.shownAll ds := by rw [PyData.shownAll]
theorem sh_n : PyData.shownAll [] = [] := by rw [PyData.shownAll]
def sg (x : Str) : List Nat := x.cps.toList
def ti (i : Int) : List Nat := sg (PyData.int i).shown
theorem ti_eq (i : Int) : ti i = (toString i).toList.map Char.toNat := by
  unfold ti sg
  rw [PyData.shown]
  exact signs_ofString (toString i)
theorem ti_inj {i j : Int} (h : ti i = ti j) : i = j := by
  rw [ti_eq, ti_eq] at h
  have h2 : (toString i).toList = (toString j).toList := by
    refine List.map_inj_right (f := Char.toNat) (fun x y e => Char.ext (UInt32.toNat_inj.mp e)) |>.mp h
  exact Int.repr_injective (String.toList_inj.mp h2)
theorem ti_free (i : Int) : 44 ∉ ti i := shown_int_free (.inl (by decide)) i
theorem ti_small (i : Int) : ∀ c ∈ ti i, c < 256 := by
  rw [ti_eq]
  intro c hc
  obtain ⟨ch, h, rfl⟩ := List.mem_map.mp hc
  rcases int_sign i ch h with h | rfl
  · have := digit_range h; omega
  · decide
def wd (z : Str) : List Nat := sg (PyData.str z).shown
theorem sg_stay : sg stayD.shown = [40] ++ wd "stay" ++ [44, 41] := by
  unfold stayD wd sg
  rw [sh_tup]
  simp only [sh_c, sh_n]
  unfold tupleText
  rw [join_one]
  simp only [cps_toList_append]
  rfl
theorem sg_go (g : Int) : sg (goD g).shown = [40] ++ (wd "go" ++ [44, 32] ++ ti g) ++ [41] := by
  unfold goD wd ti sg
  rw [sh_tup]
  simp only [sh_c, sh_n]
  unfold tupleText
  rw [join_cons_cons, join_one]
  simp only [cps_toList_append]
  rfl
theorem sg_back (f g : Int) : sg (triD "back" (f, g)).shown = [40] ++ (wd "back" ++ [44, 32] ++ (ti f ++ [44, 32] ++ ti g)) ++ [41] := by
  unfold triD wd ti sg
  rw [sh_tup]
  simp only [sh_c, sh_n]
  unfold tupleText
  rw [join_cons_cons, join_cons_cons, join_one]
  simp only [cps_toList_append]
  rfl
theorem wd_stay : wd "stay" = [39, 115, 116, 97, 121, 39] := by decide +kernel
theorem wd_go : wd "go" = [39, 103, 111, 39] := by decide +kernel
theorem wd_back : wd "back" = [39, 98, 97, 99, 107, 39] := by decide +kernel
theorem ne_sg (g : Int) : sg stayD.shown ≠ sg (goD g).shown := by
  rw [sg_stay, sg_go, wd_stay, wd_go]
  intro h
  injection h with _ h
  injection h with _ h
  injection h with h _
  cases h
theorem ne_sb (f g : Int) : sg stayD.shown ≠ sg (triD "back" (f, g)).shown := by
  rw [sg_stay, sg_back, wd_stay, wd_back]
  intro h
  injection h with _ h
  injection h with _ h
  injection h with h _
  cases h
theorem ne_gb (e f g : Int) : sg (goD e).shown ≠ sg (triD "back" (f, g)).shown := by
  rw [sg_go, sg_back, wd_go, wd_back]
  intro h
  injection h with _ h
  injection h with _ h
  injection h with h _
  cases h
theorem go_inj {g g' : Int} (h : sg (goD g).shown = sg (goD g').shown) : g = g' := by
  rw [sg_go, sg_go] at h
  exact ti_inj (List.append_cancel_left (List.append_cancel_left (List.append_cancel_right h)))
theorem split44 : ∀ {a b x y : List Nat}, 44 ∉ a → 44 ∉ b → a ++ 44 :: x = b ++ 44 :: y → a = b ∧ x = y
  | [], [], _, _, _, _, h => ⟨rfl, (List.cons.inj h).2⟩
  | [], b :: bs, _, _, _, hb, h => absurd (List.cons.inj h).1 (fun e => hb (by rw [e]; exact List.mem_cons_self ..))
  | a :: as, [], _, _, ha, _, h => absurd (List.cons.inj h).1 (fun e => ha (by rw [← e]; exact List.mem_cons_self ..))
  | a :: as, b :: bs, x, y, ha, hb, h => by
    have h1 := List.cons.inj h
    obtain ⟨e1, e2⟩ := split44 (fun m => ha (List.mem_cons_of_mem _ m)) (fun m => hb (List.mem_cons_of_mem _ m)) h1.2
    exact ⟨by rw [h1.1, e1], e2⟩
theorem back_inj {f g f' g' : Int} (h : sg (triD "back" (f, g)).shown = sg (triD "back" (f', g')).shown) : f = f' ∧ g = g' := by
  rw [sg_back, sg_back] at h
  have h := List.append_cancel_left (List.append_cancel_left (List.append_cancel_right h))
  rw [List.append_assoc, List.append_assoc] at h
  obtain ⟨e1, e2⟩ := split44 (ti_free f) (ti_free f') h
  exact ⟨ti_inj e1, ti_inj (List.cons.inj e2).2⟩
theorem ok_of {x : Str} (h : ∀ c ∈ sg x, c < 256) : PyData.strOk x = true := by
  unfold PyData.strOk
  rw [← Array.all_toList, List.all_eq_true]
  intro c hc
  have := h c hc
  exact decide_eq_true (by omega)
theorem ok_stay : PyData.strOk stayD.shown = true := ok_of (by rw [sg_stay, wd_stay]; decide)
theorem ok_go (g : Int) : PyData.strOk (goD g).shown = true := ok_of (by
  rw [sg_go, wd_go]
  intro c hc
  simp only [List.mem_append, List.mem_cons, List.not_mem_nil, or_false] at hc
  rcases hc with (rfl | (((rfl | rfl | rfl | rfl) | (rfl | rfl)) | hc)) | rfl
  all_goals first | exact ti_small g c hc | decide)
theorem ok_back (f g : Int) : PyData.strOk (triD "back" (f, g)).shown = true := ok_of (by
  rw [sg_back, wd_back]
  intro c hc
  simp only [List.mem_append, List.mem_cons, List.not_mem_nil, or_false] at hc
  rcases hc with (rfl | (((rfl | rfl | rfl | rfl | rfl | rfl) | (rfl | rfl)) | ((hc | (rfl | rfl)) | hc))) | rfl
  all_goals first | exact ti_small g c hc | exact ti_small f c hc | decide)
end Zl
namespace Zl
open PySem PySem.Spec PyProof.Rows L2 Zm
/-! ### the law's menu -/
section
variable {k : Int} {rps ps : List (Int × Int)} {cs : PyData}
theorem mem_bks {own f g : Int} {fs : List Int} : (f, g) ∈ bks rps own fs ↔ f ∈ fs ∧ f ≠ own ∧ g ∈ nb rps own ∧ hitG rps f g = true := by
  unfold bks
  rw [List.mem_flatMap]
  constructor
  · rintro ⟨x, hx, h⟩
    unfold bk1 at h
    obtain ⟨y, hy, e⟩ := List.mem_map.mp h
    cases e
    obtain ⟨h1, h2⟩ := List.mem_filter.mp hx
    obtain ⟨h3, h4⟩ := List.mem_filter.mp hy
    exact ⟨h1, by simpa using h2, h3, h4⟩
  · rintro ⟨h1, h2, h3, h4⟩
    exact ⟨f, List.mem_filter.mpr ⟨h1, by simpa using h2⟩, List.mem_map.mpr ⟨g, List.mem_filter.mpr ⟨h3, h4⟩, rfl⟩⟩
def memB (l : List PyData) (o : PyData) : Bool := l.any fun y => y.shown == o.shown
theorem memB_iff {l : List PyData} {o : PyData} : memB l o = true ↔ ∃ y ∈ l, y.shown = o.shown := by
  unfold memB
  rw [List.any_eq_true]
  constructor
  · rintro ⟨y, h, e⟩; exact ⟨y, h, by simpa using e⟩
  · rintro ⟨y, h, e⟩; exact ⟨y, h, by simpa using e⟩
theorem mem_ordL {own : Int} {y : PyData} : y ∈ ordL rps ps own ↔ y = stayD ∨ (∃ g ∈ nb rps own, y = goD g) ∨ ∃ p ∈ bks rps own (ps.map (·.1)), y = triD "back" p := by
  unfold ordL
  rw [List.mem_cons, List.mem_append, List.mem_map, List.mem_map]
  constructor
  · rintro (h | ⟨g, h, rfl⟩ | ⟨g, h, rfl⟩)
    · exact .inl h
    · exact .inr (.inl ⟨g, h, rfl⟩)
    · exact .inr (.inr ⟨g, h, rfl⟩)
  · rintro (h | ⟨g, h, rfl⟩ | ⟨g, h, rfl⟩)
    · exact .inl h
    · exact .inr (.inl ⟨g, h, rfl⟩)
    · exact .inr (.inr ⟨g, h, rfl⟩)
theorem mem_stay {own : Int} : memB (ordL rps ps own) stayD = true := memB_iff.mpr ⟨stayD, mem_ordL.mpr (.inl rfl), rfl⟩
theorem mem_go {own g : Int} : memB (ordL rps ps own) (goD g) = inI (nb rps own) g := by
  rw [Bool.eq_iff_iff, memB_iff, inI_iff]
  constructor
  · rintro ⟨y, h, e⟩
    rcases mem_ordL.mp h with rfl | ⟨g', hm, rfl⟩ | ⟨p, hm, rfl⟩
    · exact absurd (congrArg sg e) (ne_sg g)
    · exact go_inj (congrArg sg e) ▸ hm
    · exact absurd (congrArg sg e).symm (ne_gb g p.1 p.2)
  · exact fun h => ⟨goD g, mem_ordL.mpr (.inr (.inl ⟨g, h, rfl⟩)), rfl⟩
theorem mem_back {own f g : Int} : memB (ordL rps ps own) (triD "back" (f, g)) = backB rps ps own f g := by
  rw [Bool.eq_iff_iff, memB_iff]
  unfold backB
  rw [Bool.and_eq_true, Bool.and_eq_true, Bool.and_eq_true, inI_iff, inI_iff]
  constructor
  · rintro ⟨y, h, e⟩
    rcases mem_ordL.mp h with rfl | ⟨g', hm, rfl⟩ | ⟨p, hm, rfl⟩
    · exact absurd (congrArg sg e) (ne_sb f g)
    · exact absurd (congrArg sg e) (ne_gb g' f g)
    · obtain ⟨p1, p2⟩ := p
      obtain ⟨rfl, rfl⟩ := back_inj (congrArg sg e)
      obtain ⟨h1, h2, h3, h4⟩ := mem_bks.mp hm
      exact ⟨⟨⟨by simpa using h2, h1⟩, h3⟩, h4⟩
  · rintro ⟨⟨⟨h2, h1⟩, h3⟩, h4⟩
    exact ⟨_, mem_ordL.mpr (.inr (.inr ⟨(f, g), mem_bks.mpr ⟨h1, by simpa using h2, h3, h4⟩, rfl⟩)), rfl⟩
/-- an order of the tried kinds -/
inductive Tr : PyData → Prop
  | stay : Tr stayD
  | go (g : Int) (h : g.natAbs < 256) : Tr (goD g)
  | back (f g : Int) (h : f.natAbs < 256) (h2 : g.natAbs < 256) : Tr (triD "back" (f, g))
theorem Tr.ok {o : PyData} (h : Tr o) : PyData.strOk o.shown = true := by
  cases h with
  | stay => exact ok_stay
  | go g => exact ok_go g
  | back f g => exact ok_back f g
theorem Tr.sz {o : PyData} (h : Tr o) : Sz 1 40 o := by
  have a : Sz 0 10 (.str "stay") := ⟨by decide +kernel, rfl, Nat.zero_le _, by decide +kernel⟩
  have b : Sz 0 10 (.str "go") := ⟨by decide +kernel, rfl, Nat.zero_le _, by decide +kernel⟩
  have c : Sz 0 10 (.str "back") := ⟨by decide +kernel, rfl, Nat.zero_le _, by decide +kernel⟩
  cases h with
  | stay => exact (Sz.t1 a).mono
  | go g h => exact (Sz.t2 b (.i8 h)).mono
  | back f g h h2 => exact (Sz.t3 c (.i8 h) (.i8 h2)).mono
theorem Tr.lay {os : List PyData} (h : ∀ o ∈ os, Tr o) : Lay os := ⟨fun x hx => by
  cases h x hx with
  | stay => decide +kernel
  | go g => unfold goD; simp only [PyData.canLay0, PyData.canLayAll0, Bool.and_true]; decide +kernel
  | back f g => unfold triD; simp only [PyData.canLay0, PyData.canLayAll0, Bool.and_true]; decide +kernel, fun x hx => Nat.le_trans (h x hx).sz.dp (by decide)⟩
theorem ordL_tr {own : Int} (hn : ∀ f, ∀ g ∈ nb rps f, g.natAbs < 256) (hp : ∀ p ∈ ps, p.1.natAbs < 256) : ∀ y ∈ ordL rps ps own, Tr y := by
  intro y h
  rcases mem_ordL.mp h with rfl | ⟨g', hm, rfl⟩ | ⟨⟨f, g⟩, hm, rfl⟩
  · exact .stay
  · exact .go g' (hn _ _ hm)
  · obtain ⟨h1, h2, h3, h4⟩ := mem_bks.mp hm
    obtain ⟨p, hp1, rfl⟩ := List.mem_map.mp h1
    exact .back _ g (hp p hp1) (hn _ _ h3)
theorem in_menu {M : Mm} {os : List PyData} {o : PyData} (h : ∀ o ∈ os, Tr o) (ho : Tr o) : vIn false (.d (.str o.shown)) (.d (.list (os.map fun x => .str x.shown))) M = .ok (.d (.bool (memB os o))) M := by
  have e : (os.map fun x => PyData.str x.shown) = (os.map (·.shown)).map .str := by rw [List.map_map]; rfl
  have c : PyData.canLayAll0 (os.map fun x => .str x.shown) = true := by
    rw [e, canLayAll_strs', List.all_eq_true]
    intro x hx
    obtain ⟨y, hy, rfl⟩ := List.mem_map.mp hx
    exact (h y hy).ok
  have d : SeqAt.shaped (.str o.shown) = true := by
    unfold SeqAt.shaped
    rw [PyData.canLay0, ho.ok]
    rfl
  rw [z_inp (d := .str o.shown) (ds := os.map fun x => .str x.shown) rfl rfl d c, Bool.false_xor, List.any_map]
  rfl
/-! ### the judge of all orders -/
theorem stays_loop {q : Dk} {B : PyData} {V : Option Val} : ∀ (m n : Nat) (rest : List PyData) (a b : Option Val), ∃ a' b',
    forL g0_orders_error l0_orders_error (pairsN n (List.replicate m stayD ++ rest)) [some (.d B), V, a, b] (q.mem []) = forL g0_orders_error l0_orders_error (pairsN (n + m) rest) [some (.d B), V, a', b'] (q.mem [])
  | 0, n, rest, a, b => ⟨a, b, rfl⟩
  | m + 1, n, rest, a, b => by
    obtain ⟨a', b', e⟩ := stays_loop (q := q) (B := B) (V := V) m (n + 1) rest (some (.d (.int n))) (some (.d stayD))
    refine ⟨a', b', ?_⟩
    rw [List.replicate_succ, List.cons_append, pairsN_c, z_forc (s1 := [some (.d B), V, some (.d (.int n)), some (.d stayD)]) (M1 := q.mem []) rfl]
    have hs := order_stay (q := q) (B := .d B) (n := .d (.int n)) (fun _ => rfl) (fun _ => rfl)
    unfold l0_orders_error
    simp only [z_bok, z_bsok, z_bbad, z_bsbad, z_seqbad, z_outbad, z_asgbad, small_fmod, small_lit, fits_le, smallR_lit, z_na64, z_bif, z_bsif, z_noer, z_seqn, z_seqr, z_seqif, z_outr, z_outn, z_outif, z_C, z_op, z_T, z_tand, z_tor, z_tnot, z_and, z_or, z_not, z_if, z_nil, z_cons, z_tup, z_lst, z_new, z_allD0, z_allD1, z_map, z_sNil, z_sSeq, z_sIf, z_sDrop, z_sRet, z_sAsg, z_asg, z_asgif, z_sPar, z_gN, z_gT, z_gsNil, z_gsCons, z_obind, z_gSet, z_B, z_It, z_Enum, z_R1, z_R2, z_r1, z_r2, z_Comp, z_For, z_Yes, z_M, z_Sl, z_oN, z_oS, z_Rev, z_Neg, z_IsI, z_call, z_callK, z_chain, z_body, z_rdd, z_rds, z_int, z_vI, z_vB, z_le, z_eqi, z_nei, z_nes, z_eqs, z_vInt, z_vI2, z_isN, z_notN, z_enumt, z_enuml, z_itl, z_itt, z_its, z_ixt0, z_ixt1, z_ixt2, z_lenl, z_lent, z_tyt, z_tyl, z_tyd, z_tyi, z_tyb, z_tys, z_tyn, isT_tt, isT_lt, isT_dt, isT_it, isT_bt, isT_st, isT_nt, isT_ti, isT_li, isT_di, isT_ii, isT_bi, isT_si, isT_ni, isT_tb, isT_lb, isT_db, isT_ib, isT_bb, isT_sb, isT_nb, isT_ts, isT_ls, isT_ds, isT_is, isT_bs, isT_ss, isT_ns, z_forn, z_mulx, z_lr1, z_lr1N, okR_le, dk_get, dk_set, dk_add, dk_ll, z_rdo, z_tyo, z_app, z_ext, z_star, z_lr2, z_listN, z_sqt, z_sql, z_leno, z_frz, fzL_d, z_lens, z_sls, z_sll, z_addl, z_addt, z_na10, z_dct0, z_disp, z_disp1, z_slt, z_revt, dk_rd2, dk_ty2, dk_mem1, dk_len0, z_tupl, z_tupt, z_listt, z_listl, z_in2, slots0, mVar, wipeS, pickBy, dk_rd0, dk_rd1, dk_ix0, dk_ix1, dk_ix2, dk_ne, dk_setn, dk_ty0, dk_ty1, Option.some.injEq, List.map_cons, List.map_nil, List.length_cons, List.length_nil, List.replicate_succ, List.replicate_zero, List.cons_append, List.nil_append, List.append_nil, List.getElem?_cons_zero, List.getElem?_cons_succ, List.set_cons_zero, List.set_cons_succ, List.zip_cons_cons, List.zip_nil_left, List.foldl_cons, List.foldl_nil, List.filterMap_cons, List.filterMap_nil, Nat.reduceSub, Nat.reduceAdd, Nat.reduceLT, Nat.reduceLeDiff, Nat.zero_add, Nat.add_zero, Nat.reduceEqDiff, decide_eq_true_eq, Bool.not_eq_true, Bool.not_true, Bool.not_false, Bool.not_not, ite_true, ite_false, if_true, if_false, reduceIte, Bool.false_eq_true, and_self, and_true, true_and, Int.reduceNeg, Int.reduceLT, Int.reduceLE, Int.reduceSub, Int.reduceAdd, Int.reduceMul, Int.reducePow, Int.reduceEq, Int.reduceNe, decide_true, decide_false, decide_not, Bool.and_true, Bool.true_and, Bool.or_true, Bool.true_or, ne_eq, not_true_eq_false, not_false_eq_true, Bool.and_self, false_and, and_false, reduceCtorEq, eq_self, beq_self_eq_true, List.set_nil, List.getElem?_nil, List.length_append, List.length_map, Bool.false_and, Bool.and_false, Bool.false_or, Bool.or_false, Int.cast_ofNat_Int, Int.reduceToNat, Int.zero_add, Int.add_zero, hs]
    rw [show n + (m + 1) = n + 1 + m by omega]
    exact e
theorem oerr_ok {q : Dk} {o : PyData} {b : Bool} {n m : Nat} (hl : n + 1 + m = ps.length) (ho : d_is_order [.d (boardD k rps cs ps), .d (.int n), .d o] (q.mem []) = .ok (.d (.bool b)) (q.mem [])) :
    d_orders_error [.d (boardD k rps cs ps), .d (.tuple (List.replicate n stayD ++ o :: List.replicate m stayD))] (q.mem []) = .ok (.d (if b = true then .none else .tuple [.str "order", .int n])) (q.mem []) := by
  refine z_trim ?_ rfl
  obtain ⟨a1, b1, e1⟩ := stays_loop (q := q) (B := boardD k rps cs ps) (V := some (.d (.tuple (List.replicate n stayD ++ o :: List.replicate m stayD)))) n 0 (o :: List.replicate m stayD) none none
  obtain ⟨a2, b2, e2⟩ := stays_loop (q := q) (B := boardD k rps cs ps) (V := some (.d (.tuple (List.replicate n stayD ++ o :: List.replicate m stayD)))) m (n + 1) [] (some (.d (.int n))) (some (.d o))
  rw [List.append_nil] at e2
  have hlen : ((List.replicate n stayD ++ o :: List.replicate m stayD).length : Int) = ((ps.map Zm.pairD).length : Int) := by
    rw [List.length_append, List.length_cons, List.length_replicate, List.length_replicate, List.length_map]
    omega
  have e3 : forL g0_orders_error l0_orders_error (pairsN 0 (List.replicate n stayD ++ o :: List.replicate m stayD)) [some (.d (boardD k rps cs ps)), some (.d (.tuple (List.replicate n stayD ++ o :: List.replicate m stayD))), none, none] (q.mem []) =
      if b = true then .nx [some (.d (boardD k rps cs ps)), some (.d (.tuple (List.replicate n stayD ++ o :: List.replicate m stayD))), a2, b2] (q.mem []) else .rt (.d (.tuple [.str "order", .int n])) (q.mem []) := by
    rw [e1, Nat.zero_add, pairsN_c, z_forc (s1 := [some (.d (boardD k rps cs ps)), some (.d (.tuple (List.replicate n stayD ++ o :: List.replicate m stayD))), some (.d (.int n)), some (.d o)]) (M1 := q.mem []) rfl]
    have hb : l0_orders_error [some (.d (boardD k rps cs ps)), some (.d (.tuple (List.replicate n stayD ++ o :: List.replicate m stayD))), some (.d (.int n)), some (.d o)] (q.mem []) =
        if b = true then .nx [some (.d (boardD k rps cs ps)), some (.d (.tuple (List.replicate n stayD ++ o :: List.replicate m stayD))), some (.d (.int n)), some (.d o)] (q.mem []) else .rt (.d (.tuple [.str "order", .int n])) (q.mem []) := by
      unfold l0_orders_error
      simp only [z_bok, z_bsok, z_bbad, z_bsbad, z_seqbad, z_outbad, z_asgbad, small_fmod, small_lit, fits_le, smallR_lit, z_na64, z_bif, z_bsif, z_noer, z_seqn, z_seqr, z_seqif, z_outr, z_outn, z_outif, z_C, z_op, z_T, z_tand, z_tor, z_tnot, z_and, z_or, z_not, z_if, z_nil, z_cons, z_tup, z_lst, z_new, z_allD0, z_allD1, z_map, z_sNil, z_sSeq, z_sIf, z_sDrop, z_sRet, z_sAsg, z_asg, z_asgif, z_sPar, z_gN, z_gT, z_gsNil, z_gsCons, z_obind, z_gSet, z_B, z_It, z_Enum, z_R1, z_R2, z_r1, z_r2, z_Comp, z_For, z_Yes, z_M, z_Sl, z_oN, z_oS, z_Rev, z_Neg, z_IsI, z_call, z_callK, z_chain, z_body, z_rdd, z_rds, z_int, z_vI, z_vB, z_le, z_eqi, z_nei, z_nes, z_eqs, z_vInt, z_vI2, z_isN, z_notN, z_enumt, z_enuml, z_itl, z_itt, z_its, z_ixt0, z_ixt1, z_ixt2, z_lenl, z_lent, z_tyt, z_tyl, z_tyd, z_tyi, z_tyb, z_tys, z_tyn, isT_tt, isT_lt, isT_dt, isT_it, isT_bt, isT_st, isT_nt, isT_ti, isT_li, isT_di, isT_ii, isT_bi, isT_si, isT_ni, isT_tb, isT_lb, isT_db, isT_ib, isT_bb, isT_sb, isT_nb, isT_ts, isT_ls, isT_ds, isT_is, isT_bs, isT_ss, isT_ns, z_forn, z_mulx, z_lr1, z_lr1N, okR_le, dk_get, dk_set, dk_add, dk_ll, z_rdo, z_tyo, z_app, z_ext, z_star, z_lr2, z_listN, z_sqt, z_sql, z_leno, z_frz, fzL_d, z_lens, z_sls, z_sll, z_addl, z_addt, z_na10, z_dct0, z_disp, z_disp1, z_slt, z_revt, dk_rd2, dk_ty2, dk_mem1, dk_len0, z_tupl, z_tupt, z_listt, z_listl, z_in2, slots0, mVar, wipeS, pickBy, dk_rd0, dk_rd1, dk_ix0, dk_ix1, dk_ix2, dk_ne, dk_setn, dk_ty0, dk_ty1, Option.some.injEq, List.map_cons, List.map_nil, List.length_cons, List.length_nil, List.replicate_succ, List.replicate_zero, List.cons_append, List.nil_append, List.append_nil, List.getElem?_cons_zero, List.getElem?_cons_succ, List.set_cons_zero, List.set_cons_succ, List.zip_cons_cons, List.zip_nil_left, List.foldl_cons, List.foldl_nil, List.filterMap_cons, List.filterMap_nil, Nat.reduceSub, Nat.reduceAdd, Nat.reduceLT, Nat.reduceLeDiff, Nat.zero_add, Nat.add_zero, Nat.reduceEqDiff, decide_eq_true_eq, Bool.not_eq_true, Bool.not_true, Bool.not_false, Bool.not_not, ite_true, ite_false, if_true, if_false, reduceIte, Bool.false_eq_true, and_self, and_true, true_and, Int.reduceNeg, Int.reduceLT, Int.reduceLE, Int.reduceSub, Int.reduceAdd, Int.reduceMul, Int.reducePow, Int.reduceEq, Int.reduceNe, decide_true, decide_false, decide_not, Bool.and_true, Bool.true_and, Bool.or_true, Bool.true_or, ne_eq, not_true_eq_false, not_false_eq_true, Bool.and_self, false_and, and_false, reduceCtorEq, eq_self, beq_self_eq_true, List.set_nil, List.getElem?_nil, List.length_append, List.length_map, Bool.false_and, Bool.and_false, Bool.false_or, Bool.or_false, Int.cast_ofNat_Int, Int.reduceToNat, Int.zero_add, Int.add_zero, ho]
      cases b <;> simp only [z_bok, z_bsok, z_bbad, z_bsbad, z_seqbad, z_outbad, z_asgbad, small_fmod, small_lit, fits_le, smallR_lit, z_na64, z_bif, z_bsif, z_noer, z_seqn, z_seqr, z_seqif, z_outr, z_outn, z_outif, z_C, z_op, z_T, z_tand, z_tor, z_tnot, z_and, z_or, z_not, z_if, z_nil, z_cons, z_tup, z_lst, z_new, z_allD0, z_allD1, z_map, z_sNil, z_sSeq, z_sIf, z_sDrop, z_sRet, z_sAsg, z_asg, z_asgif, z_sPar, z_gN, z_gT, z_gsNil, z_gsCons, z_obind, z_gSet, z_B, z_It, z_Enum, z_R1, z_R2, z_r1, z_r2, z_Comp, z_For, z_Yes, z_M, z_Sl, z_oN, z_oS, z_Rev, z_Neg, z_IsI, z_call, z_callK, z_chain, z_body, z_rdd, z_rds, z_int, z_vI, z_vB, z_le, z_eqi, z_nei, z_nes, z_eqs, z_vInt, z_vI2, z_isN, z_notN, z_enumt, z_enuml, z_itl, z_itt, z_its, z_ixt0, z_ixt1, z_ixt2, z_lenl, z_lent, z_tyt, z_tyl, z_tyd, z_tyi, z_tyb, z_tys, z_tyn, isT_tt, isT_lt, isT_dt, isT_it, isT_bt, isT_st, isT_nt, isT_ti, isT_li, isT_di, isT_ii, isT_bi, isT_si, isT_ni, isT_tb, isT_lb, isT_db, isT_ib, isT_bb, isT_sb, isT_nb, isT_ts, isT_ls, isT_ds, isT_is, isT_bs, isT_ss, isT_ns, z_forn, z_mulx, z_lr1, z_lr1N, okR_le, dk_get, dk_set, dk_add, dk_ll, z_rdo, z_tyo, z_app, z_ext, z_star, z_lr2, z_listN, z_sqt, z_sql, z_leno, z_frz, fzL_d, z_lens, z_sls, z_sll, z_addl, z_addt, z_na10, z_dct0, z_disp, z_disp1, z_slt, z_revt, dk_rd2, dk_ty2, dk_mem1, dk_len0, z_tupl, z_tupt, z_listt, z_listl, z_in2, slots0, mVar, wipeS, pickBy, dk_rd0, dk_rd1, dk_ix0, dk_ix1, dk_ix2, dk_ne, dk_setn, dk_ty0, dk_ty1, Option.some.injEq, List.map_cons, List.map_nil, List.length_cons, List.length_nil, List.replicate_succ, List.replicate_zero, List.cons_append, List.nil_append, List.append_nil, List.getElem?_cons_zero, List.getElem?_cons_succ, List.set_cons_zero, List.set_cons_succ, List.zip_cons_cons, List.zip_nil_left, List.foldl_cons, List.foldl_nil, List.filterMap_cons, List.filterMap_nil, Nat.reduceSub, Nat.reduceAdd, Nat.reduceLT, Nat.reduceLeDiff, Nat.zero_add, Nat.add_zero, Nat.reduceEqDiff, decide_eq_true_eq, Bool.not_eq_true, Bool.not_true, Bool.not_false, Bool.not_not, ite_true, ite_false, if_true, if_false, reduceIte, Bool.false_eq_true, and_self, and_true, true_and, Int.reduceNeg, Int.reduceLT, Int.reduceLE, Int.reduceSub, Int.reduceAdd, Int.reduceMul, Int.reducePow, Int.reduceEq, Int.reduceNe, decide_true, decide_false, decide_not, Bool.and_true, Bool.true_and, Bool.or_true, Bool.true_or, ne_eq, not_true_eq_false, not_false_eq_true, Bool.and_self, false_and, and_false, reduceCtorEq, eq_self, beq_self_eq_true, List.set_nil, List.getElem?_nil, List.length_append, List.length_map, Bool.false_and, Bool.and_false, Bool.false_or, Bool.or_false, Int.cast_ofNat_Int, Int.reduceToNat, Int.zero_add, Int.add_zero]
    rw [hb]
    cases b with
    | true => exact e2
    | false => rfl
  generalize hV : List.replicate n stayD ++ o :: List.replicate m stayD = V at hlen e3 ⊢
  have hix : vIx (.d (boardD k rps cs ps)) (.d (.int 1)) (q.mem []) = .ok (.d (.tuple (ps.map Zm.pairD))) (q.mem []) := z_ixt1
  unfold b_orders_error
  have h2 : (V.length : Int) = ((ps.map Zm.pairD).length : Nat) := hlen
  rw [List.length_map] at h2
  simp only [z_bok, z_bsok, z_bbad, z_bsbad, z_seqbad, z_outbad, z_asgbad, small_fmod, small_lit, fits_le, smallR_lit, z_na64, z_bif, z_bsif, z_noer, z_seqn, z_seqr, z_seqif, z_outr, z_outn, z_outif, z_C, z_op, z_T, z_tand, z_tor, z_tnot, z_and, z_or, z_not, z_if, z_nil, z_cons, z_tup, z_lst, z_new, z_allD0, z_allD1, z_map, z_sNil, z_sSeq, z_sIf, z_sDrop, z_sRet, z_sAsg, z_asg, z_asgif, z_sPar, z_gN, z_gT, z_gsNil, z_gsCons, z_obind, z_gSet, z_B, z_It, z_Enum, z_R1, z_R2, z_r1, z_r2, z_Comp, z_For, z_Yes, z_M, z_Sl, z_oN, z_oS, z_Rev, z_Neg, z_IsI, z_call, z_callK, z_chain, z_body, z_rdd, z_rds, z_int, z_vI, z_vB, z_le, z_eqi, z_nei, z_nes, z_eqs, z_vInt, z_vI2, z_isN, z_notN, z_enumt, z_enuml, z_itl, z_itt, z_its, z_ixt0, z_ixt1, z_ixt2, z_lenl, z_lent, z_tyt, z_tyl, z_tyd, z_tyi, z_tyb, z_tys, z_tyn, isT_tt, isT_lt, isT_dt, isT_it, isT_bt, isT_st, isT_nt, isT_ti, isT_li, isT_di, isT_ii, isT_bi, isT_si, isT_ni, isT_tb, isT_lb, isT_db, isT_ib, isT_bb, isT_sb, isT_nb, isT_ts, isT_ls, isT_ds, isT_is, isT_bs, isT_ss, isT_ns, z_forn, z_mulx, z_lr1, z_lr1N, okR_le, dk_get, dk_set, dk_add, dk_ll, z_rdo, z_tyo, z_app, z_ext, z_star, z_lr2, z_listN, z_sqt, z_sql, z_leno, z_frz, fzL_d, z_lens, z_sls, z_sll, z_addl, z_addt, z_na10, z_dct0, z_disp, z_disp1, z_slt, z_revt, dk_rd2, dk_ty2, dk_mem1, dk_len0, z_tupl, z_tupt, z_listt, z_listl, z_in2, slots0, mVar, wipeS, pickBy, dk_rd0, dk_rd1, dk_ix0, dk_ix1, dk_ix2, dk_ne, dk_setn, dk_ty0, dk_ty1, Option.some.injEq, List.map_cons, List.map_nil, List.length_cons, List.length_nil, List.replicate_succ, List.replicate_zero, List.cons_append, List.nil_append, List.append_nil, List.getElem?_cons_zero, List.getElem?_cons_succ, List.set_cons_zero, List.set_cons_succ, List.zip_cons_cons, List.zip_nil_left, List.foldl_cons, List.foldl_nil, List.filterMap_cons, List.filterMap_nil, Nat.reduceSub, Nat.reduceAdd, Nat.reduceLT, Nat.reduceLeDiff, Nat.zero_add, Nat.add_zero, Nat.reduceEqDiff, decide_eq_true_eq, Bool.not_eq_true, Bool.not_true, Bool.not_false, Bool.not_not, ite_true, ite_false, if_true, if_false, reduceIte, Bool.false_eq_true, and_self, and_true, true_and, Int.reduceNeg, Int.reduceLT, Int.reduceLE, Int.reduceSub, Int.reduceAdd, Int.reduceMul, Int.reducePow, Int.reduceEq, Int.reduceNe, decide_true, decide_false, decide_not, Bool.and_true, Bool.true_and, Bool.or_true, Bool.true_or, ne_eq, not_true_eq_false, not_false_eq_true, Bool.and_self, false_and, and_false, reduceCtorEq, eq_self, beq_self_eq_true, List.set_nil, List.getElem?_nil, List.length_append, List.length_map, Bool.false_and, Bool.and_false, Bool.false_or, Bool.or_false, Int.cast_ofNat_Int, Int.reduceToNat, Int.zero_add, Int.add_zero, hix, h2, e3]
  cases b <;> simp only [z_bok, z_bsok, z_bbad, z_bsbad, z_seqbad, z_outbad, z_asgbad, small_fmod, small_lit, fits_le, smallR_lit, z_na64, z_bif, z_bsif, z_noer, z_seqn, z_seqr, z_seqif, z_outr, z_outn, z_outif, z_C, z_op, z_T, z_tand, z_tor, z_tnot, z_and, z_or, z_not, z_if, z_nil, z_cons, z_tup, z_lst, z_new, z_allD0, z_allD1, z_map, z_sNil, z_sSeq, z_sIf, z_sDrop, z_sRet, z_sAsg, z_asg, z_asgif, z_sPar, z_gN, z_gT, z_gsNil, z_gsCons, z_obind, z_gSet, z_B, z_It, z_Enum, z_R1, z_R2, z_r1, z_r2, z_Comp, z_For, z_Yes, z_M, z_Sl, z_oN, z_oS, z_Rev, z_Neg, z_IsI, z_call, z_callK, z_chain, z_body, z_rdd, z_rds, z_int, z_vI, z_vB, z_le, z_eqi, z_nei, z_nes, z_eqs, z_vInt, z_vI2, z_isN, z_notN, z_enumt, z_enuml, z_itl, z_itt, z_its, z_ixt0, z_ixt1, z_ixt2, z_lenl, z_lent, z_tyt, z_tyl, z_tyd, z_tyi, z_tyb, z_tys, z_tyn, isT_tt, isT_lt, isT_dt, isT_it, isT_bt, isT_st, isT_nt, isT_ti, isT_li, isT_di, isT_ii, isT_bi, isT_si, isT_ni, isT_tb, isT_lb, isT_db, isT_ib, isT_bb, isT_sb, isT_nb, isT_ts, isT_ls, isT_ds, isT_is, isT_bs, isT_ss, isT_ns, z_forn, z_mulx, z_lr1, z_lr1N, okR_le, dk_get, dk_set, dk_add, dk_ll, z_rdo, z_tyo, z_app, z_ext, z_star, z_lr2, z_listN, z_sqt, z_sql, z_leno, z_frz, fzL_d, z_lens, z_sls, z_sll, z_addl, z_addt, z_na10, z_dct0, z_disp, z_disp1, z_slt, z_revt, dk_rd2, dk_ty2, dk_mem1, dk_len0, z_tupl, z_tupt, z_listt, z_listl, z_in2, slots0, mVar, wipeS, pickBy, dk_rd0, dk_rd1, dk_ix0, dk_ix1, dk_ix2, dk_ne, dk_setn, dk_ty0, dk_ty1, Option.some.injEq, List.map_cons, List.map_nil, List.length_cons, List.length_nil, List.replicate_succ, List.replicate_zero, List.cons_append, List.nil_append, List.append_nil, List.getElem?_cons_zero, List.getElem?_cons_succ, List.set_cons_zero, List.set_cons_succ, List.zip_cons_cons, List.zip_nil_left, List.foldl_cons, List.foldl_nil, List.filterMap_cons, List.filterMap_nil, Nat.reduceSub, Nat.reduceAdd, Nat.reduceLT, Nat.reduceLeDiff, Nat.zero_add, Nat.add_zero, Nat.reduceEqDiff, decide_eq_true_eq, Bool.not_eq_true, Bool.not_true, Bool.not_false, Bool.not_not, ite_true, ite_false, if_true, if_false, reduceIte, Bool.false_eq_true, and_self, and_true, true_and, Int.reduceNeg, Int.reduceLT, Int.reduceLE, Int.reduceSub, Int.reduceAdd, Int.reduceMul, Int.reducePow, Int.reduceEq, Int.reduceNe, decide_true, decide_false, decide_not, Bool.and_true, Bool.true_and, Bool.or_true, Bool.true_or, ne_eq, not_true_eq_false, not_false_eq_true, Bool.and_self, false_and, and_false, reduceCtorEq, eq_self, beq_self_eq_true, List.set_nil, List.getElem?_nil, List.length_append, List.length_map, Bool.false_and, Bool.and_false, Bool.false_or, Bool.or_false, Int.cast_ofNat_Int, Int.reduceToNat, Int.zero_add, Int.add_zero]
end
end Zl
namespace Zl
open PySem PySem.Spec PyProof.Rows L2 Zm
theorem mixed_ok1 (q : Dk) (ws : List PyData) {ds : List PyData} (hl : Lay ds) (hn : ds.length ≤ 1000) : ∃ (q' : Dk) (es : List PyData), d_lmixed [.obj 1, .d (.list ds)] (q.mem [.lst (ws.map Val.d)]) = .ok (.d (.list es)) (q'.mem [.lst (ws.map Val.d)]) ∧ es.Perm ds := by
  obtain ⟨s', M', e, q', gs, rfl, rfl, hp⟩ := sWhile_inv (c := mT (mOp vNe (mVar 2) (mLst mNil))) (b := sDrop (mM "list" vAppend (mVar 3) (mCons (mM "list" vPop (mVar 2) (mCons (mCall 2 d_ldraw (mCons (mVar 0) (mCons (mB vLen (mCons (mVar 2) mNil)) mNil))) mNil)) mNil)))
    (fun k s M => ∃ (q : Dk) (rs gs : List PyData), rs.length = k ∧ s = [some (.obj 1), some (.d (.list ds)), some (.obj 3), some (.obj 4)] ∧ M = q.mem [.lst (ws.map Val.d), .lst (rs.map .d), .lst (gs.map .d)] ∧ (gs ++ rs).Perm ds)
    (fun s M => ∃ (q : Dk) (gs : List PyData), s = [some (.obj 1), some (.d (.list ds)), some (.obj 3), some (.obj 4)] ∧ M = q.mem [.lst (ws.map Val.d), .lst (([] : List PyData).map .d), .lst (gs.map .d)] ∧ gs.Perm ds) (by
      rintro k s M ⟨q, rs, gs, rfl, rfl, rfl, hp⟩
      have hlay : Lay rs := hl.sub fun x hx => hp.mem_iff.mp (List.mem_append.mpr (.inr hx))
      have hlen := hp.length_eq
      rw [List.length_append] at hlen
      have h1 := z_nelo (M := q.mem [.lst (ws.map Val.d), .lst (rs.map .d), .lst (gs.map .d)]) (i := 3) (ds := rs) rfl hlay.shaped
      have c1 : mT (mOp vNe (mVar 2) (mLst mNil)) [some (.obj 1), some (.d (.list ds)), some (.obj 3), some (.obj 4)] (q.mem [.lst (ws.map Val.d), .lst (rs.map .d), .lst (gs.map .d)]) = .ok (!rs.isEmpty) (q.mem [.lst (ws.map Val.d), .lst (rs.map .d), .lst (gs.map .d)]) := by
        simp only [z_bok, z_bsok, z_bbad, z_bsbad, z_seqbad, z_outbad, z_asgbad, small_fmod, small_lit, fits_le, smallR_lit, z_na64, z_bif, z_bsif, z_noer, z_seqn, z_seqr, z_seqif, z_outr, z_outn, z_outif, z_C, z_op, z_T, z_tand, z_tor, z_tnot, z_and, z_or, z_not, z_if, z_nil, z_cons, z_tup, z_lst, z_new, z_allD0, z_allD1, z_map, z_sNil, z_sSeq, z_sIf, z_sDrop, z_sRet, z_sAsg, z_asg, z_asgif, z_sPar, z_gN, z_gT, z_gsNil, z_gsCons, z_obind, z_gSet, z_B, z_It, z_Enum, z_R1, z_R2, z_r1, z_r2, z_Comp, z_For, z_Yes, z_M, z_Sl, z_oN, z_oS, z_Rev, z_Neg, z_IsI, z_call, z_callK, z_chain, z_body, z_rdd, z_rds, z_int, z_vI, z_vB, z_le, z_eqi, z_nei, z_nes, z_eqs, z_vInt, z_vI2, z_isN, z_notN, z_enumt, z_enuml, z_itl, z_itt, z_its, z_ixt0, z_ixt1, z_ixt2, z_lenl, z_lent, z_tyt, z_tyl, z_tyd, z_tyi, z_tyb, z_tys, z_tyn, isT_tt, isT_lt, isT_dt, isT_it, isT_bt, isT_st, isT_nt, isT_ti, isT_li, isT_di, isT_ii, isT_bi, isT_si, isT_ni, isT_tb, isT_lb, isT_db, isT_ib, isT_bb, isT_sb, isT_nb, isT_ts, isT_ls, isT_ds, isT_is, isT_bs, isT_ss, isT_ns, z_forn, z_mulx, z_lr1, z_lr1N, okR_le, dk_get, dk_set, dk_add, dk_ll, z_rdo, z_tyo, z_app, z_ext, z_star, z_lr2, z_listN, z_sqt, z_sql, z_leno, z_frz, fzL_d, z_lens, z_sls, z_sll, z_addl, z_addt, z_na10, z_dct0, z_disp, z_disp1, z_slt, z_revt, dk_rd2, dk_ty2, dk_mem1, dk_len0, z_tupl, z_tupt, z_listt, z_listl, z_in2, slots0, mVar, wipeS, pickBy, dk_rd0, dk_rd1, dk_ix0, dk_ix1, dk_ix2, dk_ne, dk_setn, dk_ty0, dk_ty1, Option.some.injEq, List.map_cons, List.map_nil, List.length_cons, List.length_nil, List.replicate_succ, List.replicate_zero, List.cons_append, List.nil_append, List.append_nil, List.getElem?_cons_zero, List.getElem?_cons_succ, List.set_cons_zero, List.set_cons_succ, List.zip_cons_cons, List.zip_nil_left, List.foldl_cons, List.foldl_nil, List.filterMap_cons, List.filterMap_nil, Nat.reduceSub, Nat.reduceAdd, Nat.reduceLT, Nat.reduceLeDiff, Nat.zero_add, Nat.add_zero, Nat.reduceEqDiff, decide_eq_true_eq, Bool.not_eq_true, Bool.not_true, Bool.not_false, Bool.not_not, ite_true, ite_false, if_true, if_false, reduceIte, Bool.false_eq_true, and_self, and_true, true_and, Int.reduceNeg, Int.reduceLT, Int.reduceLE, Int.reduceSub, Int.reduceAdd, Int.reduceMul, Int.reducePow, Int.reduceEq, Int.reduceNe, decide_true, decide_false, decide_not, Bool.and_true, Bool.true_and, Bool.or_true, Bool.true_or, ne_eq, not_true_eq_false, not_false_eq_true, Bool.and_self, false_and, and_false, reduceCtorEq, eq_self, beq_self_eq_true, List.set_nil, List.getElem?_nil, List.length_append, List.length_map, Bool.false_and, Bool.and_false, Bool.false_or, Bool.or_false, Int.cast_ofNat_Int, Int.reduceToNat, Int.zero_add, Int.add_zero, h1]
      refine ⟨_, _, c1, ?_⟩
      cases rs with
      | nil =>
        rw [if_neg (by decide)]
        exact ⟨q, gs, rfl, rfl, by rw [List.append_nil] at hp; exact hp⟩
      | cons a as =>
        rw [if_pos (show (!(a :: as).isEmpty) = true from rfl)]
        obtain ⟨r, q2, e2, a2, b2⟩ := draw_ok q [.lst (ws.map Val.d), .lst ((a :: as).map .d), .lst (gs.map .d)] (m := ((a :: as).length : Nat)) (by rw [List.length_cons]; omega) (by omega)
        have hr : r.toNat < (a :: as).length := by omega
        have hx : (a :: as)[r.toNat]? = some ((a :: as)[r.toNat]) := List.getElem?_eq_getElem hr
        generalize ((a :: as)[r.toNat]) = x at hx
        have e3 := z_popk (M := q2.mem [.lst (ws.map Val.d), .lst ((a :: as).map .d), .lst (gs.map .d)]) (i := 3) (ds := a :: as) (k := r) rfl a2 (by omega) hx
        have hpe := perm_erase hx
        have hle := hpe.length_eq
        simp only [List.length_cons] at hle
        have hg : gs.length < 16777216 := by omega
        rw [show q2.mem [.lst (ws.map Val.d), .lst ((a :: as).map .d), .lst (gs.map .d)] = q2.mem [.lst (ws.map Val.d), .lst (.d a :: as.map .d), .lst (gs.map .d)] from rfl] at e2 e3
        rw [show q.mem [.lst (ws.map Val.d), .lst ((a :: as).map .d), .lst (gs.map .d)] = q.mem [.lst (ws.map Val.d), .lst (.d a :: as.map .d), .lst (gs.map .d)] from rfl] at e2
        simp only [List.length_cons] at e2
        simp only [z_bok, z_bsok, z_bbad, z_bsbad, z_seqbad, z_outbad, z_asgbad, small_fmod, small_lit, fits_le, smallR_lit, z_na64, z_bif, z_bsif, z_noer, z_seqn, z_seqr, z_seqif, z_outr, z_outn, z_outif, z_C, z_op, z_T, z_tand, z_tor, z_tnot, z_and, z_or, z_not, z_if, z_nil, z_cons, z_tup, z_lst, z_new, z_allD0, z_allD1, z_map, z_sNil, z_sSeq, z_sIf, z_sDrop, z_sRet, z_sAsg, z_asg, z_asgif, z_sPar, z_gN, z_gT, z_gsNil, z_gsCons, z_obind, z_gSet, z_B, z_It, z_Enum, z_R1, z_R2, z_r1, z_r2, z_Comp, z_For, z_Yes, z_M, z_Sl, z_oN, z_oS, z_Rev, z_Neg, z_IsI, z_call, z_callK, z_chain, z_body, z_rdd, z_rds, z_int, z_vI, z_vB, z_le, z_eqi, z_nei, z_nes, z_eqs, z_vInt, z_vI2, z_isN, z_notN, z_enumt, z_enuml, z_itl, z_itt, z_its, z_ixt0, z_ixt1, z_ixt2, z_lenl, z_lent, z_tyt, z_tyl, z_tyd, z_tyi, z_tyb, z_tys, z_tyn, isT_tt, isT_lt, isT_dt, isT_it, isT_bt, isT_st, isT_nt, isT_ti, isT_li, isT_di, isT_ii, isT_bi, isT_si, isT_ni, isT_tb, isT_lb, isT_db, isT_ib, isT_bb, isT_sb, isT_nb, isT_ts, isT_ls, isT_ds, isT_is, isT_bs, isT_ss, isT_ns, z_forn, z_mulx, z_lr1, z_lr1N, okR_le, dk_get, dk_set, dk_add, dk_ll, z_rdo, z_tyo, z_app, z_ext, z_star, z_lr2, z_listN, z_sqt, z_sql, z_leno, z_frz, fzL_d, z_lens, z_sls, z_sll, z_addl, z_addt, z_na10, z_dct0, z_disp, z_disp1, z_slt, z_revt, dk_rd2, dk_ty2, dk_mem1, dk_len0, z_tupl, z_tupt, z_listt, z_listl, z_in2, slots0, mVar, wipeS, pickBy, dk_rd0, dk_rd1, dk_ix0, dk_ix1, dk_ix2, dk_ne, dk_setn, dk_ty0, dk_ty1, Option.some.injEq, List.map_cons, List.map_nil, List.length_cons, List.length_nil, List.replicate_succ, List.replicate_zero, List.cons_append, List.nil_append, List.append_nil, List.getElem?_cons_zero, List.getElem?_cons_succ, List.set_cons_zero, List.set_cons_succ, List.zip_cons_cons, List.zip_nil_left, List.foldl_cons, List.foldl_nil, List.filterMap_cons, List.filterMap_nil, Nat.reduceSub, Nat.reduceAdd, Nat.reduceLT, Nat.reduceLeDiff, Nat.zero_add, Nat.add_zero, Nat.reduceEqDiff, decide_eq_true_eq, Bool.not_eq_true, Bool.not_true, Bool.not_false, Bool.not_not, ite_true, ite_false, if_true, if_false, reduceIte, Bool.false_eq_true, and_self, and_true, true_and, Int.reduceNeg, Int.reduceLT, Int.reduceLE, Int.reduceSub, Int.reduceAdd, Int.reduceMul, Int.reducePow, Int.reduceEq, Int.reduceNe, decide_true, decide_false, decide_not, Bool.and_true, Bool.true_and, Bool.or_true, Bool.true_or, ne_eq, not_true_eq_false, not_false_eq_true, Bool.and_self, false_and, and_false, reduceCtorEq, eq_self, beq_self_eq_true, List.set_nil, List.getElem?_nil, List.length_append, List.length_map, Bool.false_and, Bool.and_false, Bool.false_or, Bool.or_false, Int.cast_ofNat_Int, Int.reduceToNat, Int.zero_add, Int.add_zero, e2, e3, hg]
        refine ⟨_, _, rfl, ((a :: as).eraseIdx r.toNat).length, by omega, q2, _, gs ++ [x], rfl, rfl, by rw [List.map_append]; rfl, ?_⟩
        rw [List.append_assoc]
        exact (List.Perm.append_left gs hpe).trans hp) ds.length [some (.obj 1), some (.d (.list ds)), some (.obj 3), some (.obj 4)] (q.mem [.lst (ws.map Val.d), .lst (ds.map .d), .lst []]) ⟨q, ds, [], rfl, rfl, rfl, .refl _⟩
  refine ⟨q', gs, z_trimc (R := [.lst [], .frz (.list gs)]) ?_ rfl (dk_below1 (Nat.succ_pos _)), hp⟩
  unfold b_lmixed
  simp only [z_bok, z_bsok, z_bbad, z_bsbad, z_seqbad, z_outbad, z_asgbad, small_fmod, small_lit, fits_le, smallR_lit, z_na64, z_bif, z_bsif, z_noer, z_seqn, z_seqr, z_seqif, z_outr, z_outn, z_outif, z_C, z_op, z_T, z_tand, z_tor, z_tnot, z_and, z_or, z_not, z_if, z_nil, z_cons, z_tup, z_lst, z_new, z_allD0, z_allD1, z_map, z_sNil, z_sSeq, z_sIf, z_sDrop, z_sRet, z_sAsg, z_asg, z_asgif, z_sPar, z_gN, z_gT, z_gsNil, z_gsCons, z_obind, z_gSet, z_B, z_It, z_Enum, z_R1, z_R2, z_r1, z_r2, z_Comp, z_For, z_Yes, z_M, z_Sl, z_oN, z_oS, z_Rev, z_Neg, z_IsI, z_call, z_callK, z_chain, z_body, z_rdd, z_rds, z_int, z_vI, z_vB, z_le, z_eqi, z_nei, z_nes, z_eqs, z_vInt, z_vI2, z_isN, z_notN, z_enumt, z_enuml, z_itl, z_itt, z_its, z_ixt0, z_ixt1, z_ixt2, z_lenl, z_lent, z_tyt, z_tyl, z_tyd, z_tyi, z_tyb, z_tys, z_tyn, isT_tt, isT_lt, isT_dt, isT_it, isT_bt, isT_st, isT_nt, isT_ti, isT_li, isT_di, isT_ii, isT_bi, isT_si, isT_ni, isT_tb, isT_lb, isT_db, isT_ib, isT_bb, isT_sb, isT_nb, isT_ts, isT_ls, isT_ds, isT_is, isT_bs, isT_ss, isT_ns, z_forn, z_mulx, z_lr1, z_lr1N, okR_le, dk_get, dk_set, dk_add, dk_ll, z_rdo, z_tyo, z_app, z_ext, z_star, z_lr2, z_listN, z_sqt, z_sql, z_leno, z_frz, fzL_d, z_lens, z_sls, z_sll, z_addl, z_addt, z_na10, z_dct0, z_disp, z_disp1, z_slt, z_revt, dk_rd2, dk_ty2, dk_mem1, dk_len0, z_tupl, z_tupt, z_listt, z_listl, z_in2, slots0, mVar, wipeS, pickBy, dk_rd0, dk_rd1, dk_ix0, dk_ix1, dk_ix2, dk_ne, dk_setn, dk_ty0, dk_ty1, Option.some.injEq, List.map_cons, List.map_nil, List.length_cons, List.length_nil, List.replicate_succ, List.replicate_zero, List.cons_append, List.nil_append, List.append_nil, List.getElem?_cons_zero, List.getElem?_cons_succ, List.set_cons_zero, List.set_cons_succ, List.zip_cons_cons, List.zip_nil_left, List.foldl_cons, List.foldl_nil, List.filterMap_cons, List.filterMap_nil, Nat.reduceSub, Nat.reduceAdd, Nat.reduceLT, Nat.reduceLeDiff, Nat.zero_add, Nat.add_zero, Nat.reduceEqDiff, decide_eq_true_eq, Bool.not_eq_true, Bool.not_true, Bool.not_false, Bool.not_not, ite_true, ite_false, if_true, if_false, reduceIte, Bool.false_eq_true, and_self, and_true, true_and, Int.reduceNeg, Int.reduceLT, Int.reduceLE, Int.reduceSub, Int.reduceAdd, Int.reduceMul, Int.reducePow, Int.reduceEq, Int.reduceNe, decide_true, decide_false, decide_not, Bool.and_true, Bool.true_and, Bool.or_true, Bool.true_or, ne_eq, not_true_eq_false, not_false_eq_true, Bool.and_self, false_and, and_false, reduceCtorEq, eq_self, beq_self_eq_true, List.set_nil, List.getElem?_nil, List.length_append, List.length_map, Bool.false_and, Bool.and_false, Bool.false_or, Bool.or_false, Int.cast_ofNat_Int, Int.reduceToNat, Int.zero_add, Int.add_zero, e]
end Zl
namespace Zl
open PySem PySem.Spec PyProof.Rows L2 Zm
/-! ### drawn boards -/
structure GoodB (rps ps : List (Int × Int)) (cl : List PyData) : Prop where
  rl : rps.length ≤ 240
  rs : ∀ p ∈ rps, smallP p
  pl : ps.length ≤ 16
  pp : 0 < ps.length
  pa : AscP ps
  pz : ∀ p ∈ ps, p.1.natAbs < 256 ∧ p.2.natAbs < 256
  cz : SzL 1 216 cl
theorem nb_small {rps : List (Int × Int)} (h : ∀ p ∈ rps, smallP p) (f : Int) : ∀ g ∈ nb rps f, g.natAbs < 256 := by
  intro g hg
  have hg := (sortI_perm _).mem_iff.mp hg
  obtain ⟨p, hp, rfl⟩ := List.mem_map.mp hg
  obtain ⟨hp, hh⟩ := List.mem_filter.mp hp
  obtain ⟨a, b⟩ := h p hp
  unfold hitP hit at hh
  unfold sumP
  rw [Bool.or_eq_true, Bool.or_false, beq_iff_eq, beq_iff_eq] at hh
  rcases hh with hh | hh
  · rw [show p.1 + p.2 - f = p.2 by omega]; exact b
  · rw [show p.1 + p.2 - f = p.1 by omega]; exact a
theorem pairs_sz : ∀ {ps : List (Int × Int)}, (∀ p ∈ ps, p.1.natAbs < 256 ∧ p.2.natAbs < 256) → SzE 1 18 (ps.map Zm.pairD) := fun {ps} h x hx => by
  obtain ⟨p, hp, rfl⟩ := List.mem_map.mp hx
  exact (Sz.t2 (.i8 (h p hp).1) (.i8 (h p hp).2)).mono
theorem GoodB.sz {k : Int} {rps ps : List (Int × Int)} {cl : List PyData} (h : GoodB rps ps cl) (hk : k.natAbs < 256) : Sz 4 6000 (boardD k rps (.tuple cl) ps) := by
  have a : SzL 1 (240 * 19) (rps.map Zm.pairD) := SzL.ofE (pairs_sz h.rs) (by rw [List.length_map]; exact h.rl)
  have b : SzL 1 (16 * 19) (ps.map Zm.pairD) := SzL.ofE (pairs_sz h.pz) (by rw [List.length_map]; exact h.pl)
  exact (Sz.t2 (Sz.t3 (.i8 hk) (.tup a) (.tup h.cz)) (.tup b)).mono
theorem ordL_szS {rps ps : List (Int × Int)} {cl : List PyData} (h : GoodB rps ps cl) (h1 : rps.length ≤ 28) (own : Int) : SzL 1 20000 (ordL rps ps own) := by
  have a : SzE 1 40 (ordL rps ps own) := fun y hy => (ordL_tr (nb_small h.rs) (fun p hp => (h.pz p hp).1) y hy).sz
  have l1 := nb_len rps own
  have l2 : (bks rps own (ps.map (·.1))).length ≤ 16 * 28 := by
    unfold bks
    have h2 : ((ps.map (·.1)).filter fun f => !decide (f = own)).length ≤ 16 := Nat.le_trans (List.length_filter_le _ _) (by rw [List.length_map]; exact h.pl)
    generalize ((ps.map (·.1)).filter fun f => !decide (f = own)) = l at h2
    have : ∀ l : List Int, (l.flatMap (bk1 rps own)).length ≤ l.length * 28 := fun l => by
      induction l with
      | nil => exact Nat.le_refl _
      | cons f l ih =>
        rw [List.flatMap_cons, List.length_append, List.length_cons, Nat.succ_mul]
        have hb : (bk1 rps own f).length ≤ 28 := by
          unfold bk1
          rw [List.length_map]
          exact Nat.le_trans (List.length_filter_le _ _) (Nat.le_trans l1 h1)
        omega
    have := this l
    omega
  refine (SzL.ofE (n := 480) a ?_).mono
  unfold ordL
  rw [List.length_cons, List.length_append, List.length_map, List.length_map]
  omega
theorem ordL_szL {rps ps : List (Int × Int)} {cl : List PyData} (h : GoodB rps ps cl) (own : Int) : SzL 1 170000 (ordL rps ps own) := by
  have a : SzE 1 40 (ordL rps ps own) := fun y hy => (ordL_tr (nb_small h.rs) (fun p hp => (h.pz p hp).1) y hy).sz
  have l1 := nb_len rps own
  have h1 := h.rl
  have l2 : (bks rps own (ps.map (·.1))).length ≤ 16 * 240 := by
    unfold bks
    have h2 : ((ps.map (·.1)).filter fun f => !decide (f = own)).length ≤ 16 := Nat.le_trans (List.length_filter_le _ _) (by rw [List.length_map]; exact h.pl)
    generalize ((ps.map (·.1)).filter fun f => !decide (f = own)) = l at h2
    have : ∀ l : List Int, (l.flatMap (bk1 rps own)).length ≤ l.length * 240 := fun l => by
      induction l with
      | nil => exact Nat.le_refl _
      | cons f l ih =>
        rw [List.flatMap_cons, List.length_append, List.length_cons, Nat.succ_mul]
        have hb : (bk1 rps own f).length ≤ 240 := by
          unfold bk1
          rw [List.length_map]
          exact Nat.le_trans (List.length_filter_le _ _) (Nat.le_trans l1 h1)
        omega
    have := this l
    omega
  refine (SzL.ofE (n := 4100) a ?_).mono
  unfold ordL
  rw [List.length_cons, List.length_append, List.length_map, List.length_map]
  omega
theorem board_ok (q : Dk) {k many : Int} (h1 : 1 ≤ k) (h2 : k ≤ 24) (h3 : 1 ≤ many) (h4 : many ≤ 16) : ∃ (q' : Dk) (rps ps : List (Int × Int)) (cl : List PyData),
    d_lboard [.obj 1, .d (.int k), .d (.int many)] (q.mem []) = .ok (.d (boardD k rps (.tuple cl) ps)) (q'.mem []) ∧ GoodB rps ps cl ∧ rps.length ≤ 28 := by
  obtain ⟨r, q1, e1, a1, b1⟩ := draw_ok q [] (m := 4) (by decide) (by decide)
  obtain ⟨q2, rps, cl, e2, hl, hp, hcl, hcs⟩ := chart_ok q1 (more := 1 + r) h1 h2 (by omega) (by omega)
  obtain ⟨q3, ps, e3, g1, g2, g3, g4⟩ := pieces_ok q2 (cr := [.tuple (rps.map Zm.pairD), .tuple cl]) h1 h2 h3 h4
  refine ⟨q3, rps, ps, cl, z_trim ?_ rfl, ⟨by omega, hp, g1, g2, g3, g4, (SzL.ofE (n := 24) (k := 1) (w := 8) (fun x hx => by obtain ⟨i, rfl, hi⟩ := hcs x hx; exact (Sz.i8 hi).mono) hcl).mono⟩, hl⟩
  unfold b_lboard boardD chartD
  simp only [z_bok, z_bsok, z_bbad, z_bsbad, z_seqbad, z_outbad, z_asgbad, small_fmod, small_lit, fits_le, smallR_lit, z_na64, z_bif, z_bsif, z_noer, z_seqn, z_seqr, z_seqif, z_outr, z_outn, z_outif, z_C, z_op, z_T, z_tand, z_tor, z_tnot, z_and, z_or, z_not, z_if, z_nil, z_cons, z_tup, z_lst, z_new, z_allD0, z_allD1, z_map, z_sNil, z_sSeq, z_sIf, z_sDrop, z_sRet, z_sAsg, z_asg, z_asgif, z_sPar, z_gN, z_gT, z_gsNil, z_gsCons, z_obind, z_gSet, z_B, z_It, z_Enum, z_R1, z_R2, z_r1, z_r2, z_Comp, z_For, z_Yes, z_M, z_Sl, z_oN, z_oS, z_Rev, z_Neg, z_IsI, z_call, z_callK, z_chain, z_body, z_rdd, z_rds, z_int, z_vI, z_vB, z_le, z_eqi, z_nei, z_nes, z_eqs, z_vInt, z_vI2, z_isN, z_notN, z_enumt, z_enuml, z_itl, z_itt, z_its, z_ixt0, z_ixt1, z_ixt2, z_lenl, z_lent, z_tyt, z_tyl, z_tyd, z_tyi, z_tyb, z_tys, z_tyn, isT_tt, isT_lt, isT_dt, isT_it, isT_bt, isT_st, isT_nt, isT_ti, isT_li, isT_di, isT_ii, isT_bi, isT_si, isT_ni, isT_tb, isT_lb, isT_db, isT_ib, isT_bb, isT_sb, isT_nb, isT_ts, isT_ls, isT_ds, isT_is, isT_bs, isT_ss, isT_ns, z_forn, z_mulx, z_lr1, z_lr1N, okR_le, dk_get, dk_set, dk_add, dk_ll, z_rdo, z_tyo, z_app, z_ext, z_star, z_lr2, z_listN, z_sqt, z_sql, z_leno, z_frz, fzL_d, z_lens, z_sls, z_sll, z_addl, z_addt, z_na10, z_dct0, z_disp, z_disp1, z_slt, z_revt, dk_rd2, dk_ty2, dk_mem1, dk_len0, z_tupl, z_tupt, z_listt, z_listl, z_in2, slots0, mVar, wipeS, pickBy, dk_rd0, dk_rd1, dk_ix0, dk_ix1, dk_ix2, dk_ne, dk_setn, dk_ty0, dk_ty1, Option.some.injEq, List.map_cons, List.map_nil, List.length_cons, List.length_nil, List.replicate_succ, List.replicate_zero, List.cons_append, List.nil_append, List.append_nil, List.getElem?_cons_zero, List.getElem?_cons_succ, List.set_cons_zero, List.set_cons_succ, List.zip_cons_cons, List.zip_nil_left, List.foldl_cons, List.foldl_nil, List.filterMap_cons, List.filterMap_nil, Nat.reduceSub, Nat.reduceAdd, Nat.reduceLT, Nat.reduceLeDiff, Nat.zero_add, Nat.add_zero, Nat.reduceEqDiff, decide_eq_true_eq, Bool.not_eq_true, Bool.not_true, Bool.not_false, Bool.not_not, ite_true, ite_false, if_true, if_false, reduceIte, Bool.false_eq_true, and_self, and_true, true_and, Int.reduceNeg, Int.reduceLT, Int.reduceLE, Int.reduceSub, Int.reduceAdd, Int.reduceMul, Int.reducePow, Int.reduceEq, Int.reduceNe, decide_true, decide_false, decide_not, Bool.and_true, Bool.true_and, Bool.or_true, Bool.true_or, ne_eq, not_true_eq_false, not_false_eq_true, Bool.and_self, false_and, and_false, reduceCtorEq, eq_self, beq_self_eq_true, List.set_nil, List.getElem?_nil, List.length_append, List.length_map, Bool.false_and, Bool.and_false, Bool.false_or, Bool.or_false, Int.cast_ofNat_Int, Int.reduceToNat, Int.zero_add, Int.add_zero, e1, e2, e3]
theorem pair_comp1 {ws : List PyData} {g : GM} {e : EM} {s0 : Sl} (h : ∀ (i : Int) (q : Dk), ∃ (s1 : Sl) (j : Int) (q' : Dk), g (.d (.int i)) s0 (q.mem [.lst (ws.map Val.d)]) = some (s1, q.mem [.lst (ws.map Val.d)]) ∧ e s1 (q.mem [.lst (ws.map Val.d)]) = .ok (.d (.tuple [.int i, .int j])) (q'.mem [.lst (ws.map Val.d)]) ∧ j.natAbs < 256) : ∀ (ns : List Int) (q : Dk),
    ∃ (q' : Dk) (ps : List (Int × Int)), compL g mYes e s0 ((ns.map PyData.int).map .d) (q.mem [.lst (ws.map Val.d)]) = .ok ((ps.map Zm.pairD).map .d) (q'.mem [.lst (ws.map Val.d)]) ∧ ps.map (·.1) = ns ∧ ∀ p ∈ ps, p.2.natAbs < 256
  | [], q => ⟨q, [], rfl, rfl, fun _ h => by cases h⟩
  | n :: ns, q => by
    obtain ⟨s1, j, q1, hg, he, hj⟩ := h n q
    obtain ⟨q2, ps, e2, h2, h3⟩ := pair_comp1 h ns q1
    refine ⟨q2, (n, j) :: ps, ?_, by rw [List.map_cons, h2], fun p hp => by rcases List.mem_cons.mp hp with rfl | hp; exact hj; exact h3 p hp⟩
    rw [List.map_cons, List.map_cons, compL_consT hg rfl he, e2]
    rfl
theorem wide_ok (q : Dk) : ∃ (q' : Dk) (k : Int) (rps ps : List (Int × Int)), d_lwide_board [.obj 1] (q.mem []) = .ok (.d (boardD k rps (.tuple []) ps)) (q'.mem []) ∧ GoodB rps ps [] := by
  obtain ⟨r, q1, e1, a1, b1⟩ := draw_ok q [] (m := 5) (by decide) (by decide)
  generalize hk : 12 + r = k
  have k1 : 12 ≤ k := by omega
  have k2 : k ≤ 16 := by omega
  obtain ⟨s2, M2, e2, q2, ps2, x2, y2, rfl, rfl, hl2, hp2⟩ := forL_cnt (g := g1_lwide_board) (b := l1_lwide_board) (fun t s M => ∃ (q : Dk) (ps : List (Int × Int)) (x y : Option Val), s = [some (.obj 1), some (.d (.int k)), some (.obj 2), x, none, y, none] ∧
      M = q.mem [.lst ((ps.map Zm.pairD).map .d)] ∧ ps.length ≤ 15 * t ∧ ∀ p ∈ ps, smallP p) 16 (rangeL 0 k.toNat) 0 (by rw [rangeL_len]; omega)
    (by
      rintro v hv t s M ht ⟨q, ps, x, y, rfl, rfl, hl, hp⟩
      obtain ⟨b, rfl, hb1, hb2⟩ := rangeL_mem hv
      refine ⟨_, _, rfl, ?_⟩
      obtain ⟨s3, M3, e3, q3, ps3, y3, rfl, rfl, hl3, hp3⟩ := forL_cnt (g := g2_lwide_board) (b := l2_lwide_board) (fun t s M => ∃ (q : Dk) (ps : List (Int × Int)) (y : Option Val), s = [some (.obj 1), some (.d (.int k)), some (.obj 2), some (.d (.int b)), none, y, none] ∧
          M = q.mem [.lst ((ps.map Zm.pairD).map .d)] ∧ ps.length ≤ t ∧ ∀ p ∈ ps, smallP p) 1000 (rangeL 0 b.toNat) ps.length (by rw [rangeL_len]; omega)
        (by
          rintro v hv t s M ht ⟨q, ps, y, rfl, rfl, hl, hp⟩
          obtain ⟨a, rfl, ha1, ha2⟩ := rangeL_mem hv
          refine ⟨_, _, rfl, ?_⟩
          obtain ⟨r1, q1, e1, a1, b1⟩ := draw_ok q [.lst ((ps.map Zm.pairD).map .d)] (m := 6) (by decide) (by decide)
          unfold l2_lwide_board
          by_cases hr : 0 < r1
          · simp only [z_bok, z_bsok, z_bbad, z_bsbad, z_seqbad, z_outbad, z_asgbad, small_fmod, small_lit, fits_le, smallR_lit, z_na64, z_bif, z_bsif, z_noer, z_seqn, z_seqr, z_seqif, z_outr, z_outn, z_outif, z_C, z_op, z_T, z_tand, z_tor, z_tnot, z_and, z_or, z_not, z_if, z_nil, z_cons, z_tup, z_lst, z_new, z_allD0, z_allD1, z_map, z_sNil, z_sSeq, z_sIf, z_sDrop, z_sRet, z_sAsg, z_asg, z_asgif, z_sPar, z_gN, z_gT, z_gsNil, z_gsCons, z_obind, z_gSet, z_B, z_It, z_Enum, z_R1, z_R2, z_r1, z_r2, z_Comp, z_For, z_Yes, z_M, z_Sl, z_oN, z_oS, z_Rev, z_Neg, z_IsI, z_call, z_callK, z_chain, z_body, z_rdd, z_rds, z_int, z_vI, z_vB, z_le, z_eqi, z_nei, z_nes, z_eqs, z_vInt, z_vI2, z_isN, z_notN, z_enumt, z_enuml, z_itl, z_itt, z_its, z_ixt0, z_ixt1, z_ixt2, z_lenl, z_lent, z_tyt, z_tyl, z_tyd, z_tyi, z_tyb, z_tys, z_tyn, isT_tt, isT_lt, isT_dt, isT_it, isT_bt, isT_st, isT_nt, isT_ti, isT_li, isT_di, isT_ii, isT_bi, isT_si, isT_ni, isT_tb, isT_lb, isT_db, isT_ib, isT_bb, isT_sb, isT_nb, isT_ts, isT_ls, isT_ds, isT_is, isT_bs, isT_ss, isT_ns, z_forn, z_mulx, z_lr1, z_lr1N, okR_le, dk_get, dk_set, dk_add, dk_ll, z_rdo, z_tyo, z_app, z_ext, z_star, z_lr2, z_listN, z_sqt, z_sql, z_leno, z_frz, fzL_d, z_lens, z_sls, z_sll, z_addl, z_addt, z_na10, z_dct0, z_disp, z_disp1, z_slt, z_revt, dk_rd2, dk_ty2, dk_mem1, dk_len0, z_tupl, z_tupt, z_listt, z_listl, z_in2, slots0, mVar, wipeS, pickBy, dk_rd0, dk_rd1, dk_ix0, dk_ix1, dk_ix2, dk_ne, dk_setn, dk_ty0, dk_ty1, Option.some.injEq, List.map_cons, List.map_nil, List.length_cons, List.length_nil, List.replicate_succ, List.replicate_zero, List.cons_append, List.nil_append, List.append_nil, List.getElem?_cons_zero, List.getElem?_cons_succ, List.set_cons_zero, List.set_cons_succ, List.zip_cons_cons, List.zip_nil_left, List.foldl_cons, List.foldl_nil, List.filterMap_cons, List.filterMap_nil, Nat.reduceSub, Nat.reduceAdd, Nat.reduceLT, Nat.reduceLeDiff, Nat.zero_add, Nat.add_zero, Nat.reduceEqDiff, decide_eq_true_eq, Bool.not_eq_true, Bool.not_true, Bool.not_false, Bool.not_not, ite_true, ite_false, if_true, if_false, reduceIte, Bool.false_eq_true, and_self, and_true, true_and, Int.reduceNeg, Int.reduceLT, Int.reduceLE, Int.reduceSub, Int.reduceAdd, Int.reduceMul, Int.reducePow, Int.reduceEq, Int.reduceNe, decide_true, decide_false, decide_not, Bool.and_true, Bool.true_and, Bool.or_true, Bool.true_or, ne_eq, not_true_eq_false, not_false_eq_true, Bool.and_self, false_and, and_false, reduceCtorEq, eq_self, beq_self_eq_true, List.set_nil, List.getElem?_nil, List.length_append, List.length_map, Bool.false_and, Bool.and_false, Bool.false_or, Bool.or_false, Int.cast_ofNat_Int, Int.reduceToNat, Int.zero_add, Int.add_zero, e1, hr, show ps.length < 16777216 by omega]
            rw [snoc_pairs]
            exact ⟨_, _, rfl, q1, _, _, rfl, rfl, by rw [List.length_append, List.length_singleton]; omega, snoc_small hp (by omega) (by omega)⟩
          · simp only [z_bok, z_bsok, z_bbad, z_bsbad, z_seqbad, z_outbad, z_asgbad, small_fmod, small_lit, fits_le, smallR_lit, z_na64, z_bif, z_bsif, z_noer, z_seqn, z_seqr, z_seqif, z_outr, z_outn, z_outif, z_C, z_op, z_T, z_tand, z_tor, z_tnot, z_and, z_or, z_not, z_if, z_nil, z_cons, z_tup, z_lst, z_new, z_allD0, z_allD1, z_map, z_sNil, z_sSeq, z_sIf, z_sDrop, z_sRet, z_sAsg, z_asg, z_asgif, z_sPar, z_gN, z_gT, z_gsNil, z_gsCons, z_obind, z_gSet, z_B, z_It, z_Enum, z_R1, z_R2, z_r1, z_r2, z_Comp, z_For, z_Yes, z_M, z_Sl, z_oN, z_oS, z_Rev, z_Neg, z_IsI, z_call, z_callK, z_chain, z_body, z_rdd, z_rds, z_int, z_vI, z_vB, z_le, z_eqi, z_nei, z_nes, z_eqs, z_vInt, z_vI2, z_isN, z_notN, z_enumt, z_enuml, z_itl, z_itt, z_its, z_ixt0, z_ixt1, z_ixt2, z_lenl, z_lent, z_tyt, z_tyl, z_tyd, z_tyi, z_tyb, z_tys, z_tyn, isT_tt, isT_lt, isT_dt, isT_it, isT_bt, isT_st, isT_nt, isT_ti, isT_li, isT_di, isT_ii, isT_bi, isT_si, isT_ni, isT_tb, isT_lb, isT_db, isT_ib, isT_bb, isT_sb, isT_nb, isT_ts, isT_ls, isT_ds, isT_is, isT_bs, isT_ss, isT_ns, z_forn, z_mulx, z_lr1, z_lr1N, okR_le, dk_get, dk_set, dk_add, dk_ll, z_rdo, z_tyo, z_app, z_ext, z_star, z_lr2, z_listN, z_sqt, z_sql, z_leno, z_frz, fzL_d, z_lens, z_sls, z_sll, z_addl, z_addt, z_na10, z_dct0, z_disp, z_disp1, z_slt, z_revt, dk_rd2, dk_ty2, dk_mem1, dk_len0, z_tupl, z_tupt, z_listt, z_listl, z_in2, slots0, mVar, wipeS, pickBy, dk_rd0, dk_rd1, dk_ix0, dk_ix1, dk_ix2, dk_ne, dk_setn, dk_ty0, dk_ty1, Option.some.injEq, List.map_cons, List.map_nil, List.length_cons, List.length_nil, List.replicate_succ, List.replicate_zero, List.cons_append, List.nil_append, List.append_nil, List.getElem?_cons_zero, List.getElem?_cons_succ, List.set_cons_zero, List.set_cons_succ, List.zip_cons_cons, List.zip_nil_left, List.foldl_cons, List.foldl_nil, List.filterMap_cons, List.filterMap_nil, Nat.reduceSub, Nat.reduceAdd, Nat.reduceLT, Nat.reduceLeDiff, Nat.zero_add, Nat.add_zero, Nat.reduceEqDiff, decide_eq_true_eq, Bool.not_eq_true, Bool.not_true, Bool.not_false, Bool.not_not, ite_true, ite_false, if_true, if_false, reduceIte, Bool.false_eq_true, and_self, and_true, true_and, Int.reduceNeg, Int.reduceLT, Int.reduceLE, Int.reduceSub, Int.reduceAdd, Int.reduceMul, Int.reducePow, Int.reduceEq, Int.reduceNe, decide_true, decide_false, decide_not, Bool.and_true, Bool.true_and, Bool.or_true, Bool.true_or, ne_eq, not_true_eq_false, not_false_eq_true, Bool.and_self, false_and, and_false, reduceCtorEq, eq_self, beq_self_eq_true, List.set_nil, List.getElem?_nil, List.length_append, List.length_map, Bool.false_and, Bool.and_false, Bool.false_or, Bool.or_false, Int.cast_ofNat_Int, Int.reduceToNat, Int.zero_add, Int.add_zero, e1, hr]
            exact ⟨_, _, rfl, q1, ps, _, rfl, rfl, by omega, hp⟩) [some (.obj 1), some (.d (.int k)), some (.obj 2), some (.d (.int b)), none, y, none] (q.mem [.lst ((ps.map Zm.pairD).map .d)]) ⟨q, ps, y, rfl, rfl, Nat.le_refl _, hp⟩
      rw [rangeL_len] at hl3
      have b3 : -4611686018427387904 ≤ b := by omega
      have b4 : b < 4611686018427387904 := by omega
      unfold l1_lwide_board
      simp only [z_bok, z_bsok, z_bbad, z_bsbad, z_seqbad, z_outbad, z_asgbad, small_fmod, small_lit, fits_le, smallR_lit, z_na64, z_bif, z_bsif, z_noer, z_seqn, z_seqr, z_seqif, z_outr, z_outn, z_outif, z_C, z_op, z_T, z_tand, z_tor, z_tnot, z_and, z_or, z_not, z_if, z_nil, z_cons, z_tup, z_lst, z_new, z_allD0, z_allD1, z_map, z_sNil, z_sSeq, z_sIf, z_sDrop, z_sRet, z_sAsg, z_asg, z_asgif, z_sPar, z_gN, z_gT, z_gsNil, z_gsCons, z_obind, z_gSet, z_B, z_It, z_Enum, z_R1, z_R2, z_r1, z_r2, z_Comp, z_For, z_Yes, z_M, z_Sl, z_oN, z_oS, z_Rev, z_Neg, z_IsI, z_call, z_callK, z_chain, z_body, z_rdd, z_rds, z_int, z_vI, z_vB, z_le, z_eqi, z_nei, z_nes, z_eqs, z_vInt, z_vI2, z_isN, z_notN, z_enumt, z_enuml, z_itl, z_itt, z_its, z_ixt0, z_ixt1, z_ixt2, z_lenl, z_lent, z_tyt, z_tyl, z_tyd, z_tyi, z_tyb, z_tys, z_tyn, isT_tt, isT_lt, isT_dt, isT_it, isT_bt, isT_st, isT_nt, isT_ti, isT_li, isT_di, isT_ii, isT_bi, isT_si, isT_ni, isT_tb, isT_lb, isT_db, isT_ib, isT_bb, isT_sb, isT_nb, isT_ts, isT_ls, isT_ds, isT_is, isT_bs, isT_ss, isT_ns, z_forn, z_mulx, z_lr1, z_lr1N, okR_le, dk_get, dk_set, dk_add, dk_ll, z_rdo, z_tyo, z_app, z_ext, z_star, z_lr2, z_listN, z_sqt, z_sql, z_leno, z_frz, fzL_d, z_lens, z_sls, z_sll, z_addl, z_addt, z_na10, z_dct0, z_disp, z_disp1, z_slt, z_revt, dk_rd2, dk_ty2, dk_mem1, dk_len0, z_tupl, z_tupt, z_listt, z_listl, z_in2, slots0, mVar, wipeS, pickBy, dk_rd0, dk_rd1, dk_ix0, dk_ix1, dk_ix2, dk_ne, dk_setn, dk_ty0, dk_ty1, Option.some.injEq, List.map_cons, List.map_nil, List.length_cons, List.length_nil, List.replicate_succ, List.replicate_zero, List.cons_append, List.nil_append, List.append_nil, List.getElem?_cons_zero, List.getElem?_cons_succ, List.set_cons_zero, List.set_cons_succ, List.zip_cons_cons, List.zip_nil_left, List.foldl_cons, List.foldl_nil, List.filterMap_cons, List.filterMap_nil, Nat.reduceSub, Nat.reduceAdd, Nat.reduceLT, Nat.reduceLeDiff, Nat.zero_add, Nat.add_zero, Nat.reduceEqDiff, decide_eq_true_eq, Bool.not_eq_true, Bool.not_true, Bool.not_false, Bool.not_not, ite_true, ite_false, if_true, if_false, reduceIte, Bool.false_eq_true, and_self, and_true, true_and, Int.reduceNeg, Int.reduceLT, Int.reduceLE, Int.reduceSub, Int.reduceAdd, Int.reduceMul, Int.reducePow, Int.reduceEq, Int.reduceNe, decide_true, decide_false, decide_not, Bool.and_true, Bool.true_and, Bool.or_true, Bool.true_or, ne_eq, not_true_eq_false, not_false_eq_true, Bool.and_self, false_and, and_false, reduceCtorEq, eq_self, beq_self_eq_true, List.set_nil, List.getElem?_nil, List.length_append, List.length_map, Bool.false_and, Bool.and_false, Bool.false_or, Bool.or_false, Int.cast_ofNat_Int, Int.reduceToNat, Int.zero_add, Int.add_zero, b3, b4, e3]
      exact ⟨_, _, rfl, q3, ps3, _, _, rfl, rfl, by omega, hp3⟩) [some (.obj 1), some (.d (.int k)), some (.obj 2), none, none, none, none] (q1.mem [.lst []]) ⟨q1, [], _, _, rfl, rfl, Nat.zero_le _, fun _ h => by cases h⟩
  rw [rangeL_len] at hl2
  obtain ⟨q3, fs, e3, hp3⟩ := mixed_ok1 q2 (ps2.map Zm.pairD) (Lay.ran 0 k) (by rw [ranD_len]; omega)
  have hl3 := hp3.length_eq
  rw [ranD_len] at hl3
  obtain ⟨r4, q4, e4, a4, b4⟩ := draw_ok q3 [.lst ((ps2.map Zm.pairD).map .d)] (m := k - 8) (by omega) (by omega)
  obtain ⟨ns, hns, hns2⟩ := ints_of (ds := cutL fs none (some (9 + r4))) (P := fun i => 0 ≤ i ∧ i < k) (fun x hx => by
    obtain ⟨i, rfl, a, b⟩ := ranD_mem (hp3.mem_iff.mp ((cutL_sub _ _ _).mem hx))
    exact ⟨i, rfl, a, b⟩)
  have hnl : ns.length ≤ 16 ∧ 0 < ns.length := by
    have := congrArg List.length hns
    rw [cutL_take (by omega), List.length_take, List.length_map] at this
    omega
  have hnd : ns.Nodup := by
    have a : (cutL fs none (some (9 + r4))).Nodup := (cutL_sub _ _ _).nodup (hp3.nodup_iff.mpr (ran_nodup 0 k))
    rw [hns] at a
    exact (List.pairwise_map.mp a).imp fun {x y} h e => h (by rw [e])
  obtain ⟨q5, ps, e5, hf, hb⟩ := pair_comp1 (ws := ps2.map Zm.pairD) (g := g0_lwide_board) (e := e0_lwide_board) (s0 := [some (.obj 1), some (.d (.int k)), some (.obj 2), x2, some (.d (.list ((sortI ns).map .int))), y2, none])
    (fun i q => by
      obtain ⟨j, q', e, a, b⟩ := draw_ok q [.lst ((ps2.map Zm.pairD).map .d)] (m := 6) (by decide) (by decide)
      refine ⟨_, j, q', rfl, ?_, by omega⟩
      unfold e0_lwide_board
      simp only [z_bok, z_bsok, z_bbad, z_bsbad, z_seqbad, z_outbad, z_asgbad, small_fmod, small_lit, fits_le, smallR_lit, z_na64, z_bif, z_bsif, z_noer, z_seqn, z_seqr, z_seqif, z_outr, z_outn, z_outif, z_C, z_op, z_T, z_tand, z_tor, z_tnot, z_and, z_or, z_not, z_if, z_nil, z_cons, z_tup, z_lst, z_new, z_allD0, z_allD1, z_map, z_sNil, z_sSeq, z_sIf, z_sDrop, z_sRet, z_sAsg, z_asg, z_asgif, z_sPar, z_gN, z_gT, z_gsNil, z_gsCons, z_obind, z_gSet, z_B, z_It, z_Enum, z_R1, z_R2, z_r1, z_r2, z_Comp, z_For, z_Yes, z_M, z_Sl, z_oN, z_oS, z_Rev, z_Neg, z_IsI, z_call, z_callK, z_chain, z_body, z_rdd, z_rds, z_int, z_vI, z_vB, z_le, z_eqi, z_nei, z_nes, z_eqs, z_vInt, z_vI2, z_isN, z_notN, z_enumt, z_enuml, z_itl, z_itt, z_its, z_ixt0, z_ixt1, z_ixt2, z_lenl, z_lent, z_tyt, z_tyl, z_tyd, z_tyi, z_tyb, z_tys, z_tyn, isT_tt, isT_lt, isT_dt, isT_it, isT_bt, isT_st, isT_nt, isT_ti, isT_li, isT_di, isT_ii, isT_bi, isT_si, isT_ni, isT_tb, isT_lb, isT_db, isT_ib, isT_bb, isT_sb, isT_nb, isT_ts, isT_ls, isT_ds, isT_is, isT_bs, isT_ss, isT_ns, z_forn, z_mulx, z_lr1, z_lr1N, okR_le, dk_get, dk_set, dk_add, dk_ll, z_rdo, z_tyo, z_app, z_ext, z_star, z_lr2, z_listN, z_sqt, z_sql, z_leno, z_frz, fzL_d, z_lens, z_sls, z_sll, z_addl, z_addt, z_na10, z_dct0, z_disp, z_disp1, z_slt, z_revt, dk_rd2, dk_ty2, dk_mem1, dk_len0, z_tupl, z_tupt, z_listt, z_listl, z_in2, slots0, mVar, wipeS, pickBy, dk_rd0, dk_rd1, dk_ix0, dk_ix1, dk_ix2, dk_ne, dk_setn, dk_ty0, dk_ty1, Option.some.injEq, List.map_cons, List.map_nil, List.length_cons, List.length_nil, List.replicate_succ, List.replicate_zero, List.cons_append, List.nil_append, List.append_nil, List.getElem?_cons_zero, List.getElem?_cons_succ, List.set_cons_zero, List.set_cons_succ, List.zip_cons_cons, List.zip_nil_left, List.foldl_cons, List.foldl_nil, List.filterMap_cons, List.filterMap_nil, Nat.reduceSub, Nat.reduceAdd, Nat.reduceLT, Nat.reduceLeDiff, Nat.zero_add, Nat.add_zero, Nat.reduceEqDiff, decide_eq_true_eq, Bool.not_eq_true, Bool.not_true, Bool.not_false, Bool.not_not, ite_true, ite_false, if_true, if_false, reduceIte, Bool.false_eq_true, and_self, and_true, true_and, Int.reduceNeg, Int.reduceLT, Int.reduceLE, Int.reduceSub, Int.reduceAdd, Int.reduceMul, Int.reducePow, Int.reduceEq, Int.reduceNe, decide_true, decide_false, decide_not, Bool.and_true, Bool.true_and, Bool.or_true, Bool.true_or, ne_eq, not_true_eq_false, not_false_eq_true, Bool.and_self, false_and, and_false, reduceCtorEq, eq_self, beq_self_eq_true, List.set_nil, List.getElem?_nil, List.length_append, List.length_map, Bool.false_and, Bool.and_false, Bool.false_or, Bool.or_false, Int.cast_ofNat_Int, Int.reduceToNat, Int.zero_add, Int.add_zero, e]) (sortI ns) q4
  have hlen : ps.length = ns.length := by
    have := congrArg List.length hf
    rw [List.length_map, (sortI_perm ns).length_eq] at this
    exact this
  refine ⟨q5, k, sortP ps2, ps, z_trimc (R := [.lst ((ps2.map Zm.pairD).map .d)]) ?_ rfl (dk_below (Nat.succ_pos _)), ⟨?_, fun p hp => hp2 p ((sortP_perm ps2).mem_iff.mp hp), by omega, by omega, ?_, fun p hp => ⟨?_, hb p hp⟩, .nil⟩⟩
  · unfold b_lwide_board boardD chartD
    have k3 : k ≤ 16777216 := by omega
    have k4 : 0 ≤ k := by omega
    have k5 : -4611686018427387904 ≤ k := by omega
    have k6 : k < 4611686018427387904 := by omega
    simp only [z_bok, z_bsok, z_bbad, z_bsbad, z_seqbad, z_outbad, z_asgbad, small_fmod, small_lit, fits_le, smallR_lit, z_na64, z_bif, z_bsif, z_noer, z_seqn, z_seqr, z_seqif, z_outr, z_outn, z_outif, z_C, z_op, z_T, z_tand, z_tor, z_tnot, z_and, z_or, z_not, z_if, z_nil, z_cons, z_tup, z_lst, z_new, z_allD0, z_allD1, z_map, z_sNil, z_sSeq, z_sIf, z_sDrop, z_sRet, z_sAsg, z_asg, z_asgif, z_sPar, z_gN, z_gT, z_gsNil, z_gsCons, z_obind, z_gSet, z_B, z_It, z_Enum, z_R1, z_R2, z_r1, z_r2, z_Comp, z_For, z_Yes, z_M, z_Sl, z_oN, z_oS, z_Rev, z_Neg, z_IsI, z_call, z_callK, z_chain, z_body, z_rdd, z_rds, z_int, z_vI, z_vB, z_le, z_eqi, z_nei, z_nes, z_eqs, z_vInt, z_vI2, z_isN, z_notN, z_enumt, z_enuml, z_itl, z_itt, z_its, z_ixt0, z_ixt1, z_ixt2, z_lenl, z_lent, z_tyt, z_tyl, z_tyd, z_tyi, z_tyb, z_tys, z_tyn, isT_tt, isT_lt, isT_dt, isT_it, isT_bt, isT_st, isT_nt, isT_ti, isT_li, isT_di, isT_ii, isT_bi, isT_si, isT_ni, isT_tb, isT_lb, isT_db, isT_ib, isT_bb, isT_sb, isT_nb, isT_ts, isT_ls, isT_ds, isT_is, isT_bs, isT_ss, isT_ns, z_forn, z_mulx, z_lr1, z_lr1N, okR_le, dk_get, dk_set, dk_add, dk_ll, z_rdo, z_tyo, z_app, z_ext, z_star, z_lr2, z_listN, z_sqt, z_sql, z_leno, z_frz, fzL_d, z_lens, z_sls, z_sll, z_addl, z_addt, z_na10, z_dct0, z_disp, z_disp1, z_slt, z_revt, dk_rd2, dk_ty2, dk_mem1, dk_len0, z_tupl, z_tupt, z_listt, z_listl, z_in2, slots0, mVar, wipeS, pickBy, dk_rd0, dk_rd1, dk_ix0, dk_ix1, dk_ix2, dk_ne, dk_setn, dk_ty0, dk_ty1, Option.some.injEq, List.map_cons, List.map_nil, List.length_cons, List.length_nil, List.replicate_succ, List.replicate_zero, List.cons_append, List.nil_append, List.append_nil, List.getElem?_cons_zero, List.getElem?_cons_succ, List.set_cons_zero, List.set_cons_succ, List.zip_cons_cons, List.zip_nil_left, List.foldl_cons, List.foldl_nil, List.filterMap_cons, List.filterMap_nil, Nat.reduceSub, Nat.reduceAdd, Nat.reduceLT, Nat.reduceLeDiff, Nat.zero_add, Nat.add_zero, Nat.reduceEqDiff, decide_eq_true_eq, Bool.not_eq_true, Bool.not_true, Bool.not_false, Bool.not_not, ite_true, ite_false, if_true, if_false, reduceIte, Bool.false_eq_true, and_self, and_true, true_and, Int.reduceNeg, Int.reduceLT, Int.reduceLE, Int.reduceSub, Int.reduceAdd, Int.reduceMul, Int.reducePow, Int.reduceEq, Int.reduceNe, decide_true, decide_false, decide_not, Bool.and_true, Bool.true_and, Bool.or_true, Bool.true_or, ne_eq, not_true_eq_false, not_false_eq_true, Bool.and_self, false_and, and_false, reduceCtorEq, eq_self, beq_self_eq_true, List.set_nil, List.getElem?_nil, List.length_append, List.length_map, Bool.false_and, Bool.and_false, Bool.false_or, Bool.or_false, Int.cast_ofNat_Int, Int.reduceToNat, Int.zero_add, Int.add_zero, e1, hk, k3, k4, k5, k6, e2, e3, e4, hns, z_sortX (show listD (.d (.list (ns.map PyData.int))) _ = some _ from rfl) (sortD_i _), z_sortX dk_list2 (sortD_p _), e5, z_lcK (show (ps.map Zm.pairD).length ≤ 16777216 by rw [List.length_map]; omega)]
  · rw [(sortP_perm ps2).length_eq]; omega
  · have a := strict_of (sortI_sorted ns) ((sortI_perm ns).nodup_iff.mpr hnd)
    rw [← hf] at a
    exact List.pairwise_map.mp a
  · have : p.1 ∈ ps.map (·.1) := List.mem_map.mpr ⟨p, hp, rfl⟩
    rw [hf] at this
    have := hns2 _ ((sortI_perm ns).mem_iff.mp this)
    omega
theorem same_orders {q : Dk} {k : Int} {rps ps : List (Int × Int)} {cl : List PyData} (h : GoodB rps ps cl) {n : Nat} {p : Int × Int} (hn : ps[n]? = some p) :
    d_lorders_of [.d (boardD k rps (.tuple cl) ps), .d (.int n)] (q.mem []) = .ok (.d (.list (ordL rps ps p.1))) (q.mem []) ∧ d_orders_of [.d (boardD k rps (.tuple cl) ps), .d (.int n)] (q.mem []) = .ok (.d (.tuple (ordL rps ps p.1))) (q.mem []) := by
  have a := h.rl
  have b := h.pl
  exact ⟨lorders_ok hn h.pa (by omega) (by omega), orders_of_ok hn (by omega) (by omega)⟩
theorem wide_right (q : Dk) : ∃ q' : Dk, d_lis_wide_right [.obj 1] (q.mem []) = .ok (.d (.bool true)) (q'.mem []) := by
  obtain ⟨q1, k, rps, ps, e1, hg⟩ := wide_ok q
  have hpp := hg.pp
  have hpl := hg.pl
  obtain ⟨r, q2, e2, a2, b2⟩ := draw_ok q1 [] (m := (ps.length : Int)) (by omega) (by omega)
  obtain ⟨n, rfl⟩ : ∃ n : Nat, r = n := ⟨r.toNat, by omega⟩
  have hn : ps[n]? = some (ps[n]'(by omega)) := List.getElem?_eq_getElem (by omega)
  generalize (ps[n]'(by omega)) = p at hn
  obtain ⟨e3, e4⟩ := same_orders (q := q2) (k := k) hg hn
  have sx := Sz.tup (ordL_szL hg p.1)
  have hix : ∀ M : Mm, vIx (.d (boardD k rps (.tuple []) ps)) (.d (.int 1)) M = .ok (.d (.tuple (ps.map Zm.pairD))) M := fun M => z_ixt1
  refine ⟨q2, z_trim ?_ rfl⟩
  unfold b_lis_wide_right
  simp only [z_bok, z_bsok, z_bbad, z_bsbad, z_seqbad, z_outbad, z_asgbad, small_fmod, small_lit, fits_le, smallR_lit, z_na64, z_bif, z_bsif, z_noer, z_seqn, z_seqr, z_seqif, z_outr, z_outn, z_outif, z_C, z_op, z_T, z_tand, z_tor, z_tnot, z_and, z_or, z_not, z_if, z_nil, z_cons, z_tup, z_lst, z_new, z_allD0, z_allD1, z_map, z_sNil, z_sSeq, z_sIf, z_sDrop, z_sRet, z_sAsg, z_asg, z_asgif, z_sPar, z_gN, z_gT, z_gsNil, z_gsCons, z_obind, z_gSet, z_B, z_It, z_Enum, z_R1, z_R2, z_r1, z_r2, z_Comp, z_For, z_Yes, z_M, z_Sl, z_oN, z_oS, z_Rev, z_Neg, z_IsI, z_call, z_callK, z_chain, z_body, z_rdd, z_rds, z_int, z_vI, z_vB, z_le, z_eqi, z_nei, z_nes, z_eqs, z_vInt, z_vI2, z_isN, z_notN, z_enumt, z_enuml, z_itl, z_itt, z_its, z_ixt0, z_ixt1, z_ixt2, z_lenl, z_lent, z_tyt, z_tyl, z_tyd, z_tyi, z_tyb, z_tys, z_tyn, isT_tt, isT_lt, isT_dt, isT_it, isT_bt, isT_st, isT_nt, isT_ti, isT_li, isT_di, isT_ii, isT_bi, isT_si, isT_ni, isT_tb, isT_lb, isT_db, isT_ib, isT_bb, isT_sb, isT_nb, isT_ts, isT_ls, isT_ds, isT_is, isT_bs, isT_ss, isT_ns, z_forn, z_mulx, z_lr1, z_lr1N, okR_le, dk_get, dk_set, dk_add, dk_ll, z_rdo, z_tyo, z_app, z_ext, z_star, z_lr2, z_listN, z_sqt, z_sql, z_leno, z_frz, fzL_d, z_lens, z_sls, z_sll, z_addl, z_addt, z_na10, z_dct0, z_disp, z_disp1, z_slt, z_revt, dk_rd2, dk_ty2, dk_mem1, dk_len0, z_tupl, z_tupt, z_listt, z_listl, z_in2, slots0, mVar, wipeS, pickBy, dk_rd0, dk_rd1, dk_ix0, dk_ix1, dk_ix2, dk_ne, dk_setn, dk_ty0, dk_ty1, Option.some.injEq, List.map_cons, List.map_nil, List.length_cons, List.length_nil, List.replicate_succ, List.replicate_zero, List.cons_append, List.nil_append, List.append_nil, List.getElem?_cons_zero, List.getElem?_cons_succ, List.set_cons_zero, List.set_cons_succ, List.zip_cons_cons, List.zip_nil_left, List.foldl_cons, List.foldl_nil, List.filterMap_cons, List.filterMap_nil, Nat.reduceSub, Nat.reduceAdd, Nat.reduceLT, Nat.reduceLeDiff, Nat.zero_add, Nat.add_zero, Nat.reduceEqDiff, decide_eq_true_eq, Bool.not_eq_true, Bool.not_true, Bool.not_false, Bool.not_not, ite_true, ite_false, if_true, if_false, reduceIte, Bool.false_eq_true, and_self, and_true, true_and, Int.reduceNeg, Int.reduceLT, Int.reduceLE, Int.reduceSub, Int.reduceAdd, Int.reduceMul, Int.reducePow, Int.reduceEq, Int.reduceNe, decide_true, decide_false, decide_not, Bool.and_true, Bool.true_and, Bool.or_true, Bool.true_or, ne_eq, not_true_eq_false, not_false_eq_true, Bool.and_self, false_and, and_false, reduceCtorEq, eq_self, beq_self_eq_true, List.set_nil, List.getElem?_nil, List.length_append, List.length_map, Bool.false_and, Bool.and_false, Bool.false_or, Bool.or_false, Int.cast_ofNat_Int, Int.reduceToNat, Int.zero_add, Int.add_zero, e1, hix, e2, e3, e4, z_repr sx]
end Zl
namespace Zl
open PySem PySem.Spec PyProof.Rows L2 Zm
/-! ### the law -/
theorem z_mul3 {M : Mm} {x : PyData} : vMulX (.d (.list [x])) (.d (.int 3)) M = .ok (.d (.list [x, x, x])) M := by
  show (if (3 : Int).natAbs ≤ 1000000000 ∧ [x].length * (3 : Int).toNat ≤ 16777216 then Out.ok (Val.d (.list (List.replicate (3 : Int).toNat [x]).flatten)) M else .bad) = _
  rw [if_pos ⟨by decide, by show 1 * 3 ≤ _; decide⟩]
  rfl
theorem rep_flat (n : Nat) (x : PyData) : (List.replicate n [x]).flatten = List.replicate n x := by
  induction n with
  | zero => rfl
  | succ n ih => rw [List.replicate_succ, List.flatten_cons, ih, List.replicate_succ]; rfl
theorem z_muls {M : Mm} {n : Nat} {x : PyData} (h : n ≤ 1000) : vMulX (.d (.tuple [x])) (.d (.int n)) M = .ok (.d (.tuple (List.replicate n x))) M := by
  rw [z_multn (by omega) (by omega) (by show 1 ≤ _; decide), Int.toNat_natCast, rep_flat]
section
variable {k : Int} {rps ps : List (Int × Int)} {cl : List PyData}
def turnP (p : Int × Int) : Int × Int := (p.1, (p.2 + 1 + p.1).fmod 6)
theorem turnP_fst : (ps.map turnP).map (·.1) = ps.map (·.1) := by rw [List.map_map]; rfl
theorem ordL_turn {own : Int} : ordL rps (ps.map turnP) own = ordL rps ps own := by unfold ordL; rw [turnP_fst]
theorem same_loop {q : Dk} {c0 c2 c6 c9 c10 c11 c12 c13 c16 c17 c18 : Option Val} (h : GoodB rps ps cl) (h1 : rps.length ≤ 28) {a8 a14 a15 : Option Val} :
    ∃ s' M', forL g6_law l6_law (rangeL 0 ps.length) [c0, some (.obj 1), c2, some (.d (boardD k rps (.tuple cl) ps)), some (.d (chartD k rps (.tuple cl))), some (.d (.tuple (ps.map Zm.pairD))), c6, some (.d (.tuple ((ps.map turnP).map Zm.pairD))), a8, c9, c10, c11, c12, c13, a14, a15, c16, c17, c18] (q.mem []) = .nx s' M' ∧
      (∃ a8 a14 a15, s' = [c0, some (.obj 1), c2, some (.d (boardD k rps (.tuple cl) ps)), some (.d (chartD k rps (.tuple cl))), some (.d (.tuple (ps.map Zm.pairD))), c6, some (.d (.tuple ((ps.map turnP).map Zm.pairD))), a8, c9, c10, c11, c12, c13, a14, a15, c16, c17, c18]) ∧ M' = q.mem [] := by
  refine forL_inv (fun s' M' => (∃ a8 a14 a15, s' = [c0, some (.obj 1), c2, some (.d (boardD k rps (.tuple cl) ps)), some (.d (chartD k rps (.tuple cl))), some (.d (.tuple (ps.map Zm.pairD))), c6, some (.d (.tuple ((ps.map turnP).map Zm.pairD))), a8, c9, c10, c11, c12, c13, a14, a15, c16, c17, c18]) ∧ M' = q.mem []) _ ?_ _ _ ⟨⟨_, _, _, rfl⟩, rfl⟩
  rintro v hv s M ⟨⟨a8, a14, a15, rfl⟩, rfl⟩
  obtain ⟨r, rfl, hr1, hr2⟩ := rangeL_mem hv
  obtain ⟨n, rfl⟩ : ∃ n : Nat, r = n := ⟨r.toNat, by omega⟩
  refine ⟨_, _, rfl, ?_⟩
  have hn : ps[n]? = some (ps[n]'(by omega)) := List.getElem?_eq_getElem (by omega)
  generalize (ps[n]'(by omega)) = p at hn
  obtain ⟨e3, e4⟩ := same_orders (q := q) (k := k) h hn
  have hpl := h.pl
  have e5 := orders_of_ok (k := k) (rps := rps) (cs := .tuple cl) (q := q) (ps := ps.map turnP) (n := n) (p := turnP p) (by rw [List.getElem?_map, hn]; rfl) (by omega) (by rw [List.length_map]; omega)
  rw [ordL_turn] at e5
  have e5 : d_orders_of [.d (.tuple [chartD k rps (.tuple cl), .tuple ((ps.map turnP).map Zm.pairD)]), .d (.int n)] (q.mem []) = .ok (.d (.tuple (ordL rps ps p.1))) (q.mem []) := e5
  have sx := Sz.tup (ordL_szS h h1 p.1)
  have sl := Sz.lst (SzL.c sx (.c sx (.c sx .n0)))
  unfold l6_law
  simp only [z_bok, z_bsok, z_bbad, z_bsbad, z_seqbad, z_outbad, z_asgbad, small_fmod, small_lit, fits_le, smallR_lit, z_na64, z_bif, z_bsif, z_noer, z_seqn, z_seqr, z_seqif, z_outr, z_outn, z_outif, z_C, z_op, z_T, z_tand, z_tor, z_tnot, z_and, z_or, z_not, z_if, z_nil, z_cons, z_tup, z_lst, z_new, z_allD0, z_allD1, z_map, z_sNil, z_sSeq, z_sIf, z_sDrop, z_sRet, z_sAsg, z_asg, z_asgif, z_sPar, z_gN, z_gT, z_gsNil, z_gsCons, z_obind, z_gSet, z_B, z_It, z_Enum, z_R1, z_R2, z_r1, z_r2, z_Comp, z_For, z_Yes, z_M, z_Sl, z_oN, z_oS, z_Rev, z_Neg, z_IsI, z_call, z_callK, z_chain, z_body, z_rdd, z_rds, z_int, z_vI, z_vB, z_le, z_eqi, z_nei, z_nes, z_eqs, z_vInt, z_vI2, z_isN, z_notN, z_enumt, z_enuml, z_itl, z_itt, z_its, z_ixt0, z_ixt1, z_ixt2, z_lenl, z_lent, z_tyt, z_tyl, z_tyd, z_tyi, z_tyb, z_tys, z_tyn, isT_tt, isT_lt, isT_dt, isT_it, isT_bt, isT_st, isT_nt, isT_ti, isT_li, isT_di, isT_ii, isT_bi, isT_si, isT_ni, isT_tb, isT_lb, isT_db, isT_ib, isT_bb, isT_sb, isT_nb, isT_ts, isT_ls, isT_ds, isT_is, isT_bs, isT_ss, isT_ns, z_forn, z_mulx, z_lr1, z_lr1N, okR_le, dk_get, dk_set, dk_add, dk_ll, z_rdo, z_tyo, z_app, z_ext, z_star, z_lr2, z_listN, z_sqt, z_sql, z_leno, z_frz, fzL_d, z_lens, z_sls, z_sll, z_addl, z_addt, z_na10, z_dct0, z_disp, z_disp1, z_slt, z_revt, dk_rd2, dk_ty2, dk_mem1, dk_len0, z_tupl, z_tupt, z_listt, z_listl, z_in2, slots0, mVar, wipeS, pickBy, dk_rd0, dk_rd1, dk_ix0, dk_ix1, dk_ix2, dk_ne, dk_setn, dk_ty0, dk_ty1, Option.some.injEq, List.map_cons, List.map_nil, List.length_cons, List.length_nil, List.replicate_succ, List.replicate_zero, List.cons_append, List.nil_append, List.append_nil, List.getElem?_cons_zero, List.getElem?_cons_succ, List.set_cons_zero, List.set_cons_succ, List.zip_cons_cons, List.zip_nil_left, List.foldl_cons, List.foldl_nil, List.filterMap_cons, List.filterMap_nil, Nat.reduceSub, Nat.reduceAdd, Nat.reduceLT, Nat.reduceLeDiff, Nat.zero_add, Nat.add_zero, Nat.reduceEqDiff, decide_eq_true_eq, Bool.not_eq_true, Bool.not_true, Bool.not_false, Bool.not_not, ite_true, ite_false, if_true, if_false, reduceIte, Bool.false_eq_true, and_self, and_true, true_and, Int.reduceNeg, Int.reduceLT, Int.reduceLE, Int.reduceSub, Int.reduceAdd, Int.reduceMul, Int.reducePow, Int.reduceEq, Int.reduceNe, decide_true, decide_false, decide_not, Bool.and_true, Bool.true_and, Bool.or_true, Bool.true_or, ne_eq, not_true_eq_false, not_false_eq_true, Bool.and_self, false_and, and_false, reduceCtorEq, eq_self, beq_self_eq_true, List.set_nil, List.getElem?_nil, List.length_append, List.length_map, Bool.false_and, Bool.and_false, Bool.false_or, Bool.or_false, Int.cast_ofNat_Int, Int.reduceToNat, Int.zero_add, Int.add_zero, e3, e4, e5, z_mul3, z_repr sl]
  exact ⟨_, _, rfl, ⟨_, _, _, rfl⟩, rfl⟩
theorem judge_one {q : Dk} {n : Nat} {p : Int × Int} (hn : ps[n]? = some p) (h : GoodB rps ps cl) {o : PyData} (ho : Tr o) : ∃ b, memB (ordL rps ps p.1) o = b ∧ d_is_order [.d (boardD k rps (.tuple cl) ps), .d (.int n), .d o] (q.mem []) = .ok (.d (.bool b)) (q.mem []) := by
  have a := h.rl
  have c := h.pl
  cases ho with
  | stay => exact ⟨true, mem_stay, order_stay (fun _ => rfl) (fun _ => rfl)⟩
  | go g => exact ⟨_, mem_go, order_go hn (by omega) (by omega)⟩
  | back f g => exact ⟨_, mem_back, order_back hn (by omega) (by omega)⟩
theorem order_loop {q : Dk} {n : Nat} {p : Int × Int} {c0 c2 c4 c6 c7 c9 c10 c11 c14 c15 c17 c18 : Option Val} (hn : ps[n]? = some p) (h : GoodB rps ps cl) {os : List PyData} (hos : ∀ o ∈ os, Tr o) {a13 a16 : Option Val} :
    ∃ s' M', forL g1_law l1_law (os.map .d) [c0, some (.obj 1), c2, some (.d (boardD k rps (.tuple cl) ps)), c4, some (.d (.tuple (ps.map Zm.pairD))), c6, c7, some (.d (.int n)), c9, c10, c11, some (.d (.list ((ordL rps ps p.1).map fun x => .str x.shown))), a13, c14, c15, a16, c17, c18] (q.mem []) = .nx s' M' ∧
      (∃ a13 a16, s' = [c0, some (.obj 1), c2, some (.d (boardD k rps (.tuple cl) ps)), c4, some (.d (.tuple (ps.map Zm.pairD))), c6, c7, some (.d (.int n)), c9, c10, c11, some (.d (.list ((ordL rps ps p.1).map fun x => .str x.shown))), a13, c14, c15, a16, c17, c18]) ∧ M' = q.mem [] := by
  refine forL_inv (fun s' M' => (∃ a13 a16, s' = [c0, some (.obj 1), c2, some (.d (boardD k rps (.tuple cl) ps)), c4, some (.d (.tuple (ps.map Zm.pairD))), c6, c7, some (.d (.int n)), c9, c10, c11, some (.d (.list ((ordL rps ps p.1).map fun x => .str x.shown))), a13, c14, c15, a16, c17, c18]) ∧ M' = q.mem []) _ ?_ _ _ ⟨⟨_, _, rfl⟩, rfl⟩
  rintro v hv s M ⟨⟨a13, a16, rfl⟩, rfl⟩
  obtain ⟨o, ho, rfl⟩ := List.mem_map.mp hv
  refine ⟨_, _, rfl, ?_⟩
  obtain ⟨b, hm, hb⟩ := judge_one (k := k) (q := q) hn h (hos o ho)
  have hlt : n < ps.length := (List.getElem?_eq_some_iff.mp hn).1
  have hpl := h.pl
  obtain ⟨m, hmn⟩ : ∃ m, n + 1 + m = ps.length := ⟨ps.length - n - 1, by omega⟩
  have e1 := oerr_ok (k := k) (rps := rps) (cs := .tuple cl) (ps := ps) (q := q) (m := m) hmn hb
  have e2 : ((ps.map Zm.pairD).length : Int) - n - 1 = (m : Int) := by rw [List.length_map]; omega
  have so0 : Sz 0 10 (.str "order") := ⟨by decide +kernel, rfl, Nat.zero_le _, by decide +kernel⟩
  have hin := in_menu (M := q.mem []) (ordL_tr (ps := ps) (own := p.1) (nb_small h.rs) (fun p hp => (h.pz p hp).1)) (hos o ho)
  rw [hm] at hin
  rw [List.length_map] at e2
  have f1 : (List.replicate n stayD).length + 1 ≤ 16777216 := by rw [List.length_replicate]; omega
  have f2 : n + 1 + m ≤ 16777216 := by omega
  have f3 : n + 1 ≤ 16777216 := by omega
  have ms := z_muls (M := q.mem []) (n := n) (x := stayD) (by omega)
  have ms2 := z_muls (M := q.mem []) (n := m) (x := stayD) (by omega)
  have so := (hos o ho).sz
  unfold stayD at ms ms2 e1
  rw [show (List.replicate n (PyData.tuple [.str "stay"]) ++ o :: List.replicate m (PyData.tuple [.str "stay"])) = (List.replicate n (PyData.tuple [.str "stay"]) ++ [o]) ++ List.replicate m (PyData.tuple [.str "stay"]) by rw [List.append_assoc]; rfl] at e1
  have sn : Sz 1 100 (PyData.tuple [.str "order", .int n]) := (Sz.t2 so0 (Sz.int (k := 0) (by omega))).mono
  unfold l1_law
  cases b with
  | true =>
    simp only [z_bok, z_bsok, z_bbad, z_bsbad, z_seqbad, z_outbad, z_asgbad, small_fmod, small_lit, fits_le, smallR_lit, z_na64, z_bif, z_bsif, z_noer, z_seqn, z_seqr, z_seqif, z_outr, z_outn, z_outif, z_C, z_op, z_T, z_tand, z_tor, z_tnot, z_and, z_or, z_not, z_if, z_nil, z_cons, z_tup, z_lst, z_new, z_allD0, z_allD1, z_map, z_sNil, z_sSeq, z_sIf, z_sDrop, z_sRet, z_sAsg, z_asg, z_asgif, z_sPar, z_gN, z_gT, z_gsNil, z_gsCons, z_obind, z_gSet, z_B, z_It, z_Enum, z_R1, z_R2, z_r1, z_r2, z_Comp, z_For, z_Yes, z_M, z_Sl, z_oN, z_oS, z_Rev, z_Neg, z_IsI, z_call, z_callK, z_chain, z_body, z_rdd, z_rds, z_int, z_vI, z_vB, z_le, z_eqi, z_nei, z_nes, z_eqs, z_vInt, z_vI2, z_isN, z_notN, z_enumt, z_enuml, z_itl, z_itt, z_its, z_ixt0, z_ixt1, z_ixt2, z_lenl, z_lent, z_tyt, z_tyl, z_tyd, z_tyi, z_tyb, z_tys, z_tyn, isT_tt, isT_lt, isT_dt, isT_it, isT_bt, isT_st, isT_nt, isT_ti, isT_li, isT_di, isT_ii, isT_bi, isT_si, isT_ni, isT_tb, isT_lb, isT_db, isT_ib, isT_bb, isT_sb, isT_nb, isT_ts, isT_ls, isT_ds, isT_is, isT_bs, isT_ss, isT_ns, z_forn, z_mulx, z_lr1, z_lr1N, okR_le, dk_get, dk_set, dk_add, dk_ll, z_rdo, z_tyo, z_app, z_ext, z_star, z_lr2, z_listN, z_sqt, z_sql, z_leno, z_frz, fzL_d, z_lens, z_sls, z_sll, z_addl, z_addt, z_na10, z_dct0, z_disp, z_disp1, z_slt, z_revt, dk_rd2, dk_ty2, dk_mem1, dk_len0, z_tupl, z_tupt, z_listt, z_listl, z_in2, slots0, mVar, wipeS, pickBy, dk_rd0, dk_rd1, dk_ix0, dk_ix1, dk_ix2, dk_ne, dk_setn, dk_ty0, dk_ty1, Option.some.injEq, List.map_cons, List.map_nil, List.length_cons, List.length_nil, List.replicate_succ, List.replicate_zero, List.cons_append, List.nil_append, List.append_nil, List.getElem?_cons_zero, List.getElem?_cons_succ, List.set_cons_zero, List.set_cons_succ, List.zip_cons_cons, List.zip_nil_left, List.foldl_cons, List.foldl_nil, List.filterMap_cons, List.filterMap_nil, Nat.reduceSub, Nat.reduceAdd, Nat.reduceLT, Nat.reduceLeDiff, Nat.zero_add, Nat.add_zero, Nat.reduceEqDiff, decide_eq_true_eq, Bool.not_eq_true, Bool.not_true, Bool.not_false, Bool.not_not, ite_true, ite_false, if_true, if_false, reduceIte, Bool.false_eq_true, and_self, and_true, true_and, Int.reduceNeg, Int.reduceLT, Int.reduceLE, Int.reduceSub, Int.reduceAdd, Int.reduceMul, Int.reducePow, Int.reduceEq, Int.reduceNe, decide_true, decide_false, decide_not, Bool.and_true, Bool.true_and, Bool.or_true, Bool.true_or, ne_eq, not_true_eq_false, not_false_eq_true, Bool.and_self, false_and, and_false, reduceCtorEq, eq_self, beq_self_eq_true, List.set_nil, List.getElem?_nil, List.length_append, List.length_map, Bool.false_and, Bool.and_false, Bool.false_or, Bool.or_false, Int.cast_ofNat_Int, Int.reduceToNat, Int.zero_add, Int.add_zero, ms, e2, ms2, List.length_replicate, f2, f3, e1, z_repr (Sz.n), z_repr so, hin]
    exact ⟨_, _, rfl, ⟨_, _, rfl⟩, rfl⟩
  | false =>
    simp only [z_bok, z_bsok, z_bbad, z_bsbad, z_seqbad, z_outbad, z_asgbad, small_fmod, small_lit, fits_le, smallR_lit, z_na64, z_bif, z_bsif, z_noer, z_seqn, z_seqr, z_seqif, z_outr, z_outn, z_outif, z_C, z_op, z_T, z_tand, z_tor, z_tnot, z_and, z_or, z_not, z_if, z_nil, z_cons, z_tup, z_lst, z_new, z_allD0, z_allD1, z_map, z_sNil, z_sSeq, z_sIf, z_sDrop, z_sRet, z_sAsg, z_asg, z_asgif, z_sPar, z_gN, z_gT, z_gsNil, z_gsCons, z_obind, z_gSet, z_B, z_It, z_Enum, z_R1, z_R2, z_r1, z_r2, z_Comp, z_For, z_Yes, z_M, z_Sl, z_oN, z_oS, z_Rev, z_Neg, z_IsI, z_call, z_callK, z_chain, z_body, z_rdd, z_rds, z_int, z_vI, z_vB, z_le, z_eqi, z_nei, z_nes, z_eqs, z_vInt, z_vI2, z_isN, z_notN, z_enumt, z_enuml, z_itl, z_itt, z_its, z_ixt0, z_ixt1, z_ixt2, z_lenl, z_lent, z_tyt, z_tyl, z_tyd, z_tyi, z_tyb, z_tys, z_tyn, isT_tt, isT_lt, isT_dt, isT_it, isT_bt, isT_st, isT_nt, isT_ti, isT_li, isT_di, isT_ii, isT_bi, isT_si, isT_ni, isT_tb, isT_lb, isT_db, isT_ib, isT_bb, isT_sb, isT_nb, isT_ts, isT_ls, isT_ds, isT_is, isT_bs, isT_ss, isT_ns, z_forn, z_mulx, z_lr1, z_lr1N, okR_le, dk_get, dk_set, dk_add, dk_ll, z_rdo, z_tyo, z_app, z_ext, z_star, z_lr2, z_listN, z_sqt, z_sql, z_leno, z_frz, fzL_d, z_lens, z_sls, z_sll, z_addl, z_addt, z_na10, z_dct0, z_disp, z_disp1, z_slt, z_revt, dk_rd2, dk_ty2, dk_mem1, dk_len0, z_tupl, z_tupt, z_listt, z_listl, z_in2, slots0, mVar, wipeS, pickBy, dk_rd0, dk_rd1, dk_ix0, dk_ix1, dk_ix2, dk_ne, dk_setn, dk_ty0, dk_ty1, Option.some.injEq, List.map_cons, List.map_nil, List.length_cons, List.length_nil, List.replicate_succ, List.replicate_zero, List.cons_append, List.nil_append, List.append_nil, List.getElem?_cons_zero, List.getElem?_cons_succ, List.set_cons_zero, List.set_cons_succ, List.zip_cons_cons, List.zip_nil_left, List.foldl_cons, List.foldl_nil, List.filterMap_cons, List.filterMap_nil, Nat.reduceSub, Nat.reduceAdd, Nat.reduceLT, Nat.reduceLeDiff, Nat.zero_add, Nat.add_zero, Nat.reduceEqDiff, decide_eq_true_eq, Bool.not_eq_true, Bool.not_true, Bool.not_false, Bool.not_not, ite_true, ite_false, if_true, if_false, reduceIte, Bool.false_eq_true, and_self, and_true, true_and, Int.reduceNeg, Int.reduceLT, Int.reduceLE, Int.reduceSub, Int.reduceAdd, Int.reduceMul, Int.reducePow, Int.reduceEq, Int.reduceNe, decide_true, decide_false, decide_not, Bool.and_true, Bool.true_and, Bool.or_true, Bool.true_or, ne_eq, not_true_eq_false, not_false_eq_true, Bool.and_self, false_and, and_false, reduceCtorEq, eq_self, beq_self_eq_true, List.set_nil, List.getElem?_nil, List.length_append, List.length_map, Bool.false_and, Bool.and_false, Bool.false_or, Bool.or_false, Int.cast_ofNat_Int, Int.reduceToNat, Int.zero_add, Int.add_zero, ms, e2, ms2, List.length_replicate, f2, f3, e1, z_repr sn, z_repr so, hin]
    exact ⟨_, _, rfl, ⟨_, _, rfl⟩, rfl⟩
theorem seq_step {a b : SM} {s s1 : Sl} {M M1 : Mm} {P : Sl → Mm → Prop} (ha : a s M = .nx s1 M1) (hb : ∃ s' M', b s1 M1 = .nx s' M' ∧ P s' M') : ∃ s' M', sSeq a b s M = .nx s' M' ∧ P s' M' := by
  obtain ⟨s', M', e, h⟩ := hb
  exact ⟨s', M', by rw [z_sSeq, ha, z_seqn, e], h⟩
theorem one_turn {q : Dk} {ns : List Int} {t : Int} {x3 x4 x5 x6 x7 x8 x9 x10 x11 x12 x13 x14 x15 x16 : Option Val} (ht : 0 ≤ t) : ∃ s' M', l0_law [some (.scr ns), some (.obj 1), some (.d (.int t)), x3, x4, x5, x6, x7, x8, x9, x10, x11, x12, x13, x14, x15, x16, none, none] (q.mem []) = .nx s' M' ∧
    ∃ (q' : Dk) (x3 x4 x5 x6 x7 x8 x9 x10 x11 x12 x13 x14 x15 x16 : Option Val), s' = [some (.scr ns), some (.obj 1), some (.d (.int t)), x3, x4, x5, x6, x7, x8, x9, x10, x11, x12, x13, x14, x15, x16, none, none] ∧ M' = q'.mem [] := by
  obtain ⟨r1, q1, e1, a1, b1⟩ : ∃ (r : Int) (q1 : Dk), d_ldraw [.obj 1, .d (.int (if 0 < t then 5 else 3))] (q.mem []) = .ok (.d (.int r)) (q1.mem []) ∧ 0 ≤ r ∧ r < 5 := by
    by_cases h : 0 < t
    · rw [if_pos h]
      exact draw_ok q [] (m := 5) (by decide) (by decide)
    · rw [if_neg h]
      obtain ⟨r, q1, e, a, b⟩ := draw_ok q [] (m := 3) (by decide) (by decide)
      exact ⟨r, q1, e, a, by omega⟩
  obtain ⟨r2, q2, e2, a2, b2⟩ := draw_ok q1 [] (m := 6) (by decide) (by decide)
  generalize hk : 3 + r1 = k
  obtain ⟨q3, rps, ps, cl, e3, hg, hr28⟩ := board_ok q2 (k := k) (many := 1 + r2) (by omega) (by omega) (by omega) (by omega)
  have hpp := hg.pp
  have hpl := hg.pl
  have sB := hg.sz (k := k) (by omega)
  have L1 := compL_map (g := g7_law) (t := mYes) (e := e7_law) (M := q3.mem []) (s0 := [some (.scr ns), some (.obj 1), some (.d (.int t)), some (.d (boardD k rps (.tuple cl) ps)), some (.d (chartD k rps (.tuple cl))), some (.d (.tuple (ps.map Zm.pairD))), x6, x7, x8, x9, x10, none, x12, x13, x14, x15, x16, none, none])
    Zm.pairD (fun _ => true) (fun p => Zm.pairD (turnP p)) ps (fun p _ => ⟨_, rfl, rfl, fun _ => by
      unfold e7_law
      simp only [z_bok, z_bsok, z_bbad, z_bsbad, z_seqbad, z_outbad, z_asgbad, small_fmod, small_lit, fits_le, smallR_lit, z_na64, z_bif, z_bsif, z_noer, z_seqn, z_seqr, z_seqif, z_outr, z_outn, z_outif, z_C, z_op, z_T, z_tand, z_tor, z_tnot, z_and, z_or, z_not, z_if, z_nil, z_cons, z_tup, z_lst, z_new, z_allD0, z_allD1, z_map, z_sNil, z_sSeq, z_sIf, z_sDrop, z_sRet, z_sAsg, z_asg, z_asgif, z_sPar, z_gN, z_gT, z_gsNil, z_gsCons, z_obind, z_gSet, z_B, z_It, z_Enum, z_R1, z_R2, z_r1, z_r2, z_Comp, z_For, z_Yes, z_M, z_Sl, z_oN, z_oS, z_Rev, z_Neg, z_IsI, z_call, z_callK, z_chain, z_body, z_rdd, z_rds, z_int, z_vI, z_vB, z_le, z_eqi, z_nei, z_nes, z_eqs, z_vInt, z_vI2, z_isN, z_notN, z_enumt, z_enuml, z_itl, z_itt, z_its, z_ixt0, z_ixt1, z_ixt2, z_lenl, z_lent, z_tyt, z_tyl, z_tyd, z_tyi, z_tyb, z_tys, z_tyn, isT_tt, isT_lt, isT_dt, isT_it, isT_bt, isT_st, isT_nt, isT_ti, isT_li, isT_di, isT_ii, isT_bi, isT_si, isT_ni, isT_tb, isT_lb, isT_db, isT_ib, isT_bb, isT_sb, isT_nb, isT_ts, isT_ls, isT_ds, isT_is, isT_bs, isT_ss, isT_ns, z_forn, z_mulx, z_lr1, z_lr1N, okR_le, dk_get, dk_set, dk_add, dk_ll, z_rdo, z_tyo, z_app, z_ext, z_star, z_lr2, z_listN, z_sqt, z_sql, z_leno, z_frz, fzL_d, z_lens, z_sls, z_sll, z_addl, z_addt, z_na10, z_dct0, z_disp, z_disp1, z_slt, z_revt, dk_rd2, dk_ty2, dk_mem1, dk_len0, z_tupl, z_tupt, z_listt, z_listl, z_in2, slots0, mVar, wipeS, pickBy, dk_rd0, dk_rd1, dk_ix0, dk_ix1, dk_ix2, dk_ne, dk_setn, dk_ty0, dk_ty1, Option.some.injEq, List.map_cons, List.map_nil, List.length_cons, List.length_nil, List.replicate_succ, List.replicate_zero, List.cons_append, List.nil_append, List.append_nil, List.getElem?_cons_zero, List.getElem?_cons_succ, List.set_cons_zero, List.set_cons_succ, List.zip_cons_cons, List.zip_nil_left, List.foldl_cons, List.foldl_nil, List.filterMap_cons, List.filterMap_nil, Nat.reduceSub, Nat.reduceAdd, Nat.reduceLT, Nat.reduceLeDiff, Nat.zero_add, Nat.add_zero, Nat.reduceEqDiff, decide_eq_true_eq, Bool.not_eq_true, Bool.not_true, Bool.not_false, Bool.not_not, ite_true, ite_false, if_true, if_false, reduceIte, Bool.false_eq_true, and_self, and_true, true_and, Int.reduceNeg, Int.reduceLT, Int.reduceLE, Int.reduceSub, Int.reduceAdd, Int.reduceMul, Int.reducePow, Int.reduceEq, Int.reduceNe, decide_true, decide_false, decide_not, Bool.and_true, Bool.true_and, Bool.or_true, Bool.true_or, ne_eq, not_true_eq_false, not_false_eq_true, Bool.and_self, false_and, and_false, reduceCtorEq, eq_self, beq_self_eq_true, List.set_nil, List.getElem?_nil, List.length_append, List.length_map, Bool.false_and, Bool.and_false, Bool.false_or, Bool.or_false, Int.cast_ofNat_Int, Int.reduceToNat, Int.zero_add, Int.add_zero, Zm.pairD, turnP]⟩)
  rw [List.filter_eq_self.mpr (fun _ _ => rfl), show (ps.map fun p => Zm.pairD (turnP p)) = (ps.map turnP).map Zm.pairD by rw [List.map_map]; rfl] at L1
  obtain ⟨s4, M4, e4, ⟨y8, y14, y15, rfl⟩, rfl⟩ := same_loop (k := k) (q := q3) (c0 := some (.scr ns)) (c2 := some (.d (.int t))) (c6 := some (.d (.str (boardD k rps (.tuple cl) ps).shown))) (c9 := x9) (c10 := x10) (c11 := x11) (c12 := x12) (c13 := x13) (c16 := x16) (c17 := none) (c18 := none) hg hr28 (a8 := x8) (a14 := x14) (a15 := x15)
  obtain ⟨r5, q5, e5, a5, b5⟩ := draw_ok q3 [] (m := (ps.length : Int)) (by omega) (by omega)
  obtain ⟨n, rfl⟩ : ∃ n : Nat, r5 = n := ⟨r5.toNat, by omega⟩
  have hn : ps[n]? = some (ps[n]'(by omega)) := List.getElem?_eq_getElem (by omega)
  generalize (ps[n]'(by omega)) = p at hn
  obtain ⟨ms, hms, hms2⟩ := ints_of (ds := ranD (-1) (k + 1)) (P := fun i => i.natAbs < 256) (fun x hx => by
    obtain ⟨i, rfl, a, b⟩ := ranD_mem hx
    exact ⟨i, rfl, by omega⟩)
  have hml : ms.length ≤ 10 := by
    have := congrArg List.length hms
    rw [ranD_len, List.length_map] at this
    omega
  have L2 := compL_map (g := g5_law) (t := mYes) (e := e5_law) (M := q5.mem []) (s0 := [some (.scr ns), some (.obj 1), some (.d (.int t)), some (.d (boardD k rps (.tuple cl) ps)), some (.d (chartD k rps (.tuple cl))), some (.d (.tuple (ps.map Zm.pairD))), some (.d (.str (boardD k rps (.tuple cl) ps).shown)), some (.d (.tuple ((ps.map turnP).map Zm.pairD))), some (.d (.int n)), some (.d (.list (ms.map .int))), x10, x11, x12, x13, y14, y15, x16, none, none])
    PyData.int (fun _ => true) goD ms (fun p _ => ⟨_, rfl, rfl, fun _ => by
      unfold e5_law
      simp only [z_bok, z_bsok, z_bbad, z_bsbad, z_seqbad, z_outbad, z_asgbad, small_fmod, small_lit, fits_le, smallR_lit, z_na64, z_bif, z_bsif, z_noer, z_seqn, z_seqr, z_seqif, z_outr, z_outn, z_outif, z_C, z_op, z_T, z_tand, z_tor, z_tnot, z_and, z_or, z_not, z_if, z_nil, z_cons, z_tup, z_lst, z_new, z_allD0, z_allD1, z_map, z_sNil, z_sSeq, z_sIf, z_sDrop, z_sRet, z_sAsg, z_asg, z_asgif, z_sPar, z_gN, z_gT, z_gsNil, z_gsCons, z_obind, z_gSet, z_B, z_It, z_Enum, z_R1, z_R2, z_r1, z_r2, z_Comp, z_For, z_Yes, z_M, z_Sl, z_oN, z_oS, z_Rev, z_Neg, z_IsI, z_call, z_callK, z_chain, z_body, z_rdd, z_rds, z_int, z_vI, z_vB, z_le, z_eqi, z_nei, z_nes, z_eqs, z_vInt, z_vI2, z_isN, z_notN, z_enumt, z_enuml, z_itl, z_itt, z_its, z_ixt0, z_ixt1, z_ixt2, z_lenl, z_lent, z_tyt, z_tyl, z_tyd, z_tyi, z_tyb, z_tys, z_tyn, isT_tt, isT_lt, isT_dt, isT_it, isT_bt, isT_st, isT_nt, isT_ti, isT_li, isT_di, isT_ii, isT_bi, isT_si, isT_ni, isT_tb, isT_lb, isT_db, isT_ib, isT_bb, isT_sb, isT_nb, isT_ts, isT_ls, isT_ds, isT_is, isT_bs, isT_ss, isT_ns, z_forn, z_mulx, z_lr1, z_lr1N, okR_le, dk_get, dk_set, dk_add, dk_ll, z_rdo, z_tyo, z_app, z_ext, z_star, z_lr2, z_listN, z_sqt, z_sql, z_leno, z_frz, fzL_d, z_lens, z_sls, z_sll, z_addl, z_addt, z_na10, z_dct0, z_disp, z_disp1, z_slt, z_revt, dk_rd2, dk_ty2, dk_mem1, dk_len0, z_tupl, z_tupt, z_listt, z_listl, z_in2, slots0, mVar, wipeS, pickBy, dk_rd0, dk_rd1, dk_ix0, dk_ix1, dk_ix2, dk_ne, dk_setn, dk_ty0, dk_ty1, Option.some.injEq, List.map_cons, List.map_nil, List.length_cons, List.length_nil, List.replicate_succ, List.replicate_zero, List.cons_append, List.nil_append, List.append_nil, List.getElem?_cons_zero, List.getElem?_cons_succ, List.set_cons_zero, List.set_cons_succ, List.zip_cons_cons, List.zip_nil_left, List.foldl_cons, List.foldl_nil, List.filterMap_cons, List.filterMap_nil, Nat.reduceSub, Nat.reduceAdd, Nat.reduceLT, Nat.reduceLeDiff, Nat.zero_add, Nat.add_zero, Nat.reduceEqDiff, decide_eq_true_eq, Bool.not_eq_true, Bool.not_true, Bool.not_false, Bool.not_not, ite_true, ite_false, if_true, if_false, reduceIte, Bool.false_eq_true, and_self, and_true, true_and, Int.reduceNeg, Int.reduceLT, Int.reduceLE, Int.reduceSub, Int.reduceAdd, Int.reduceMul, Int.reducePow, Int.reduceEq, Int.reduceNe, decide_true, decide_false, decide_not, Bool.and_true, Bool.true_and, Bool.or_true, Bool.true_or, ne_eq, not_true_eq_false, not_false_eq_true, Bool.and_self, false_and, and_false, reduceCtorEq, eq_self, beq_self_eq_true, List.set_nil, List.getElem?_nil, List.length_append, List.length_map, Bool.false_and, Bool.and_false, Bool.false_or, Bool.or_false, Int.cast_ofNat_Int, Int.reduceToNat, Int.zero_add, Int.add_zero, goD]⟩)
  rw [List.filter_eq_self.mpr (fun _ _ => rfl)] at L2
  obtain ⟨s6, M6, e6, os, y11, rfl, rfl, hos, hol⟩ := forL_cnt (g := g3_law) (b := l3_law) (fun u s M => ∃ (os : List PyData) (y : Option Val), s = [some (.scr ns), some (.obj 1), some (.d (.int t)), some (.d (boardD k rps (.tuple cl) ps)), some (.d (chartD k rps (.tuple cl))), some (.d (.tuple (ps.map Zm.pairD))), some (.d (.str (boardD k rps (.tuple cl) ps).shown)), some (.d (.tuple ((ps.map turnP).map Zm.pairD))), some (.d (.int n)), some (.d (.list (ms.map .int))), some (.d (.list os)), y, x12, x13, y14, y15, x16, none, none] ∧
      M = q5.mem [] ∧ (∀ o ∈ os, Tr o) ∧ os.length ≤ 20 + 10 * u) 20 ((ms.map PyData.int).map .d) 0 (by rw [List.length_map, List.length_map]; omega) (by
      rintro v hv u s M hu ⟨os, y, rfl, rfl, hos, hol⟩
      obtain ⟨x, hx, rfl⟩ := List.mem_map.mp hv
      obtain ⟨f, hf, rfl⟩ := List.mem_map.mp hx
      refine ⟨_, _, rfl, ?_⟩
      have L := compL_map (g := g4_law) (t := mYes) (e := e4_law) (M := q5.mem []) (s0 := [some (.scr ns), some (.obj 1), some (.d (.int t)), some (.d (boardD k rps (.tuple cl) ps)), some (.d (chartD k rps (.tuple cl))), some (.d (.tuple (ps.map Zm.pairD))), some (.d (.str (boardD k rps (.tuple cl) ps).shown)), some (.d (.tuple ((ps.map turnP).map Zm.pairD))), some (.d (.int n)), some (.d (.list (ms.map .int))), some (.d (.list os)), some (.d (.int f)), x12, x13, y14, y15, x16, none, none])
        PyData.int (fun _ => true) (fun g => triD "back" (f, g)) ms (fun p _ => ⟨_, rfl, rfl, fun _ => by
          unfold e4_law
          simp only [z_bok, z_bsok, z_bbad, z_bsbad, z_seqbad, z_outbad, z_asgbad, small_fmod, small_lit, fits_le, smallR_lit, z_na64, z_bif, z_bsif, z_noer, z_seqn, z_seqr, z_seqif, z_outr, z_outn, z_outif, z_C, z_op, z_T, z_tand, z_tor, z_tnot, z_and, z_or, z_not, z_if, z_nil, z_cons, z_tup, z_lst, z_new, z_allD0, z_allD1, z_map, z_sNil, z_sSeq, z_sIf, z_sDrop, z_sRet, z_sAsg, z_asg, z_asgif, z_sPar, z_gN, z_gT, z_gsNil, z_gsCons, z_obind, z_gSet, z_B, z_It, z_Enum, z_R1, z_R2, z_r1, z_r2, z_Comp, z_For, z_Yes, z_M, z_Sl, z_oN, z_oS, z_Rev, z_Neg, z_IsI, z_call, z_callK, z_chain, z_body, z_rdd, z_rds, z_int, z_vI, z_vB, z_le, z_eqi, z_nei, z_nes, z_eqs, z_vInt, z_vI2, z_isN, z_notN, z_enumt, z_enuml, z_itl, z_itt, z_its, z_ixt0, z_ixt1, z_ixt2, z_lenl, z_lent, z_tyt, z_tyl, z_tyd, z_tyi, z_tyb, z_tys, z_tyn, isT_tt, isT_lt, isT_dt, isT_it, isT_bt, isT_st, isT_nt, isT_ti, isT_li, isT_di, isT_ii, isT_bi, isT_si, isT_ni, isT_tb, isT_lb, isT_db, isT_ib, isT_bb, isT_sb, isT_nb, isT_ts, isT_ls, isT_ds, isT_is, isT_bs, isT_ss, isT_ns, z_forn, z_mulx, z_lr1, z_lr1N, okR_le, dk_get, dk_set, dk_add, dk_ll, z_rdo, z_tyo, z_app, z_ext, z_star, z_lr2, z_listN, z_sqt, z_sql, z_leno, z_frz, fzL_d, z_lens, z_sls, z_sll, z_addl, z_addt, z_na10, z_dct0, z_disp, z_disp1, z_slt, z_revt, dk_rd2, dk_ty2, dk_mem1, dk_len0, z_tupl, z_tupt, z_listt, z_listl, z_in2, slots0, mVar, wipeS, pickBy, dk_rd0, dk_rd1, dk_ix0, dk_ix1, dk_ix2, dk_ne, dk_setn, dk_ty0, dk_ty1, Option.some.injEq, List.map_cons, List.map_nil, List.length_cons, List.length_nil, List.replicate_succ, List.replicate_zero, List.cons_append, List.nil_append, List.append_nil, List.getElem?_cons_zero, List.getElem?_cons_succ, List.set_cons_zero, List.set_cons_succ, List.zip_cons_cons, List.zip_nil_left, List.foldl_cons, List.foldl_nil, List.filterMap_cons, List.filterMap_nil, Nat.reduceSub, Nat.reduceAdd, Nat.reduceLT, Nat.reduceLeDiff, Nat.zero_add, Nat.add_zero, Nat.reduceEqDiff, decide_eq_true_eq, Bool.not_eq_true, Bool.not_true, Bool.not_false, Bool.not_not, ite_true, ite_false, if_true, if_false, reduceIte, Bool.false_eq_true, and_self, and_true, true_and, Int.reduceNeg, Int.reduceLT, Int.reduceLE, Int.reduceSub, Int.reduceAdd, Int.reduceMul, Int.reducePow, Int.reduceEq, Int.reduceNe, decide_true, decide_false, decide_not, Bool.and_true, Bool.true_and, Bool.or_true, Bool.true_or, ne_eq, not_true_eq_false, not_false_eq_true, Bool.and_self, false_and, and_false, reduceCtorEq, eq_self, beq_self_eq_true, List.set_nil, List.getElem?_nil, List.length_append, List.length_map, Bool.false_and, Bool.and_false, Bool.false_or, Bool.or_false, Int.cast_ofNat_Int, Int.reduceToNat, Int.zero_add, Int.add_zero, triD]⟩)
      rw [List.filter_eq_self.mpr (fun _ _ => rfl)] at L
      have f1 : os.length + ms.length ≤ 16777216 := by omega
      unfold l3_law
      simp only [z_bok, z_bsok, z_bbad, z_bsbad, z_seqbad, z_outbad, z_asgbad, small_fmod, small_lit, fits_le, smallR_lit, z_na64, z_bif, z_bsif, z_noer, z_seqn, z_seqr, z_seqif, z_outr, z_outn, z_outif, z_C, z_op, z_T, z_tand, z_tor, z_tnot, z_and, z_or, z_not, z_if, z_nil, z_cons, z_tup, z_lst, z_new, z_allD0, z_allD1, z_map, z_sNil, z_sSeq, z_sIf, z_sDrop, z_sRet, z_sAsg, z_asg, z_asgif, z_sPar, z_gN, z_gT, z_gsNil, z_gsCons, z_obind, z_gSet, z_B, z_It, z_Enum, z_R1, z_R2, z_r1, z_r2, z_Comp, z_For, z_Yes, z_M, z_Sl, z_oN, z_oS, z_Rev, z_Neg, z_IsI, z_call, z_callK, z_chain, z_body, z_rdd, z_rds, z_int, z_vI, z_vB, z_le, z_eqi, z_nei, z_nes, z_eqs, z_vInt, z_vI2, z_isN, z_notN, z_enumt, z_enuml, z_itl, z_itt, z_its, z_ixt0, z_ixt1, z_ixt2, z_lenl, z_lent, z_tyt, z_tyl, z_tyd, z_tyi, z_tyb, z_tys, z_tyn, isT_tt, isT_lt, isT_dt, isT_it, isT_bt, isT_st, isT_nt, isT_ti, isT_li, isT_di, isT_ii, isT_bi, isT_si, isT_ni, isT_tb, isT_lb, isT_db, isT_ib, isT_bb, isT_sb, isT_nb, isT_ts, isT_ls, isT_ds, isT_is, isT_bs, isT_ss, isT_ns, z_forn, z_mulx, z_lr1, z_lr1N, okR_le, dk_get, dk_set, dk_add, dk_ll, z_rdo, z_tyo, z_app, z_ext, z_star, z_lr2, z_listN, z_sqt, z_sql, z_leno, z_frz, fzL_d, z_lens, z_sls, z_sll, z_addl, z_addt, z_na10, z_dct0, z_disp, z_disp1, z_slt, z_revt, dk_rd2, dk_ty2, dk_mem1, dk_len0, z_tupl, z_tupt, z_listt, z_listl, z_in2, slots0, mVar, wipeS, pickBy, dk_rd0, dk_rd1, dk_ix0, dk_ix1, dk_ix2, dk_ne, dk_setn, dk_ty0, dk_ty1, Option.some.injEq, List.map_cons, List.map_nil, List.length_cons, List.length_nil, List.replicate_succ, List.replicate_zero, List.cons_append, List.nil_append, List.append_nil, List.getElem?_cons_zero, List.getElem?_cons_succ, List.set_cons_zero, List.set_cons_succ, List.zip_cons_cons, List.zip_nil_left, List.foldl_cons, List.foldl_nil, List.filterMap_cons, List.filterMap_nil, Nat.reduceSub, Nat.reduceAdd, Nat.reduceLT, Nat.reduceLeDiff, Nat.zero_add, Nat.add_zero, Nat.reduceEqDiff, decide_eq_true_eq, Bool.not_eq_true, Bool.not_true, Bool.not_false, Bool.not_not, ite_true, ite_false, if_true, if_false, reduceIte, Bool.false_eq_true, and_self, and_true, true_and, Int.reduceNeg, Int.reduceLT, Int.reduceLE, Int.reduceSub, Int.reduceAdd, Int.reduceMul, Int.reducePow, Int.reduceEq, Int.reduceNe, decide_true, decide_false, decide_not, Bool.and_true, Bool.true_and, Bool.or_true, Bool.true_or, ne_eq, not_true_eq_false, not_false_eq_true, Bool.and_self, false_and, and_false, reduceCtorEq, eq_self, beq_self_eq_true, List.set_nil, List.getElem?_nil, List.length_append, List.length_map, Bool.false_and, Bool.and_false, Bool.false_or, Bool.or_false, Int.cast_ofNat_Int, Int.reduceToNat, Int.zero_add, Int.add_zero, L, z_lcK (show (ms.map fun g => triD "back" (f, g)).length ≤ 16777216 by rw [List.length_map]; omega), f1]
      refine ⟨_, _, rfl, _, _, rfl, rfl, fun o ho => ?_, by rw [List.length_append, List.length_map]; omega⟩
      rcases List.mem_append.mp ho with ho | ho
      · exact hos o ho
      · obtain ⟨g, hg2, rfl⟩ := List.mem_map.mp ho
        exact .back f g (hms2 f hf) (hms2 g hg2)) [some (.scr ns), some (.obj 1), some (.d (.int t)), some (.d (boardD k rps (.tuple cl) ps)), some (.d (chartD k rps (.tuple cl))), some (.d (.tuple (ps.map Zm.pairD))), some (.d (.str (boardD k rps (.tuple cl) ps).shown)), some (.d (.tuple ((ps.map turnP).map Zm.pairD))), some (.d (.int n)), some (.d (.list (ms.map .int))), some (.d (.list (stayD :: ms.map goD))), x11, x12, x13, y14, y15, x16, none, none] (q5.mem [])
      ⟨_, _, rfl, rfl, fun o ho => by
        rcases List.mem_cons.mp ho with rfl | ho
        · exact .stay
        · obtain ⟨g, hg2, rfl⟩ := List.mem_map.mp ho
          exact .go g (hms2 g hg2), by rw [List.length_cons, List.length_map]; omega⟩
  rw [List.length_map, List.length_map] at hol
  obtain ⟨e7, _⟩ := same_orders (q := q5) (k := k) hg hn
  have htr := ordL_tr (ps := ps) (own := p.1) (nb_small hg.rs) (fun p hp => (hg.pz p hp).1)
  have L3 := compL_map (g := g2_law) (t := mYes) (e := e2_law) (M := q5.mem []) (s0 := [some (.scr ns), some (.obj 1), some (.d (.int t)), some (.d (boardD k rps (.tuple cl) ps)), some (.d (chartD k rps (.tuple cl))), some (.d (.tuple (ps.map Zm.pairD))), some (.d (.str (boardD k rps (.tuple cl) ps).shown)), some (.d (.tuple ((ps.map turnP).map Zm.pairD))), some (.d (.int n)), some (.d (.list (ms.map .int))), some (.d (.list os)), y11, x12, none, y14, y15, x16, none, none])
    (fun x : PyData => x) (fun _ => true) (fun x => .str x.shown) (ordL rps ps p.1) (fun y hy => ⟨_, rfl, rfl, fun _ => by
      unfold e2_law
      simp only [z_bok, z_bsok, z_bbad, z_bsbad, z_seqbad, z_outbad, z_asgbad, small_fmod, small_lit, fits_le, smallR_lit, z_na64, z_bif, z_bsif, z_noer, z_seqn, z_seqr, z_seqif, z_outr, z_outn, z_outif, z_C, z_op, z_T, z_tand, z_tor, z_tnot, z_and, z_or, z_not, z_if, z_nil, z_cons, z_tup, z_lst, z_new, z_allD0, z_allD1, z_map, z_sNil, z_sSeq, z_sIf, z_sDrop, z_sRet, z_sAsg, z_asg, z_asgif, z_sPar, z_gN, z_gT, z_gsNil, z_gsCons, z_obind, z_gSet, z_B, z_It, z_Enum, z_R1, z_R2, z_r1, z_r2, z_Comp, z_For, z_Yes, z_M, z_Sl, z_oN, z_oS, z_Rev, z_Neg, z_IsI, z_call, z_callK, z_chain, z_body, z_rdd, z_rds, z_int, z_vI, z_vB, z_le, z_eqi, z_nei, z_nes, z_eqs, z_vInt, z_vI2, z_isN, z_notN, z_enumt, z_enuml, z_itl, z_itt, z_its, z_ixt0, z_ixt1, z_ixt2, z_lenl, z_lent, z_tyt, z_tyl, z_tyd, z_tyi, z_tyb, z_tys, z_tyn, isT_tt, isT_lt, isT_dt, isT_it, isT_bt, isT_st, isT_nt, isT_ti, isT_li, isT_di, isT_ii, isT_bi, isT_si, isT_ni, isT_tb, isT_lb, isT_db, isT_ib, isT_bb, isT_sb, isT_nb, isT_ts, isT_ls, isT_ds, isT_is, isT_bs, isT_ss, isT_ns, z_forn, z_mulx, z_lr1, z_lr1N, okR_le, dk_get, dk_set, dk_add, dk_ll, z_rdo, z_tyo, z_app, z_ext, z_star, z_lr2, z_listN, z_sqt, z_sql, z_leno, z_frz, fzL_d, z_lens, z_sls, z_sll, z_addl, z_addt, z_na10, z_dct0, z_disp, z_disp1, z_slt, z_revt, dk_rd2, dk_ty2, dk_mem1, dk_len0, z_tupl, z_tupt, z_listt, z_listl, z_in2, slots0, mVar, wipeS, pickBy, dk_rd0, dk_rd1, dk_ix0, dk_ix1, dk_ix2, dk_ne, dk_setn, dk_ty0, dk_ty1, Option.some.injEq, List.map_cons, List.map_nil, List.length_cons, List.length_nil, List.replicate_succ, List.replicate_zero, List.cons_append, List.nil_append, List.append_nil, List.getElem?_cons_zero, List.getElem?_cons_succ, List.set_cons_zero, List.set_cons_succ, List.zip_cons_cons, List.zip_nil_left, List.foldl_cons, List.foldl_nil, List.filterMap_cons, List.filterMap_nil, Nat.reduceSub, Nat.reduceAdd, Nat.reduceLT, Nat.reduceLeDiff, Nat.zero_add, Nat.add_zero, Nat.reduceEqDiff, decide_eq_true_eq, Bool.not_eq_true, Bool.not_true, Bool.not_false, Bool.not_not, ite_true, ite_false, if_true, if_false, reduceIte, Bool.false_eq_true, and_self, and_true, true_and, Int.reduceNeg, Int.reduceLT, Int.reduceLE, Int.reduceSub, Int.reduceAdd, Int.reduceMul, Int.reducePow, Int.reduceEq, Int.reduceNe, decide_true, decide_false, decide_not, Bool.and_true, Bool.true_and, Bool.or_true, Bool.true_or, ne_eq, not_true_eq_false, not_false_eq_true, Bool.and_self, false_and, and_false, reduceCtorEq, eq_self, beq_self_eq_true, List.set_nil, List.getElem?_nil, List.length_append, List.length_map, Bool.false_and, Bool.and_false, Bool.false_or, Bool.or_false, Int.cast_ofNat_Int, Int.reduceToNat, Int.zero_add, Int.add_zero, z_repr (htr y hy).sz]⟩)
  rw [List.filter_eq_self.mpr (fun _ _ => rfl), List.map_id'] at L3
  have hLl := (ordL_szS hg hr28 p.1).len
  obtain ⟨q8, es, e8, hp8⟩ := mixed_ok q5 (Tr.lay hos) (by omega)
  have b3 : -4611686018427387904 ≤ (ps.length : Int) := by omega
  have b4 : (ps.length : Int) < 4611686018427387904 := by omega
  have b6 : -1000 ≤ k + 1 := by omega
  have b7 : k + 1 ≤ 1000000 := by omega
  have f1 : 0 + 1 + ms.length ≤ 16777216 := by omega
  have hunf : boardD k rps (.tuple cl) ps = .tuple [chartD k rps (.tuple cl), .tuple (ps.map Zm.pairD)] := rfl
  have hch : ∀ M : Mm, vIx (.d (chartD k rps (.tuple cl))) (.d (.int 0)) M = .ok (.d (.int k)) M := fun M => z_ixt0
  have hgT : ∀ (s : Sl) (M : Mm), gT 2 (gsCons (gN 4) (gsCons (gN 5) gsNil)) (.d (boardD k rps (.tuple cl) ps)) s M = some ((s.set 4 (some (.d (chartD k rps (.tuple cl))))).set 5 (some (.d (.tuple (ps.map Zm.pairD)))), M) := fun s M => rfl
  have hsd : PyData.tuple [.str "stay"] = stayD := rfl
  have hR : range1 [.d (.int (ps.length : Int))] (q3.mem []) = .ok (rangeL 0 ps.length) (q3.mem []) := by rw [z_r1 b3 b4, Int.toNat_natCast]
  unfold l0_law
  refine seq_step (s1 := [some (.scr ns), some (.obj 1), some (.d (.int t)), some (.d (boardD k rps (.tuple cl) ps)), x4, x5, x6, x7, x8, x9, x10, x11, x12, x13, x14, x15, x16, none, none]) (M1 := q3.mem []) (by by_cases h : 0 < t <;> simp only [h, reduceIte] at e1 <;> simp only [z_bok, z_bsok, z_bbad, z_bsbad, z_seqbad, z_outbad, z_asgbad, small_fmod, small_lit, fits_le, smallR_lit, z_na64, z_bif, z_bsif, z_noer, z_seqn, z_seqr, z_seqif, z_outr, z_outn, z_outif, z_C, z_op, z_T, z_tand, z_tor, z_tnot, z_and, z_or, z_not, z_if, z_nil, z_cons, z_tup, z_lst, z_new, z_allD0, z_allD1, z_map, z_sNil, z_sSeq, z_sIf, z_sDrop, z_sRet, z_sAsg, z_asg, z_asgif, z_sPar, z_gN, z_gT, z_gsNil, z_gsCons, z_obind, z_gSet, z_B, z_It, z_Enum, z_R1, z_R2, z_r1, z_r2, z_Comp, z_For, z_Yes, z_M, z_Sl, z_oN, z_oS, z_Rev, z_Neg, z_IsI, z_call, z_callK, z_chain, z_body, z_rdd, z_rds, z_int, z_vI, z_vB, z_le, z_eqi, z_nei, z_nes, z_eqs, z_vInt, z_vI2, z_isN, z_notN, z_enumt, z_enuml, z_itl, z_itt, z_its, z_ixt0, z_ixt1, z_ixt2, z_lenl, z_lent, z_tyt, z_tyl, z_tyd, z_tyi, z_tyb, z_tys, z_tyn, isT_tt, isT_lt, isT_dt, isT_it, isT_bt, isT_st, isT_nt, isT_ti, isT_li, isT_di, isT_ii, isT_bi, isT_si, isT_ni, isT_tb, isT_lb, isT_db, isT_ib, isT_bb, isT_sb, isT_nb, isT_ts, isT_ls, isT_ds, isT_is, isT_bs, isT_ss, isT_ns, z_forn, z_mulx, z_lr1, z_lr1N, okR_le, dk_get, dk_set, dk_add, dk_ll, z_rdo, z_tyo, z_app, z_ext, z_star, z_lr2, z_listN, z_sqt, z_sql, z_leno, z_frz, fzL_d, z_lens, z_sls, z_sll, z_addl, z_addt, z_na10, z_dct0, z_disp, z_disp1, z_slt, z_revt, dk_rd2, dk_ty2, dk_mem1, dk_len0, z_tupl, z_tupt, z_listt, z_listl, z_in2, slots0, mVar, wipeS, pickBy, dk_rd0, dk_rd1, dk_ix0, dk_ix1, dk_ix2, dk_ne, dk_setn, dk_ty0, dk_ty1, Option.some.injEq, List.map_cons, List.map_nil, List.length_cons, List.length_nil, List.replicate_succ, List.replicate_zero, List.cons_append, List.nil_append, List.append_nil, List.getElem?_cons_zero, List.getElem?_cons_succ, List.set_cons_zero, List.set_cons_succ, List.zip_cons_cons, List.zip_nil_left, List.foldl_cons, List.foldl_nil, List.filterMap_cons, List.filterMap_nil, Nat.reduceSub, Nat.reduceAdd, Nat.reduceLT, Nat.reduceLeDiff, Nat.zero_add, Nat.add_zero, Nat.reduceEqDiff, decide_eq_true_eq, Bool.not_eq_true, Bool.not_true, Bool.not_false, Bool.not_not, ite_true, ite_false, if_true, if_false, reduceIte, Bool.false_eq_true, and_self, and_true, true_and, Int.reduceNeg, Int.reduceLT, Int.reduceLE, Int.reduceSub, Int.reduceAdd, Int.reduceMul, Int.reducePow, Int.reduceEq, Int.reduceNe, decide_true, decide_false, decide_not, Bool.and_true, Bool.true_and, Bool.or_true, Bool.true_or, ne_eq, not_true_eq_false, not_false_eq_true, Bool.and_self, false_and, and_false, reduceCtorEq, eq_self, beq_self_eq_true, List.set_nil, List.getElem?_nil, List.length_append, List.length_map, Bool.false_and, Bool.and_false, Bool.false_or, Bool.or_false, Int.cast_ofNat_Int, Int.reduceToNat, Int.zero_add, Int.add_zero, h, e1, e2, hk, e3]) ?_
  refine seq_step (s1 := [some (.scr ns), some (.obj 1), some (.d (.int t)), some (.d (boardD k rps (.tuple cl) ps)), some (.d (chartD k rps (.tuple cl))), some (.d (.tuple (ps.map Zm.pairD))), x6, x7, x8, x9, x10, x11, x12, x13, x14, x15, x16, none, none]) (M1 := q3.mem []) (by simp only [z_bok, z_bsok, z_bbad, z_bsbad, z_seqbad, z_outbad, z_asgbad, small_fmod, small_lit, fits_le, smallR_lit, z_na64, z_bif, z_bsif, z_noer, z_seqn, z_seqr, z_seqif, z_outr, z_outn, z_outif, z_C, z_op, z_T, z_tand, z_tor, z_tnot, z_and, z_or, z_not, z_if, z_nil, z_cons, z_tup, z_lst, z_new, z_allD0, z_allD1, z_map, z_sNil, z_sSeq, z_sIf, z_sDrop, z_sRet, z_sAsg, z_asg, z_asgif, z_sPar, z_gN, z_gT, z_gsNil, z_gsCons, z_obind, z_gSet, z_B, z_It, z_Enum, z_R1, z_R2, z_r1, z_r2, z_Comp, z_For, z_Yes, z_M, z_Sl, z_oN, z_oS, z_Rev, z_Neg, z_IsI, z_call, z_callK, z_chain, z_body, z_rdd, z_rds, z_int, z_vI, z_vB, z_le, z_eqi, z_nei, z_nes, z_eqs, z_vInt, z_vI2, z_isN, z_notN, z_enumt, z_enuml, z_itl, z_itt, z_its, z_ixt0, z_ixt1, z_ixt2, z_lenl, z_lent, z_tyt, z_tyl, z_tyd, z_tyi, z_tyb, z_tys, z_tyn, isT_tt, isT_lt, isT_dt, isT_it, isT_bt, isT_st, isT_nt, isT_ti, isT_li, isT_di, isT_ii, isT_bi, isT_si, isT_ni, isT_tb, isT_lb, isT_db, isT_ib, isT_bb, isT_sb, isT_nb, isT_ts, isT_ls, isT_ds, isT_is, isT_bs, isT_ss, isT_ns, z_forn, z_mulx, z_lr1, z_lr1N, okR_le, dk_get, dk_set, dk_add, dk_ll, z_rdo, z_tyo, z_app, z_ext, z_star, z_lr2, z_listN, z_sqt, z_sql, z_leno, z_frz, fzL_d, z_lens, z_sls, z_sll, z_addl, z_addt, z_na10, z_dct0, z_disp, z_disp1, z_slt, z_revt, dk_rd2, dk_ty2, dk_mem1, dk_len0, z_tupl, z_tupt, z_listt, z_listl, z_in2, slots0, mVar, wipeS, pickBy, dk_rd0, dk_rd1, dk_ix0, dk_ix1, dk_ix2, dk_ne, dk_setn, dk_ty0, dk_ty1, Option.some.injEq, List.map_cons, List.map_nil, List.length_cons, List.length_nil, List.replicate_succ, List.replicate_zero, List.cons_append, List.nil_append, List.append_nil, List.getElem?_cons_zero, List.getElem?_cons_succ, List.set_cons_zero, List.set_cons_succ, List.zip_cons_cons, List.zip_nil_left, List.foldl_cons, List.foldl_nil, List.filterMap_cons, List.filterMap_nil, Nat.reduceSub, Nat.reduceAdd, Nat.reduceLT, Nat.reduceLeDiff, Nat.zero_add, Nat.add_zero, Nat.reduceEqDiff, decide_eq_true_eq, Bool.not_eq_true, Bool.not_true, Bool.not_false, Bool.not_not, ite_true, ite_false, if_true, if_false, reduceIte, Bool.false_eq_true, and_self, and_true, true_and, Int.reduceNeg, Int.reduceLT, Int.reduceLE, Int.reduceSub, Int.reduceAdd, Int.reduceMul, Int.reducePow, Int.reduceEq, Int.reduceNe, decide_true, decide_false, decide_not, Bool.and_true, Bool.true_and, Bool.or_true, Bool.true_or, ne_eq, not_true_eq_false, not_false_eq_true, Bool.and_self, false_and, and_false, reduceCtorEq, eq_self, beq_self_eq_true, List.set_nil, List.getElem?_nil, List.length_append, List.length_map, Bool.false_and, Bool.and_false, Bool.false_or, Bool.or_false, Int.cast_ofNat_Int, Int.reduceToNat, Int.zero_add, Int.add_zero, hgT]) ?_
  refine seq_step (s1 := [some (.scr ns), some (.obj 1), some (.d (.int t)), some (.d (boardD k rps (.tuple cl) ps)), some (.d (chartD k rps (.tuple cl))), some (.d (.tuple (ps.map Zm.pairD))), some (.d (.str (boardD k rps (.tuple cl) ps).shown)), some (.d (.tuple ((ps.map turnP).map Zm.pairD))), x8, x9, x10, x11, x12, x13, x14, x15, x16, none, none]) (M1 := q3.mem []) (by simp only [z_bok, z_bsok, z_bbad, z_bsbad, z_seqbad, z_outbad, z_asgbad, small_fmod, small_lit, fits_le, smallR_lit, z_na64, z_bif, z_bsif, z_noer, z_seqn, z_seqr, z_seqif, z_outr, z_outn, z_outif, z_C, z_op, z_T, z_tand, z_tor, z_tnot, z_and, z_or, z_not, z_if, z_nil, z_cons, z_tup, z_lst, z_new, z_allD0, z_allD1, z_map, z_sNil, z_sSeq, z_sIf, z_sDrop, z_sRet, z_sAsg, z_asg, z_asgif, z_sPar, z_gN, z_gT, z_gsNil, z_gsCons, z_obind, z_gSet, z_B, z_It, z_Enum, z_R1, z_R2, z_r1, z_r2, z_Comp, z_For, z_Yes, z_M, z_Sl, z_oN, z_oS, z_Rev, z_Neg, z_IsI, z_call, z_callK, z_chain, z_body, z_rdd, z_rds, z_int, z_vI, z_vB, z_le, z_eqi, z_nei, z_nes, z_eqs, z_vInt, z_vI2, z_isN, z_notN, z_enumt, z_enuml, z_itl, z_itt, z_its, z_ixt0, z_ixt1, z_ixt2, z_lenl, z_lent, z_tyt, z_tyl, z_tyd, z_tyi, z_tyb, z_tys, z_tyn, isT_tt, isT_lt, isT_dt, isT_it, isT_bt, isT_st, isT_nt, isT_ti, isT_li, isT_di, isT_ii, isT_bi, isT_si, isT_ni, isT_tb, isT_lb, isT_db, isT_ib, isT_bb, isT_sb, isT_nb, isT_ts, isT_ls, isT_ds, isT_is, isT_bs, isT_ss, isT_ns, z_forn, z_mulx, z_lr1, z_lr1N, okR_le, dk_get, dk_set, dk_add, dk_ll, z_rdo, z_tyo, z_app, z_ext, z_star, z_lr2, z_listN, z_sqt, z_sql, z_leno, z_frz, fzL_d, z_lens, z_sls, z_sll, z_addl, z_addt, z_na10, z_dct0, z_disp, z_disp1, z_slt, z_revt, dk_rd2, dk_ty2, dk_mem1, dk_len0, z_tupl, z_tupt, z_listt, z_listl, z_in2, slots0, mVar, wipeS, pickBy, dk_rd0, dk_rd1, dk_ix0, dk_ix1, dk_ix2, dk_ne, dk_setn, dk_ty0, dk_ty1, Option.some.injEq, List.map_cons, List.map_nil, List.length_cons, List.length_nil, List.replicate_succ, List.replicate_zero, List.cons_append, List.nil_append, List.append_nil, List.getElem?_cons_zero, List.getElem?_cons_succ, List.set_cons_zero, List.set_cons_succ, List.zip_cons_cons, List.zip_nil_left, List.foldl_cons, List.foldl_nil, List.filterMap_cons, List.filterMap_nil, Nat.reduceSub, Nat.reduceAdd, Nat.reduceLT, Nat.reduceLeDiff, Nat.zero_add, Nat.add_zero, Nat.reduceEqDiff, decide_eq_true_eq, Bool.not_eq_true, Bool.not_true, Bool.not_false, Bool.not_not, ite_true, ite_false, if_true, if_false, reduceIte, Bool.false_eq_true, and_self, and_true, true_and, Int.reduceNeg, Int.reduceLT, Int.reduceLE, Int.reduceSub, Int.reduceAdd, Int.reduceMul, Int.reducePow, Int.reduceEq, Int.reduceNe, decide_true, decide_false, decide_not, Bool.and_true, Bool.true_and, Bool.or_true, Bool.true_or, ne_eq, not_true_eq_false, not_false_eq_true, Bool.and_self, false_and, and_false, reduceCtorEq, eq_self, beq_self_eq_true, List.set_nil, List.getElem?_nil, List.length_append, List.length_map, Bool.false_and, Bool.and_false, Bool.false_or, Bool.or_false, Int.cast_ofNat_Int, Int.reduceToNat, Int.zero_add, Int.add_zero, z_repr sB, L1, z_lcK (show ((ps.map turnP).map Zm.pairD).length ≤ 16777216 by rw [List.length_map, List.length_map]; omega)]) ?_
  refine seq_step (s1 := [some (.scr ns), some (.obj 1), some (.d (.int t)), some (.d (boardD k rps (.tuple cl) ps)), some (.d (chartD k rps (.tuple cl))), some (.d (.tuple (ps.map Zm.pairD))), some (.d (.str (boardD k rps (.tuple cl) ps).shown)), some (.d (.tuple ((ps.map turnP).map Zm.pairD))), y8, x9, x10, x11, x12, x13, y14, y15, x16, none, none]) (M1 := q3.mem []) (by
    rw [z_For, z_R1]
    have hv : mCons (mB vLen (mCons (mVar 5) mNil)) mNil [some (.scr ns), some (.obj 1), some (.d (.int t)), some (.d (boardD k rps (.tuple cl) ps)), some (.d (chartD k rps (.tuple cl))), some (.d (.tuple (ps.map Zm.pairD))), some (.d (.str (boardD k rps (.tuple cl) ps).shown)), some (.d (.tuple ((ps.map turnP).map Zm.pairD))), x8, x9, x10, x11, x12, x13, x14, x15, x16, none, none] (q3.mem []) = .ok [.d (.int (ps.length : Nat))] (q3.mem []) := by simp only [z_bok, z_bsok, z_bbad, z_bsbad, z_seqbad, z_outbad, z_asgbad, small_fmod, small_lit, fits_le, z_na64, z_bif, z_bsif, z_noer, z_seqn, z_seqr, z_seqif, z_outr, z_outn, z_outif, z_C, z_op, z_T, z_tand, z_tor, z_tnot, z_and, z_or, z_not, z_if, z_nil, z_cons, z_tup, z_lst, z_new, z_allD0, z_allD1, z_map, z_sNil, z_sSeq, z_sIf, z_sDrop, z_sRet, z_sAsg, z_asg, z_asgif, z_sPar, z_gN, z_gT, z_gsNil, z_gsCons, z_obind, z_gSet, z_B, z_It, z_Enum, z_R1, z_R2, z_Comp, z_For, z_Yes, z_M, z_Sl, z_oN, z_oS, z_Rev, z_Neg, z_IsI, z_call, z_callK, z_chain, z_body, z_rdd, z_rds, z_int, z_vI, z_vB, z_le, z_eqi, z_nei, z_nes, z_eqs, z_vInt, z_vI2, z_isN, z_notN, z_enumt, z_enuml, z_itl, z_itt, z_its, z_ixt0, z_ixt1, z_ixt2, z_lenl, z_lent, z_tyt, z_tyl, z_tyd, z_tyi, z_tyb, z_tys, z_tyn, isT_tt, isT_lt, isT_dt, isT_it, isT_bt, isT_st, isT_nt, isT_ti, isT_li, isT_di, isT_ii, isT_bi, isT_si, isT_ni, isT_tb, isT_lb, isT_db, isT_ib, isT_bb, isT_sb, isT_nb, isT_ts, isT_ls, isT_ds, isT_is, isT_bs, isT_ss, isT_ns, z_forn, z_mulx, z_lr1, z_lr1N, okR_le, dk_get, dk_set, dk_add, dk_ll, z_rdo, z_tyo, z_app, z_ext, z_star, z_lr2, z_listN, z_sqt, z_sql, z_leno, z_frz, fzL_d, z_lens, z_sls, z_sll, z_addl, z_addt, z_na10, z_dct0, z_disp, z_disp1, z_slt, z_revt, dk_rd2, dk_ty2, dk_mem1, dk_len0, z_tupl, z_tupt, z_listt, z_listl, z_in2, slots0, mVar, wipeS, pickBy, dk_rd0, dk_rd1, dk_ix0, dk_ix1, dk_ix2, dk_ne, dk_setn, dk_ty0, dk_ty1, Option.some.injEq, List.map_cons, List.map_nil, List.length_cons, List.length_nil, List.replicate_succ, List.replicate_zero, List.cons_append, List.nil_append, List.append_nil, List.getElem?_cons_zero, List.getElem?_cons_succ, List.set_cons_zero, List.set_cons_succ, List.zip_cons_cons, List.zip_nil_left, List.foldl_cons, List.foldl_nil, List.filterMap_cons, List.filterMap_nil, Nat.reduceSub, Nat.reduceAdd, Nat.reduceLT, Nat.reduceLeDiff, Nat.zero_add, Nat.add_zero, Nat.reduceEqDiff, decide_eq_true_eq, Bool.not_eq_true, Bool.not_true, Bool.not_false, Bool.not_not, ite_true, ite_false, if_true, if_false, reduceIte, Bool.false_eq_true, and_self, and_true, true_and, Int.reduceNeg, Int.reduceLT, Int.reduceLE, Int.reduceSub, Int.reduceAdd, Int.reduceMul, Int.reducePow, Int.reduceEq, Int.reduceNe, decide_true, decide_false, decide_not, Bool.and_true, Bool.true_and, Bool.or_true, Bool.true_or, ne_eq, not_true_eq_false, not_false_eq_true, Bool.and_self, false_and, and_false, reduceCtorEq, eq_self, beq_self_eq_true, List.set_nil, List.getElem?_nil, List.length_append, List.length_map, Bool.false_and, Bool.and_false, Bool.false_or, Bool.or_false, Int.cast_ofNat_Int, Int.reduceToNat, Int.zero_add, Int.add_zero]
    rw [hv, z_bok, hR, z_bsok]
    exact e4) ?_
  refine seq_step (s1 := [some (.scr ns), some (.obj 1), some (.d (.int t)), some (.d (boardD k rps (.tuple cl) ps)), some (.d (chartD k rps (.tuple cl))), some (.d (.tuple (ps.map Zm.pairD))), some (.d (.str (boardD k rps (.tuple cl) ps).shown)), some (.d (.tuple ((ps.map turnP).map Zm.pairD))), some (.d (.int n)), some (.d (.list (ms.map .int))), x10, x11, x12, x13, y14, y15, x16, none, none]) (M1 := q5.mem []) (by simp only [z_bok, z_bsok, z_bbad, z_bsbad, z_seqbad, z_outbad, z_asgbad, small_fmod, small_lit, fits_le, smallR_lit, z_na64, z_bif, z_bsif, z_noer, z_seqn, z_seqr, z_seqif, z_outr, z_outn, z_outif, z_C, z_op, z_T, z_tand, z_tor, z_tnot, z_and, z_or, z_not, z_if, z_nil, z_cons, z_tup, z_lst, z_new, z_allD0, z_allD1, z_map, z_sNil, z_sSeq, z_sIf, z_sDrop, z_sRet, z_sAsg, z_asg, z_asgif, z_sPar, z_gN, z_gT, z_gsNil, z_gsCons, z_obind, z_gSet, z_B, z_It, z_Enum, z_R1, z_R2, z_r1, z_r2, z_Comp, z_For, z_Yes, z_M, z_Sl, z_oN, z_oS, z_Rev, z_Neg, z_IsI, z_call, z_callK, z_chain, z_body, z_rdd, z_rds, z_int, z_vI, z_vB, z_le, z_eqi, z_nei, z_nes, z_eqs, z_vInt, z_vI2, z_isN, z_notN, z_enumt, z_enuml, z_itl, z_itt, z_its, z_ixt0, z_ixt1, z_ixt2, z_lenl, z_lent, z_tyt, z_tyl, z_tyd, z_tyi, z_tyb, z_tys, z_tyn, isT_tt, isT_lt, isT_dt, isT_it, isT_bt, isT_st, isT_nt, isT_ti, isT_li, isT_di, isT_ii, isT_bi, isT_si, isT_ni, isT_tb, isT_lb, isT_db, isT_ib, isT_bb, isT_sb, isT_nb, isT_ts, isT_ls, isT_ds, isT_is, isT_bs, isT_ss, isT_ns, z_forn, z_mulx, z_lr1, z_lr1N, okR_le, dk_get, dk_set, dk_add, dk_ll, z_rdo, z_tyo, z_app, z_ext, z_star, z_lr2, z_listN, z_sqt, z_sql, z_leno, z_frz, fzL_d, z_lens, z_sls, z_sll, z_addl, z_addt, z_na10, z_dct0, z_disp, z_disp1, z_slt, z_revt, dk_rd2, dk_ty2, dk_mem1, dk_len0, z_tupl, z_tupt, z_listt, z_listl, z_in2, slots0, mVar, wipeS, pickBy, dk_rd0, dk_rd1, dk_ix0, dk_ix1, dk_ix2, dk_ne, dk_setn, dk_ty0, dk_ty1, Option.some.injEq, List.map_cons, List.map_nil, List.length_cons, List.length_nil, List.replicate_succ, List.replicate_zero, List.cons_append, List.nil_append, List.append_nil, List.getElem?_cons_zero, List.getElem?_cons_succ, List.set_cons_zero, List.set_cons_succ, List.zip_cons_cons, List.zip_nil_left, List.foldl_cons, List.foldl_nil, List.filterMap_cons, List.filterMap_nil, Nat.reduceSub, Nat.reduceAdd, Nat.reduceLT, Nat.reduceLeDiff, Nat.zero_add, Nat.add_zero, Nat.reduceEqDiff, decide_eq_true_eq, Bool.not_eq_true, Bool.not_true, Bool.not_false, Bool.not_not, ite_true, ite_false, if_true, if_false, reduceIte, Bool.false_eq_true, and_self, and_true, true_and, Int.reduceNeg, Int.reduceLT, Int.reduceLE, Int.reduceSub, Int.reduceAdd, Int.reduceMul, Int.reducePow, Int.reduceEq, Int.reduceNe, decide_true, decide_false, decide_not, Bool.and_true, Bool.true_and, Bool.or_true, Bool.true_or, ne_eq, not_true_eq_false, not_false_eq_true, Bool.and_self, false_and, and_false, reduceCtorEq, eq_self, beq_self_eq_true, List.set_nil, List.getElem?_nil, List.length_append, List.length_map, Bool.false_and, Bool.and_false, Bool.false_or, Bool.or_false, Int.cast_ofNat_Int, Int.reduceToNat, Int.zero_add, Int.add_zero, e5, hch, b6, b7, hms]) ?_
  refine seq_step (s1 := [some (.scr ns), some (.obj 1), some (.d (.int t)), some (.d (boardD k rps (.tuple cl) ps)), some (.d (chartD k rps (.tuple cl))), some (.d (.tuple (ps.map Zm.pairD))), some (.d (.str (boardD k rps (.tuple cl) ps).shown)), some (.d (.tuple ((ps.map turnP).map Zm.pairD))), some (.d (.int n)), some (.d (.list (ms.map .int))), some (.d (.list (stayD :: ms.map goD))), x11, x12, x13, y14, y15, x16, none, none]) (M1 := q5.mem []) (by simp only [z_bok, z_bsok, z_bbad, z_bsbad, z_seqbad, z_outbad, z_asgbad, small_fmod, small_lit, fits_le, smallR_lit, z_na64, z_bif, z_bsif, z_noer, z_seqn, z_seqr, z_seqif, z_outr, z_outn, z_outif, z_C, z_op, z_T, z_tand, z_tor, z_tnot, z_and, z_or, z_not, z_if, z_nil, z_cons, z_tup, z_lst, z_new, z_allD0, z_allD1, z_map, z_sNil, z_sSeq, z_sIf, z_sDrop, z_sRet, z_sAsg, z_asg, z_asgif, z_sPar, z_gN, z_gT, z_gsNil, z_gsCons, z_obind, z_gSet, z_B, z_It, z_Enum, z_R1, z_R2, z_r1, z_r2, z_Comp, z_For, z_Yes, z_M, z_Sl, z_oN, z_oS, z_Rev, z_Neg, z_IsI, z_call, z_callK, z_chain, z_body, z_rdd, z_rds, z_int, z_vI, z_vB, z_le, z_eqi, z_nei, z_nes, z_eqs, z_vInt, z_vI2, z_isN, z_notN, z_enumt, z_enuml, z_itl, z_itt, z_its, z_ixt0, z_ixt1, z_ixt2, z_lenl, z_lent, z_tyt, z_tyl, z_tyd, z_tyi, z_tyb, z_tys, z_tyn, isT_tt, isT_lt, isT_dt, isT_it, isT_bt, isT_st, isT_nt, isT_ti, isT_li, isT_di, isT_ii, isT_bi, isT_si, isT_ni, isT_tb, isT_lb, isT_db, isT_ib, isT_bb, isT_sb, isT_nb, isT_ts, isT_ls, isT_ds, isT_is, isT_bs, isT_ss, isT_ns, z_forn, z_mulx, z_lr1, z_lr1N, okR_le, dk_get, dk_set, dk_add, dk_ll, z_rdo, z_tyo, z_app, z_ext, z_star, z_lr2, z_listN, z_sqt, z_sql, z_leno, z_frz, fzL_d, z_lens, z_sls, z_sll, z_addl, z_addt, z_na10, z_dct0, z_disp, z_disp1, z_slt, z_revt, dk_rd2, dk_ty2, dk_mem1, dk_len0, z_tupl, z_tupt, z_listt, z_listl, z_in2, slots0, mVar, wipeS, pickBy, dk_rd0, dk_rd1, dk_ix0, dk_ix1, dk_ix2, dk_ne, dk_setn, dk_ty0, dk_ty1, Option.some.injEq, List.map_cons, List.map_nil, List.length_cons, List.length_nil, List.replicate_succ, List.replicate_zero, List.cons_append, List.nil_append, List.append_nil, List.getElem?_cons_zero, List.getElem?_cons_succ, List.set_cons_zero, List.set_cons_succ, List.zip_cons_cons, List.zip_nil_left, List.foldl_cons, List.foldl_nil, List.filterMap_cons, List.filterMap_nil, Nat.reduceSub, Nat.reduceAdd, Nat.reduceLT, Nat.reduceLeDiff, Nat.zero_add, Nat.add_zero, Nat.reduceEqDiff, decide_eq_true_eq, Bool.not_eq_true, Bool.not_true, Bool.not_false, Bool.not_not, ite_true, ite_false, if_true, if_false, reduceIte, Bool.false_eq_true, and_self, and_true, true_and, Int.reduceNeg, Int.reduceLT, Int.reduceLE, Int.reduceSub, Int.reduceAdd, Int.reduceMul, Int.reducePow, Int.reduceEq, Int.reduceNe, decide_true, decide_false, decide_not, Bool.and_true, Bool.true_and, Bool.or_true, Bool.true_or, ne_eq, not_true_eq_false, not_false_eq_true, Bool.and_self, false_and, and_false, reduceCtorEq, eq_self, beq_self_eq_true, List.set_nil, List.getElem?_nil, List.length_append, List.length_map, Bool.false_and, Bool.and_false, Bool.false_or, Bool.or_false, Int.cast_ofNat_Int, Int.reduceToNat, Int.zero_add, Int.add_zero, L2, z_lcK (show (ms.map goD).length ≤ 16777216 by rw [List.length_map]; omega), hsd, f1]) ?_
  refine seq_step (s1 := [some (.scr ns), some (.obj 1), some (.d (.int t)), some (.d (boardD k rps (.tuple cl) ps)), some (.d (chartD k rps (.tuple cl))), some (.d (.tuple (ps.map Zm.pairD))), some (.d (.str (boardD k rps (.tuple cl) ps).shown)), some (.d (.tuple ((ps.map turnP).map Zm.pairD))), some (.d (.int n)), some (.d (.list (ms.map .int))), some (.d (.list os)), y11, x12, x13, y14, y15, x16, none, none]) (M1 := q5.mem []) (by simp only [z_bok, z_bsok, z_bbad, z_bsbad, z_seqbad, z_outbad, z_asgbad, small_fmod, small_lit, fits_le, smallR_lit, z_na64, z_bif, z_bsif, z_noer, z_seqn, z_seqr, z_seqif, z_outr, z_outn, z_outif, z_C, z_op, z_T, z_tand, z_tor, z_tnot, z_and, z_or, z_not, z_if, z_nil, z_cons, z_tup, z_lst, z_new, z_allD0, z_allD1, z_map, z_sNil, z_sSeq, z_sIf, z_sDrop, z_sRet, z_sAsg, z_asg, z_asgif, z_sPar, z_gN, z_gT, z_gsNil, z_gsCons, z_obind, z_gSet, z_B, z_It, z_Enum, z_R1, z_R2, z_r1, z_r2, z_Comp, z_For, z_Yes, z_M, z_Sl, z_oN, z_oS, z_Rev, z_Neg, z_IsI, z_call, z_callK, z_chain, z_body, z_rdd, z_rds, z_int, z_vI, z_vB, z_le, z_eqi, z_nei, z_nes, z_eqs, z_vInt, z_vI2, z_isN, z_notN, z_enumt, z_enuml, z_itl, z_itt, z_its, z_ixt0, z_ixt1, z_ixt2, z_lenl, z_lent, z_tyt, z_tyl, z_tyd, z_tyi, z_tyb, z_tys, z_tyn, isT_tt, isT_lt, isT_dt, isT_it, isT_bt, isT_st, isT_nt, isT_ti, isT_li, isT_di, isT_ii, isT_bi, isT_si, isT_ni, isT_tb, isT_lb, isT_db, isT_ib, isT_bb, isT_sb, isT_nb, isT_ts, isT_ls, isT_ds, isT_is, isT_bs, isT_ss, isT_ns, z_forn, z_mulx, z_lr1, z_lr1N, okR_le, dk_get, dk_set, dk_add, dk_ll, z_rdo, z_tyo, z_app, z_ext, z_star, z_lr2, z_listN, z_sqt, z_sql, z_leno, z_frz, fzL_d, z_lens, z_sls, z_sll, z_addl, z_addt, z_na10, z_dct0, z_disp, z_disp1, z_slt, z_revt, dk_rd2, dk_ty2, dk_mem1, dk_len0, z_tupl, z_tupt, z_listt, z_listl, z_in2, slots0, mVar, wipeS, pickBy, dk_rd0, dk_rd1, dk_ix0, dk_ix1, dk_ix2, dk_ne, dk_setn, dk_ty0, dk_ty1, Option.some.injEq, List.map_cons, List.map_nil, List.length_cons, List.length_nil, List.replicate_succ, List.replicate_zero, List.cons_append, List.nil_append, List.append_nil, List.getElem?_cons_zero, List.getElem?_cons_succ, List.set_cons_zero, List.set_cons_succ, List.zip_cons_cons, List.zip_nil_left, List.foldl_cons, List.foldl_nil, List.filterMap_cons, List.filterMap_nil, Nat.reduceSub, Nat.reduceAdd, Nat.reduceLT, Nat.reduceLeDiff, Nat.zero_add, Nat.add_zero, Nat.reduceEqDiff, decide_eq_true_eq, Bool.not_eq_true, Bool.not_true, Bool.not_false, Bool.not_not, ite_true, ite_false, if_true, if_false, reduceIte, Bool.false_eq_true, and_self, and_true, true_and, Int.reduceNeg, Int.reduceLT, Int.reduceLE, Int.reduceSub, Int.reduceAdd, Int.reduceMul, Int.reducePow, Int.reduceEq, Int.reduceNe, decide_true, decide_false, decide_not, Bool.and_true, Bool.true_and, Bool.or_true, Bool.true_or, ne_eq, not_true_eq_false, not_false_eq_true, Bool.and_self, false_and, and_false, reduceCtorEq, eq_self, beq_self_eq_true, List.set_nil, List.getElem?_nil, List.length_append, List.length_map, Bool.false_and, Bool.and_false, Bool.false_or, Bool.or_false, Int.cast_ofNat_Int, Int.reduceToNat, Int.zero_add, Int.add_zero, e6]) ?_
  refine seq_step (s1 := [some (.scr ns), some (.obj 1), some (.d (.int t)), some (.d (boardD k rps (.tuple cl) ps)), some (.d (chartD k rps (.tuple cl))), some (.d (.tuple (ps.map Zm.pairD))), some (.d (.str (boardD k rps (.tuple cl) ps).shown)), some (.d (.tuple ((ps.map turnP).map Zm.pairD))), some (.d (.int n)), some (.d (.list (ms.map .int))), some (.d (.list os)), y11, some (.d (.list ((ordL rps ps p.1).map fun x => .str x.shown))), x13, y14, y15, x16, none, none]) (M1 := q5.mem []) (by simp only [z_bok, z_bsok, z_bbad, z_bsbad, z_seqbad, z_outbad, z_asgbad, small_fmod, small_lit, fits_le, smallR_lit, z_na64, z_bif, z_bsif, z_noer, z_seqn, z_seqr, z_seqif, z_outr, z_outn, z_outif, z_C, z_op, z_T, z_tand, z_tor, z_tnot, z_and, z_or, z_not, z_if, z_nil, z_cons, z_tup, z_lst, z_new, z_allD0, z_allD1, z_map, z_sNil, z_sSeq, z_sIf, z_sDrop, z_sRet, z_sAsg, z_asg, z_asgif, z_sPar, z_gN, z_gT, z_gsNil, z_gsCons, z_obind, z_gSet, z_B, z_It, z_Enum, z_R1, z_R2, z_r1, z_r2, z_Comp, z_For, z_Yes, z_M, z_Sl, z_oN, z_oS, z_Rev, z_Neg, z_IsI, z_call, z_callK, z_chain, z_body, z_rdd, z_rds, z_int, z_vI, z_vB, z_le, z_eqi, z_nei, z_nes, z_eqs, z_vInt, z_vI2, z_isN, z_notN, z_enumt, z_enuml, z_itl, z_itt, z_its, z_ixt0, z_ixt1, z_ixt2, z_lenl, z_lent, z_tyt, z_tyl, z_tyd, z_tyi, z_tyb, z_tys, z_tyn, isT_tt, isT_lt, isT_dt, isT_it, isT_bt, isT_st, isT_nt, isT_ti, isT_li, isT_di, isT_ii, isT_bi, isT_si, isT_ni, isT_tb, isT_lb, isT_db, isT_ib, isT_bb, isT_sb, isT_nb, isT_ts, isT_ls, isT_ds, isT_is, isT_bs, isT_ss, isT_ns, z_forn, z_mulx, z_lr1, z_lr1N, okR_le, dk_get, dk_set, dk_add, dk_ll, z_rdo, z_tyo, z_app, z_ext, z_star, z_lr2, z_listN, z_sqt, z_sql, z_leno, z_frz, fzL_d, z_lens, z_sls, z_sll, z_addl, z_addt, z_na10, z_dct0, z_disp, z_disp1, z_slt, z_revt, dk_rd2, dk_ty2, dk_mem1, dk_len0, z_tupl, z_tupt, z_listt, z_listl, z_in2, slots0, mVar, wipeS, pickBy, dk_rd0, dk_rd1, dk_ix0, dk_ix1, dk_ix2, dk_ne, dk_setn, dk_ty0, dk_ty1, Option.some.injEq, List.map_cons, List.map_nil, List.length_cons, List.length_nil, List.replicate_succ, List.replicate_zero, List.cons_append, List.nil_append, List.append_nil, List.getElem?_cons_zero, List.getElem?_cons_succ, List.set_cons_zero, List.set_cons_succ, List.zip_cons_cons, List.zip_nil_left, List.foldl_cons, List.foldl_nil, List.filterMap_cons, List.filterMap_nil, Nat.reduceSub, Nat.reduceAdd, Nat.reduceLT, Nat.reduceLeDiff, Nat.zero_add, Nat.add_zero, Nat.reduceEqDiff, decide_eq_true_eq, Bool.not_eq_true, Bool.not_true, Bool.not_false, Bool.not_not, ite_true, ite_false, if_true, if_false, reduceIte, Bool.false_eq_true, and_self, and_true, true_and, Int.reduceNeg, Int.reduceLT, Int.reduceLE, Int.reduceSub, Int.reduceAdd, Int.reduceMul, Int.reducePow, Int.reduceEq, Int.reduceNe, decide_true, decide_false, decide_not, Bool.and_true, Bool.true_and, Bool.or_true, Bool.true_or, ne_eq, not_true_eq_false, not_false_eq_true, Bool.and_self, false_and, and_false, reduceCtorEq, eq_self, beq_self_eq_true, List.set_nil, List.getElem?_nil, List.length_append, List.length_map, Bool.false_and, Bool.and_false, Bool.false_or, Bool.or_false, Int.cast_ofNat_Int, Int.reduceToNat, Int.zero_add, Int.add_zero, e7, L3, z_lcK (show ((ordL rps ps p.1).map fun x => PyData.str x.shown).length ≤ 16777216 by rw [List.length_map]; omega)]) ?_
  by_cases h0 : t = 0
  · have hh0 : decide (t = 0) = true := decide_eq_true h0
    obtain ⟨s9, M9, e9, ⟨z13, z16, rfl⟩, rfl⟩ := order_loop (k := k) (q := q5) (c0 := some (.scr ns)) (c2 := some (.d (.int t))) (c4 := some (.d (chartD k rps (.tuple cl)))) (c6 := some (.d (.str (boardD k rps (.tuple cl) ps).shown))) (c7 := some (.d (.tuple ((ps.map turnP).map Zm.pairD)))) (c9 := some (.d (.list (ms.map .int)))) (c10 := some (.d (.list os))) (c11 := y11) (c14 := y14) (c15 := y15) (c17 := none) (c18 := none) hn hg hos (a13 := x13) (a16 := x16)
    refine seq_step (s1 := [some (.scr ns), some (.obj 1), some (.d (.int t)), some (.d (boardD k rps (.tuple cl) ps)), some (.d (chartD k rps (.tuple cl))), some (.d (.tuple (ps.map Zm.pairD))), some (.d (.str (boardD k rps (.tuple cl) ps).shown)), some (.d (.tuple ((ps.map turnP).map Zm.pairD))), some (.d (.int n)), some (.d (.list (ms.map .int))), some (.d (.list os)), y11, some (.d (.list ((ordL rps ps p.1).map fun x => .str x.shown))), z13, y14, y15, z16, none, none]) (M1 := q5.mem []) (by simp only [z_bok, z_bsok, z_bbad, z_bsbad, z_seqbad, z_outbad, z_asgbad, small_fmod, small_lit, fits_le, smallR_lit, z_na64, z_bif, z_bsif, z_noer, z_seqn, z_seqr, z_seqif, z_outr, z_outn, z_outif, z_C, z_op, z_T, z_tand, z_tor, z_tnot, z_and, z_or, z_not, z_if, z_nil, z_cons, z_tup, z_lst, z_new, z_allD0, z_allD1, z_map, z_sNil, z_sSeq, z_sIf, z_sDrop, z_sRet, z_sAsg, z_asg, z_asgif, z_sPar, z_gN, z_gT, z_gsNil, z_gsCons, z_obind, z_gSet, z_B, z_It, z_Enum, z_R1, z_R2, z_r1, z_r2, z_Comp, z_For, z_Yes, z_M, z_Sl, z_oN, z_oS, z_Rev, z_Neg, z_IsI, z_call, z_callK, z_chain, z_body, z_rdd, z_rds, z_int, z_vI, z_vB, z_le, z_eqi, z_nei, z_nes, z_eqs, z_vInt, z_vI2, z_isN, z_notN, z_enumt, z_enuml, z_itl, z_itt, z_its, z_ixt0, z_ixt1, z_ixt2, z_lenl, z_lent, z_tyt, z_tyl, z_tyd, z_tyi, z_tyb, z_tys, z_tyn, isT_tt, isT_lt, isT_dt, isT_it, isT_bt, isT_st, isT_nt, isT_ti, isT_li, isT_di, isT_ii, isT_bi, isT_si, isT_ni, isT_tb, isT_lb, isT_db, isT_ib, isT_bb, isT_sb, isT_nb, isT_ts, isT_ls, isT_ds, isT_is, isT_bs, isT_ss, isT_ns, z_forn, z_mulx, z_lr1, z_lr1N, okR_le, dk_get, dk_set, dk_add, dk_ll, z_rdo, z_tyo, z_app, z_ext, z_star, z_lr2, z_listN, z_sqt, z_sql, z_leno, z_frz, fzL_d, z_lens, z_sls, z_sll, z_addl, z_addt, z_na10, z_dct0, z_disp, z_disp1, z_slt, z_revt, dk_rd2, dk_ty2, dk_mem1, dk_len0, z_tupl, z_tupt, z_listt, z_listl, z_in2, slots0, mVar, wipeS, pickBy, dk_rd0, dk_rd1, dk_ix0, dk_ix1, dk_ix2, dk_ne, dk_setn, dk_ty0, dk_ty1, Option.some.injEq, List.map_cons, List.map_nil, List.length_cons, List.length_nil, List.replicate_succ, List.replicate_zero, List.cons_append, List.nil_append, List.append_nil, List.getElem?_cons_zero, List.getElem?_cons_succ, List.set_cons_zero, List.set_cons_succ, List.zip_cons_cons, List.zip_nil_left, List.foldl_cons, List.foldl_nil, List.filterMap_cons, List.filterMap_nil, Nat.reduceSub, Nat.reduceAdd, Nat.reduceLT, Nat.reduceLeDiff, Nat.zero_add, Nat.add_zero, Nat.reduceEqDiff, decide_eq_true_eq, Bool.not_eq_true, Bool.not_true, Bool.not_false, Bool.not_not, ite_true, ite_false, if_true, if_false, reduceIte, Bool.false_eq_true, and_self, and_true, true_and, Int.reduceNeg, Int.reduceLT, Int.reduceLE, Int.reduceSub, Int.reduceAdd, Int.reduceMul, Int.reducePow, Int.reduceEq, Int.reduceNe, decide_true, decide_false, decide_not, Bool.and_true, Bool.true_and, Bool.or_true, Bool.true_or, ne_eq, not_true_eq_false, not_false_eq_true, Bool.and_self, false_and, and_false, reduceCtorEq, eq_self, beq_self_eq_true, List.set_nil, List.getElem?_nil, List.length_append, List.length_map, Bool.false_and, Bool.and_false, Bool.false_or, Bool.or_false, Int.cast_ofNat_Int, Int.reduceToNat, Int.zero_add, Int.add_zero, hh0, e9]) ?_
    exact ⟨_, _, (by simp only [z_bok, z_bsok, z_bbad, z_bsbad, z_seqbad, z_outbad, z_asgbad, small_fmod, small_lit, fits_le, smallR_lit, z_na64, z_bif, z_bsif, z_noer, z_seqn, z_seqr, z_seqif, z_outr, z_outn, z_outif, z_C, z_op, z_T, z_tand, z_tor, z_tnot, z_and, z_or, z_not, z_if, z_nil, z_cons, z_tup, z_lst, z_new, z_allD0, z_allD1, z_map, z_sNil, z_sSeq, z_sIf, z_sDrop, z_sRet, z_sAsg, z_asg, z_asgif, z_sPar, z_gN, z_gT, z_gsNil, z_gsCons, z_obind, z_gSet, z_B, z_It, z_Enum, z_R1, z_R2, z_r1, z_r2, z_Comp, z_For, z_Yes, z_M, z_Sl, z_oN, z_oS, z_Rev, z_Neg, z_IsI, z_call, z_callK, z_chain, z_body, z_rdd, z_rds, z_int, z_vI, z_vB, z_le, z_eqi, z_nei, z_nes, z_eqs, z_vInt, z_vI2, z_isN, z_notN, z_enumt, z_enuml, z_itl, z_itt, z_its, z_ixt0, z_ixt1, z_ixt2, z_lenl, z_lent, z_tyt, z_tyl, z_tyd, z_tyi, z_tyb, z_tys, z_tyn, isT_tt, isT_lt, isT_dt, isT_it, isT_bt, isT_st, isT_nt, isT_ti, isT_li, isT_di, isT_ii, isT_bi, isT_si, isT_ni, isT_tb, isT_lb, isT_db, isT_ib, isT_bb, isT_sb, isT_nb, isT_ts, isT_ls, isT_ds, isT_is, isT_bs, isT_ss, isT_ns, z_forn, z_mulx, z_lr1, z_lr1N, okR_le, dk_get, dk_set, dk_add, dk_ll, z_rdo, z_tyo, z_app, z_ext, z_star, z_lr2, z_listN, z_sqt, z_sql, z_leno, z_frz, fzL_d, z_lens, z_sls, z_sll, z_addl, z_addt, z_na10, z_dct0, z_disp, z_disp1, z_slt, z_revt, dk_rd2, dk_ty2, dk_mem1, dk_len0, z_tupl, z_tupt, z_listt, z_listl, z_in2, slots0, mVar, wipeS, pickBy, dk_rd0, dk_rd1, dk_ix0, dk_ix1, dk_ix2, dk_ne, dk_setn, dk_ty0, dk_ty1, Option.some.injEq, List.map_cons, List.map_nil, List.length_cons, List.length_nil, List.replicate_succ, List.replicate_zero, List.cons_append, List.nil_append, List.append_nil, List.getElem?_cons_zero, List.getElem?_cons_succ, List.set_cons_zero, List.set_cons_succ, List.zip_cons_cons, List.zip_nil_left, List.foldl_cons, List.foldl_nil, List.filterMap_cons, List.filterMap_nil, Nat.reduceSub, Nat.reduceAdd, Nat.reduceLT, Nat.reduceLeDiff, Nat.zero_add, Nat.add_zero, Nat.reduceEqDiff, decide_eq_true_eq, Bool.not_eq_true, Bool.not_true, Bool.not_false, Bool.not_not, ite_true, ite_false, if_true, if_false, reduceIte, Bool.false_eq_true, and_self, and_true, true_and, Int.reduceNeg, Int.reduceLT, Int.reduceLE, Int.reduceSub, Int.reduceAdd, Int.reduceMul, Int.reducePow, Int.reduceEq, Int.reduceNe, decide_true, decide_false, decide_not, Bool.and_true, Bool.true_and, Bool.or_true, Bool.true_or, ne_eq, not_true_eq_false, not_false_eq_true, Bool.and_self, false_and, and_false, reduceCtorEq, eq_self, beq_self_eq_true, List.set_nil, List.getElem?_nil, List.length_append, List.length_map, Bool.false_and, Bool.and_false, Bool.false_or, Bool.or_false, Int.cast_ofNat_Int, Int.reduceToNat, Int.zero_add, Int.add_zero, z_repr sB]; rfl), q5, _, _, _, _, _, _, _, _, _, _, _, _, _, _, rfl, rfl⟩
  · have hh0 : decide (t = 0) = false := decide_eq_false h0
    obtain ⟨s9, M9, e9, ⟨z13, z16, rfl⟩, rfl⟩ := order_loop (k := k) (q := q8) (c0 := some (.scr ns)) (c2 := some (.d (.int t))) (c4 := some (.d (chartD k rps (.tuple cl)))) (c6 := some (.d (.str (boardD k rps (.tuple cl) ps).shown))) (c7 := some (.d (.tuple ((ps.map turnP).map Zm.pairD)))) (c9 := some (.d (.list (ms.map .int)))) (c10 := some (.d (.list os))) (c11 := y11) (c14 := y14) (c15 := y15) (c17 := none) (c18 := none) hn hg (os := cutL es none (some 12)) (fun o ho => hos o (hp8.mem_iff.mp ((cutL_sub _ _ _).mem ho))) (a13 := x13) (a16 := x16)
    refine seq_step (s1 := [some (.scr ns), some (.obj 1), some (.d (.int t)), some (.d (boardD k rps (.tuple cl) ps)), some (.d (chartD k rps (.tuple cl))), some (.d (.tuple (ps.map Zm.pairD))), some (.d (.str (boardD k rps (.tuple cl) ps).shown)), some (.d (.tuple ((ps.map turnP).map Zm.pairD))), some (.d (.int n)), some (.d (.list (ms.map .int))), some (.d (.list os)), y11, some (.d (.list ((ordL rps ps p.1).map fun x => .str x.shown))), z13, y14, y15, z16, none, none]) (M1 := q8.mem []) (by simp only [z_bok, z_bsok, z_bbad, z_bsbad, z_seqbad, z_outbad, z_asgbad, small_fmod, small_lit, fits_le, smallR_lit, z_na64, z_bif, z_bsif, z_noer, z_seqn, z_seqr, z_seqif, z_outr, z_outn, z_outif, z_C, z_op, z_T, z_tand, z_tor, z_tnot, z_and, z_or, z_not, z_if, z_nil, z_cons, z_tup, z_lst, z_new, z_allD0, z_allD1, z_map, z_sNil, z_sSeq, z_sIf, z_sDrop, z_sRet, z_sAsg, z_asg, z_asgif, z_sPar, z_gN, z_gT, z_gsNil, z_gsCons, z_obind, z_gSet, z_B, z_It, z_Enum, z_R1, z_R2, z_r1, z_r2, z_Comp, z_For, z_Yes, z_M, z_Sl, z_oN, z_oS, z_Rev, z_Neg, z_IsI, z_call, z_callK, z_chain, z_body, z_rdd, z_rds, z_int, z_vI, z_vB, z_le, z_eqi, z_nei, z_nes, z_eqs, z_vInt, z_vI2, z_isN, z_notN, z_enumt, z_enuml, z_itl, z_itt, z_its, z_ixt0, z_ixt1, z_ixt2, z_lenl, z_lent, z_tyt, z_tyl, z_tyd, z_tyi, z_tyb, z_tys, z_tyn, isT_tt, isT_lt, isT_dt, isT_it, isT_bt, isT_st, isT_nt, isT_ti, isT_li, isT_di, isT_ii, isT_bi, isT_si, isT_ni, isT_tb, isT_lb, isT_db, isT_ib, isT_bb, isT_sb, isT_nb, isT_ts, isT_ls, isT_ds, isT_is, isT_bs, isT_ss, isT_ns, z_forn, z_mulx, z_lr1, z_lr1N, okR_le, dk_get, dk_set, dk_add, dk_ll, z_rdo, z_tyo, z_app, z_ext, z_star, z_lr2, z_listN, z_sqt, z_sql, z_leno, z_frz, fzL_d, z_lens, z_sls, z_sll, z_addl, z_addt, z_na10, z_dct0, z_disp, z_disp1, z_slt, z_revt, dk_rd2, dk_ty2, dk_mem1, dk_len0, z_tupl, z_tupt, z_listt, z_listl, z_in2, slots0, mVar, wipeS, pickBy, dk_rd0, dk_rd1, dk_ix0, dk_ix1, dk_ix2, dk_ne, dk_setn, dk_ty0, dk_ty1, Option.some.injEq, List.map_cons, List.map_nil, List.length_cons, List.length_nil, List.replicate_succ, List.replicate_zero, List.cons_append, List.nil_append, List.append_nil, List.getElem?_cons_zero, List.getElem?_cons_succ, List.set_cons_zero, List.set_cons_succ, List.zip_cons_cons, List.zip_nil_left, List.foldl_cons, List.foldl_nil, List.filterMap_cons, List.filterMap_nil, Nat.reduceSub, Nat.reduceAdd, Nat.reduceLT, Nat.reduceLeDiff, Nat.zero_add, Nat.add_zero, Nat.reduceEqDiff, decide_eq_true_eq, Bool.not_eq_true, Bool.not_true, Bool.not_false, Bool.not_not, ite_true, ite_false, if_true, if_false, reduceIte, Bool.false_eq_true, and_self, and_true, true_and, Int.reduceNeg, Int.reduceLT, Int.reduceLE, Int.reduceSub, Int.reduceAdd, Int.reduceMul, Int.reducePow, Int.reduceEq, Int.reduceNe, decide_true, decide_false, decide_not, Bool.and_true, Bool.true_and, Bool.or_true, Bool.true_or, ne_eq, not_true_eq_false, not_false_eq_true, Bool.and_self, false_and, and_false, reduceCtorEq, eq_self, beq_self_eq_true, List.set_nil, List.getElem?_nil, List.length_append, List.length_map, Bool.false_and, Bool.and_false, Bool.false_or, Bool.or_false, Int.cast_ofNat_Int, Int.reduceToNat, Int.zero_add, Int.add_zero, hh0, e8, e9]) ?_
    exact ⟨_, _, (by simp only [z_bok, z_bsok, z_bbad, z_bsbad, z_seqbad, z_outbad, z_asgbad, small_fmod, small_lit, fits_le, smallR_lit, z_na64, z_bif, z_bsif, z_noer, z_seqn, z_seqr, z_seqif, z_outr, z_outn, z_outif, z_C, z_op, z_T, z_tand, z_tor, z_tnot, z_and, z_or, z_not, z_if, z_nil, z_cons, z_tup, z_lst, z_new, z_allD0, z_allD1, z_map, z_sNil, z_sSeq, z_sIf, z_sDrop, z_sRet, z_sAsg, z_asg, z_asgif, z_sPar, z_gN, z_gT, z_gsNil, z_gsCons, z_obind, z_gSet, z_B, z_It, z_Enum, z_R1, z_R2, z_r1, z_r2, z_Comp, z_For, z_Yes, z_M, z_Sl, z_oN, z_oS, z_Rev, z_Neg, z_IsI, z_call, z_callK, z_chain, z_body, z_rdd, z_rds, z_int, z_vI, z_vB, z_le, z_eqi, z_nei, z_nes, z_eqs, z_vInt, z_vI2, z_isN, z_notN, z_enumt, z_enuml, z_itl, z_itt, z_its, z_ixt0, z_ixt1, z_ixt2, z_lenl, z_lent, z_tyt, z_tyl, z_tyd, z_tyi, z_tyb, z_tys, z_tyn, isT_tt, isT_lt, isT_dt, isT_it, isT_bt, isT_st, isT_nt, isT_ti, isT_li, isT_di, isT_ii, isT_bi, isT_si, isT_ni, isT_tb, isT_lb, isT_db, isT_ib, isT_bb, isT_sb, isT_nb, isT_ts, isT_ls, isT_ds, isT_is, isT_bs, isT_ss, isT_ns, z_forn, z_mulx, z_lr1, z_lr1N, okR_le, dk_get, dk_set, dk_add, dk_ll, z_rdo, z_tyo, z_app, z_ext, z_star, z_lr2, z_listN, z_sqt, z_sql, z_leno, z_frz, fzL_d, z_lens, z_sls, z_sll, z_addl, z_addt, z_na10, z_dct0, z_disp, z_disp1, z_slt, z_revt, dk_rd2, dk_ty2, dk_mem1, dk_len0, z_tupl, z_tupt, z_listt, z_listl, z_in2, slots0, mVar, wipeS, pickBy, dk_rd0, dk_rd1, dk_ix0, dk_ix1, dk_ix2, dk_ne, dk_setn, dk_ty0, dk_ty1, Option.some.injEq, List.map_cons, List.map_nil, List.length_cons, List.length_nil, List.replicate_succ, List.replicate_zero, List.cons_append, List.nil_append, List.append_nil, List.getElem?_cons_zero, List.getElem?_cons_succ, List.set_cons_zero, List.set_cons_succ, List.zip_cons_cons, List.zip_nil_left, List.foldl_cons, List.foldl_nil, List.filterMap_cons, List.filterMap_nil, Nat.reduceSub, Nat.reduceAdd, Nat.reduceLT, Nat.reduceLeDiff, Nat.zero_add, Nat.add_zero, Nat.reduceEqDiff, decide_eq_true_eq, Bool.not_eq_true, Bool.not_true, Bool.not_false, Bool.not_not, ite_true, ite_false, if_true, if_false, reduceIte, Bool.false_eq_true, and_self, and_true, true_and, Int.reduceNeg, Int.reduceLT, Int.reduceLE, Int.reduceSub, Int.reduceAdd, Int.reduceMul, Int.reducePow, Int.reduceEq, Int.reduceNe, decide_true, decide_false, decide_not, Bool.and_true, Bool.true_and, Bool.or_true, Bool.true_or, ne_eq, not_true_eq_false, not_false_eq_true, Bool.and_self, false_and, and_false, reduceCtorEq, eq_self, beq_self_eq_true, List.set_nil, List.getElem?_nil, List.length_append, List.length_map, Bool.false_and, Bool.and_false, Bool.false_or, Bool.or_false, Int.cast_ofNat_Int, Int.reduceToNat, Int.zero_add, Int.add_zero, z_repr sB]; rfl), q8, _, _, _, _, _, _, _, _, _, _, _, _, _, _, rfl, rfl⟩
end
theorem law_true (ns : List Int) (hl : ns.length ≤ 63) : ∃ M', d_law [.scr ns] [] = .ok (.d (.bool true)) M' := by
  obtain ⟨q, e⟩ := deck_ok hl
  obtain ⟨r, q0, e0, a0, b0⟩ := draw_ok q [] (m := 3) (by decide) (by decide)
  obtain ⟨qw, ew⟩ := wide_right q0
  have main : ∀ q1 : Dk, ∃ (q2 : Dk) (s' : Sl), forL g0_law l0_law (rangeL 0 3) [some (.scr ns), some (.obj 1), none, none, none, none, none, none, none, none, none, none, none, none, none, none, none, none, none] (q1.mem []) = .nx s' (q2.mem []) := by
    intro q1
    obtain ⟨s1, M1, e1, q2, x2, x3, x4, x5, x6, x7, x8, x9, x10, x11, x12, x13, x14, x15, x16, rfl, rfl⟩ := forL_inv (g := g0_law) (b := l0_law)
      (fun s M => ∃ (q : Dk) (x2 x3 x4 x5 x6 x7 x8 x9 x10 x11 x12 x13 x14 x15 x16 : Option Val), s = [some (.scr ns), some (.obj 1), x2, x3, x4, x5, x6, x7, x8, x9, x10, x11, x12, x13, x14, x15, x16, none, none] ∧ M = q.mem []) (rangeL 0 3) (by
        rintro v hv s M ⟨q, x2, x3, x4, x5, x6, x7, x8, x9, x10, x11, x12, x13, x14, x15, x16, rfl, rfl⟩
        obtain ⟨t, rfl, ht, _⟩ := rangeL_mem hv
        refine ⟨_, _, rfl, ?_⟩
        obtain ⟨s', M', e, q', y3, y4, y5, y6, y7, y8, y9, y10, y11, y12, y13, y14, y15, y16, rfl, rfl⟩ := one_turn (q := q) (ns := ns) (t := t) (x3 := x3) (x4 := x4) (x5 := x5) (x6 := x6) (x7 := x7) (x8 := x8) (x9 := x9) (x10 := x10) (x11 := x11) (x12 := x12) (x13 := x13) (x14 := x14) (x15 := x15) (x16 := x16) ht
        exact ⟨_, _, e, q', _, y3, y4, y5, y6, y7, y8, y9, y10, y11, y12, y13, y14, y15, y16, rfl, rfl⟩) [some (.scr ns), some (.obj 1), none, none, none, none, none, none, none, none, none, none, none, none, none, none, none, none, none] (q1.mem []) ⟨q1, _, _, _, _, _, _, _, _, _, _, _, _, _, _, _, rfl, rfl⟩
    exact ⟨q2, _, e1⟩
  by_cases h : r = 0
  · obtain ⟨q2, s', e1⟩ := main qw
    refine ⟨_, z_trimc (M1 := []) (R := q2.mem []) ?_ rfl rfl⟩
    unfold b_law
    simp only [z_bok, z_bsok, z_bbad, z_bsbad, z_seqbad, z_outbad, z_asgbad, small_fmod, small_lit, fits_le, smallR_lit, z_na64, z_bif, z_bsif, z_noer, z_seqn, z_seqr, z_seqif, z_outr, z_outn, z_outif, z_C, z_op, z_T, z_tand, z_tor, z_tnot, z_and, z_or, z_not, z_if, z_nil, z_cons, z_tup, z_lst, z_new, z_allD0, z_allD1, z_map, z_sNil, z_sSeq, z_sIf, z_sDrop, z_sRet, z_sAsg, z_asg, z_asgif, z_sPar, z_gN, z_gT, z_gsNil, z_gsCons, z_obind, z_gSet, z_B, z_It, z_Enum, z_R1, z_R2, z_r1, z_r2, z_Comp, z_For, z_Yes, z_M, z_Sl, z_oN, z_oS, z_Rev, z_Neg, z_IsI, z_call, z_callK, z_chain, z_body, z_rdd, z_rds, z_int, z_vI, z_vB, z_le, z_eqi, z_nei, z_nes, z_eqs, z_vInt, z_vI2, z_isN, z_notN, z_enumt, z_enuml, z_itl, z_itt, z_its, z_ixt0, z_ixt1, z_ixt2, z_lenl, z_lent, z_tyt, z_tyl, z_tyd, z_tyi, z_tyb, z_tys, z_tyn, isT_tt, isT_lt, isT_dt, isT_it, isT_bt, isT_st, isT_nt, isT_ti, isT_li, isT_di, isT_ii, isT_bi, isT_si, isT_ni, isT_tb, isT_lb, isT_db, isT_ib, isT_bb, isT_sb, isT_nb, isT_ts, isT_ls, isT_ds, isT_is, isT_bs, isT_ss, isT_ns, z_forn, z_mulx, z_lr1, z_lr1N, okR_le, dk_get, dk_set, dk_add, dk_ll, z_rdo, z_tyo, z_app, z_ext, z_star, z_lr2, z_listN, z_sqt, z_sql, z_leno, z_frz, fzL_d, z_lens, z_sls, z_sll, z_addl, z_addt, z_na10, z_dct0, z_disp, z_disp1, z_slt, z_revt, dk_rd2, dk_ty2, dk_mem1, dk_len0, z_tupl, z_tupt, z_listt, z_listl, z_in2, slots0, mVar, wipeS, pickBy, dk_rd0, dk_rd1, dk_ix0, dk_ix1, dk_ix2, dk_ne, dk_setn, dk_ty0, dk_ty1, Option.some.injEq, List.map_cons, List.map_nil, List.length_cons, List.length_nil, List.replicate_succ, List.replicate_zero, List.cons_append, List.nil_append, List.append_nil, List.getElem?_cons_zero, List.getElem?_cons_succ, List.set_cons_zero, List.set_cons_succ, List.zip_cons_cons, List.zip_nil_left, List.foldl_cons, List.foldl_nil, List.filterMap_cons, List.filterMap_nil, Nat.reduceSub, Nat.reduceAdd, Nat.reduceLT, Nat.reduceLeDiff, Nat.zero_add, Nat.add_zero, Nat.reduceEqDiff, decide_eq_true_eq, Bool.not_eq_true, Bool.not_true, Bool.not_false, Bool.not_not, ite_true, ite_false, if_true, if_false, reduceIte, Bool.false_eq_true, and_self, and_true, true_and, Int.reduceNeg, Int.reduceLT, Int.reduceLE, Int.reduceSub, Int.reduceAdd, Int.reduceMul, Int.reducePow, Int.reduceEq, Int.reduceNe, decide_true, decide_false, decide_not, Bool.and_true, Bool.true_and, Bool.or_true, Bool.true_or, ne_eq, not_true_eq_false, not_false_eq_true, Bool.and_self, false_and, and_false, reduceCtorEq, eq_self, beq_self_eq_true, List.set_nil, List.getElem?_nil, List.length_append, List.length_map, Bool.false_and, Bool.and_false, Bool.false_or, Bool.or_false, Int.cast_ofNat_Int, Int.reduceToNat, Int.zero_add, Int.add_zero, e, e0, h, ew, e1]
  · obtain ⟨q2, s', e1⟩ := main q0
    refine ⟨_, z_trimc (M1 := []) (R := q2.mem []) ?_ rfl rfl⟩
    unfold b_law
    simp only [z_bok, z_bsok, z_bbad, z_bsbad, z_seqbad, z_outbad, z_asgbad, small_fmod, small_lit, fits_le, smallR_lit, z_na64, z_bif, z_bsif, z_noer, z_seqn, z_seqr, z_seqif, z_outr, z_outn, z_outif, z_C, z_op, z_T, z_tand, z_tor, z_tnot, z_and, z_or, z_not, z_if, z_nil, z_cons, z_tup, z_lst, z_new, z_allD0, z_allD1, z_map, z_sNil, z_sSeq, z_sIf, z_sDrop, z_sRet, z_sAsg, z_asg, z_asgif, z_sPar, z_gN, z_gT, z_gsNil, z_gsCons, z_obind, z_gSet, z_B, z_It, z_Enum, z_R1, z_R2, z_r1, z_r2, z_Comp, z_For, z_Yes, z_M, z_Sl, z_oN, z_oS, z_Rev, z_Neg, z_IsI, z_call, z_callK, z_chain, z_body, z_rdd, z_rds, z_int, z_vI, z_vB, z_le, z_eqi, z_nei, z_nes, z_eqs, z_vInt, z_vI2, z_isN, z_notN, z_enumt, z_enuml, z_itl, z_itt, z_its, z_ixt0, z_ixt1, z_ixt2, z_lenl, z_lent, z_tyt, z_tyl, z_tyd, z_tyi, z_tyb, z_tys, z_tyn, isT_tt, isT_lt, isT_dt, isT_it, isT_bt, isT_st, isT_nt, isT_ti, isT_li, isT_di, isT_ii, isT_bi, isT_si, isT_ni, isT_tb, isT_lb, isT_db, isT_ib, isT_bb, isT_sb, isT_nb, isT_ts, isT_ls, isT_ds, isT_is, isT_bs, isT_ss, isT_ns, z_forn, z_mulx, z_lr1, z_lr1N, okR_le, dk_get, dk_set, dk_add, dk_ll, z_rdo, z_tyo, z_app, z_ext, z_star, z_lr2, z_listN, z_sqt, z_sql, z_leno, z_frz, fzL_d, z_lens, z_sls, z_sll, z_addl, z_addt, z_na10, z_dct0, z_disp, z_disp1, z_slt, z_revt, dk_rd2, dk_ty2, dk_mem1, dk_len0, z_tupl, z_tupt, z_listt, z_listl, z_in2, slots0, mVar, wipeS, pickBy, dk_rd0, dk_rd1, dk_ix0, dk_ix1, dk_ix2, dk_ne, dk_setn, dk_ty0, dk_ty1, Option.some.injEq, List.map_cons, List.map_nil, List.length_cons, List.length_nil, List.replicate_succ, List.replicate_zero, List.cons_append, List.nil_append, List.append_nil, List.getElem?_cons_zero, List.getElem?_cons_succ, List.set_cons_zero, List.set_cons_succ, List.zip_cons_cons, List.zip_nil_left, List.foldl_cons, List.foldl_nil, List.filterMap_cons, List.filterMap_nil, Nat.reduceSub, Nat.reduceAdd, Nat.reduceLT, Nat.reduceLeDiff, Nat.zero_add, Nat.add_zero, Nat.reduceEqDiff, decide_eq_true_eq, Bool.not_eq_true, Bool.not_true, Bool.not_false, Bool.not_not, ite_true, ite_false, if_true, if_false, reduceIte, Bool.false_eq_true, and_self, and_true, true_and, Int.reduceNeg, Int.reduceLT, Int.reduceLE, Int.reduceSub, Int.reduceAdd, Int.reduceMul, Int.reducePow, Int.reduceEq, Int.reduceNe, decide_true, decide_false, decide_not, Bool.and_true, Bool.true_and, Bool.or_true, Bool.true_or, ne_eq, not_true_eq_false, not_false_eq_true, Bool.and_self, false_and, and_false, reduceCtorEq, eq_self, beq_self_eq_true, List.set_nil, List.getElem?_nil, List.length_append, List.length_map, Bool.false_and, Bool.and_false, Bool.false_or, Bool.or_false, Int.cast_ofNat_Int, Int.reduceToNat, Int.zero_add, Int.add_zero, e, e0, h, e1]
end Zl
open PySem PySem.W PyProof.Rows
set_option maxRecDepth 100000 in
set_option maxHeartbeats 0 in
theorem PySem.Challenge.cw_whateverothers_k05_whole_all_orders_of_p_holds : PySem.Challenge.rw_whateverothers_k05_whole_all_orders_of_p.Holds := by
  w_on; o_law; k_head; (case hw => w_witness2)
  k_fill
  refine Zm.walkZ (l := PySem.Challenge.rw_whateverothers_k05_whole_all_orders_of_p) (n := 63) (k := 5) (x := "script") (den := Zl.d_law) rfl (by decide) rfl ⟨rfl, by decide, by decide⟩ (by decide +kernel) ?S (fun w h Y => PySem.W.kIn_of Y) ?F (fun ns h => Zl.law_true ns h)
  case S => intro w; first | rfl | decide +kernel | k_is
  case F =>
    intro w mg fa h KX G hmg
    refine' (fun (T : Zl.Txt _ mg) => ?zz) (Zl.Txt.mk (Zm.defAt KX G ?a_is_integer ?l_is_integer ?c_is_integer ?k_is_integer) (Zm.defAt KX G ?a_near ?l_near ?c_near ?k_near) (Zm.defAt KX G ?a_fields_of ?l_fields_of ?c_fields_of ?k_fields_of) (Zm.defAt KX G ?a_place_in ?l_place_in ?c_place_in ?k_place_in) (Zm.defAt KX G ?a_is_backed ?l_is_backed ?c_is_backed ?k_is_backed) (Zm.defAt KX G ?a_is_order ?l_is_order ?c_is_order ?k_is_order) (Zm.defAt KX G ?a_orders_error ?l_orders_error ?c_orders_error ?k_orders_error) (Zm.defAt KX G ?a_orders_of ?l_orders_of ?c_orders_of ?k_orders_of) (Zm.defAt KX G ?a_ldeck ?l_ldeck ?c_ldeck ?k_ldeck) (Zm.defAt KX G ?a_ldraw ?l_ldraw ?c_ldraw ?k_ldraw) (Zm.defAt KX G ?a_lpick ?l_lpick ?c_lpick ?k_lpick) (Zm.defAt KX G ?a_lmixed ?l_lmixed ?c_lmixed ?k_lmixed) (Zm.defAt KX G ?a_lbeside ?l_lbeside ?c_lbeside ?k_lbeside) (Zm.defAt KX G ?a_lchart ?l_lchart ?c_lchart ?k_lchart) (Zm.defAt KX G ?a_lpieces ?l_lpieces ?c_lpieces ?k_lpieces) (Zm.defAt KX G ?a_lorders_of ?l_lorders_of ?c_lorders_of ?k_lorders_of) (Zm.defAt KX G ?a_lboard ?l_lboard ?c_lboard ?k_lboard) (Zm.defAt KX G ?a_lwide_board ?l_lwide_board ?c_lwide_board ?k_lwide_board) (Zm.defAt KX G ?a_lis_wide_right ?l_lis_wide_right ?c_lis_wide_right ?k_lis_wide_right) (Zm.defAt KX G ?a_law ?l_law ?c_law ?k_law) (PySem.W.mg_none_of KX G ?z_isinstance) (PySem.W.mg_none_of KX G ?z_len) (PySem.W.mg_none_of KX G ?z_int) (PySem.W.mg_none_of KX G ?z_bool) (PySem.W.mg_none_of KX G ?z_tuple) (PySem.W.mg_none_of KX G ?z_str) (PySem.W.mg_none_of KX G ?z_list) (PySem.W.mg_none_of KX G ?z_max) (PySem.W.mg_none_of KX G ?z_sorted) (PySem.W.mg_none_of KX G ?z_repr) (PySem.W.mg_none_of KX G ?z_range) (PySem.W.mg_none_of KX G ?z_enumerate))
    (case a_is_integer => k_is); (case l_is_integer => k_is); (case c_is_integer => k_is); (case k_is_integer => k_is); (case a_near => k_is); (case l_near => k_is); (case c_near => k_is); (case k_near => k_is); (case a_fields_of => k_is); (case l_fields_of => k_is); (case c_fields_of => k_is); (case k_fields_of => k_is); (case a_place_in => k_is); (case l_place_in => k_is); (case c_place_in => k_is); (case k_place_in => k_is); (case a_is_backed => k_is); (case l_is_backed => k_is); (case c_is_backed => k_is); (case k_is_backed => k_is); (case a_is_order => k_is); (case l_is_order => k_is); (case c_is_order => k_is); (case k_is_order => k_is); (case a_orders_error => k_is); (case l_orders_error => k_is); (case c_orders_error => k_is); (case k_orders_error => k_is); (case a_orders_of => k_is); (case l_orders_of => k_is); (case c_orders_of => k_is); (case k_orders_of => k_is); (case a_ldeck => k_is); (case l_ldeck => k_is); (case c_ldeck => k_is); (case k_ldeck => k_is); (case a_ldraw => k_is); (case l_ldraw => k_is); (case c_ldraw => k_is); (case k_ldraw => k_is); (case a_lpick => k_is); (case l_lpick => k_is); (case c_lpick => k_is); (case k_lpick => k_is); (case a_lmixed => k_is); (case l_lmixed => k_is); (case c_lmixed => k_is); (case k_lmixed => k_is); (case a_lbeside => k_is); (case l_lbeside => k_is); (case c_lbeside => k_is); (case k_lbeside => k_is); (case a_lchart => k_is); (case l_lchart => k_is); (case c_lchart => k_is); (case k_lchart => k_is); (case a_lpieces => k_is); (case l_lpieces => k_is); (case c_lpieces => k_is); (case k_lpieces => k_is); (case a_lorders_of => k_is); (case l_lorders_of => k_is); (case c_lorders_of => k_is); (case k_lorders_of => k_is); (case a_lboard => k_is); (case l_lboard => k_is); (case c_lboard => k_is); (case k_lboard => k_is); (case a_lwide_board => k_is); (case l_lwide_board => k_is); (case c_lwide_board => k_is); (case k_lwide_board => k_is); (case a_lis_wide_right => k_is); (case l_lis_wide_right => k_is); (case c_lis_wide_right => k_is); (case k_lis_wide_right => k_is); (case a_law => k_is); (case l_law => k_is); (case c_law => k_is); (case k_law => k_is); (case z_isinstance => k_is); (case z_len => k_is); (case z_int => k_is); (case z_bool => k_is); (case z_tuple => k_is); (case z_str => k_is); (case z_list => k_is); (case z_max => k_is); (case z_sorted => k_is); (case z_repr => k_is); (case z_range => k_is); (case z_enumerate => k_is)
    case zz =>
      obtain ⟨fd, hb, hF⟩ := Zm.defZ_law (P := (PySem.Challenge.rw_whateverothers_k05_whole_all_orders_of_p).prog) (w := w) hmg Zl.bi_law (fun base => Zl.ok_law (base := base) T) T.f_law
      exact ⟨fd, hb, fun base _ _ => hF base⟩
