import PyProof.Rows.All
import Wide.All
import OpenK.AllK
import Wide.FinOn
import HandS.ForMost
import HandS.ForExc
import HandS.Conv
import HandS.More
import HandS.IsInst
import HandS.TupLe
import HandS.TupAny
import HandS.Deep
import HandS.SortInts
import HandS.SortRule
import KE.GoesMore
import KE.GoesEnum
import HandS.Style
import HandS.TupMul
import HandS.Star
import PySem.Challenge.RW_whateverothers_k09_whole_backs_that_fit
set_option Elab.async false
set_option linter.all false
set_option maxRecDepth 100000
/-! A layer of by-value readings over HandS: every construct is read as a plain function on data. -/
namespace Zm
open PySem PySem.Spec PyProof.Rows L2

/-- a value: data held by value, or the place of a thing that may still change -/
inductive Val where
  | d (x : PyData)
  | obj (i : Nat)
  /-- the law's own script -/
  | scr (ns : List Int)
/-- what stands at a place -/
inductive MO where
  | frz (x : PyData)
  | lst (vs : List Val)
  | dct (kvs : List (PyData × Val))
  | ins (C : Str) (fs : List (Str × Val))
abbrev Mm := List MO
abbrev Sl := List (Option Val)
structure Exc where
  cls : Str
  fs : Option (List (Str × PyData))
inductive Out (α : Type) where
  | ok (x : α) (M : Mm)
  | er (e : Exc) (M : Mm)
  | bad

def keyD : Key → PyData
  | .inl i => .int i
  | .inr x => .str x

/-- a ghost: where the places stand, and which addresses will never be written again -/
structure Gh where
  φ : List Addr
  F : Addr → Prop

mutual
inductive RV (K : PySem.W.Frag) (F : Addr → Prop) (H : Hp) : V → PyData → Prop
  | non : RV K F H .non .none
  | bl (b : Bool) : RV K F H (.bl b) (.bool b)
  | int (i : Int) : RV K F H (.int i) (.int i)
  | str (x : Str) : RV K F H (.str x) (.str x)
  | tup {a : Addr} {xs : List V} {ds : List PyData} : H a = some (.tup xs) → RVs K F H xs ds → RV K F H (.ref a) (.tuple ds)
  | lst {a : Addr} {xs : List V} {ds : List PyData} : F a → H a = some (.lst xs) → RVs K F H xs ds → RV K F H (.ref a) (.list ds)
  | dct {a : Addr} {kvs : List (Key × V)} {ds : List (PyData × PyData)} : F a → H a = some (.dK kvs) → RKs K F H kvs ds → RV K F H (.ref a) (.dict ds)
inductive RVs (K : PySem.W.Frag) (F : Addr → Prop) (H : Hp) : List V → List PyData → Prop
  | nil : RVs K F H [] []
  | cons {v : V} {vs : List V} {d : PyData} {ds : List PyData} : RV K F H v d → RVs K F H vs ds → RVs K F H (v :: vs) (d :: ds)
inductive RKs (K : PySem.W.Frag) (F : Addr → Prop) (H : Hp) : List (Key × V) → List (PyData × PyData) → Prop
  | nil : RKs K F H [] []
  | cons {k : Key} {v : V} {vs : List (Key × V)} {d : PyData} {ds : List (PyData × PyData)} : RV K F H v d → RKs K F H vs ds → RKs K F H ((k, v) :: vs) ((keyD k, d) :: ds)
end

/-- later: more places, nothing that is fixed has changed -/
structure Ext0 (G : Gh) (H : Hp) (G' : Gh) (H' : Hp) : Prop where
  φ : ∃ more, G'.φ = G.φ ++ more
  tup : ∀ a xs, H a = some (.tup xs) → H' a = some (.tup xs)
  frz : ∀ a o u, H a = some (.frz o u) → H' a = some (.frz o u)
  fix : ∀ a, G.F a → G'.F a ∧ H' a = H a
theorem Ext0.refl {G : Gh} {H : Hp} : Ext0 G H G H := ⟨⟨[], by simp⟩, fun _ _ h => h, fun _ _ _ h => h, fun _ h => ⟨h, rfl⟩⟩
theorem Ext0.trans {G G1 G2 : Gh} {H H1 H2 : Hp} (a : Ext0 G H G1 H1) (b : Ext0 G1 H1 G2 H2) : Ext0 G H G2 H2 := by
  obtain ⟨m1, e1⟩ := a.φ
  obtain ⟨m2, e2⟩ := b.φ
  exact ⟨⟨m1 ++ m2, by rw [e2, e1, List.append_assoc]⟩, fun c xs h => b.tup c xs (a.tup c xs h), fun c o u h => b.frz c o u (a.frz c o u h),
    fun c h => ⟨(b.fix c (a.fix c h).1).1, by rw [(b.fix c (a.fix c h).1).2, (a.fix c h).2]⟩⟩
section
variable {K : PySem.W.Frag} {G G' : Gh} {H H' : Hp}
theorem SqT.ext0 (e : Ext0 G H G' H') {a : Addr} {xs : List V} (h : SqT K H a xs) : SqT K H' a xs := by
  rcases h with (h | ⟨o, h⟩) | h
  · exact .inl (.inl (e.tup _ _ h))
  · exact .inl (.inr ⟨o, e.frz _ _ _ h⟩)
  · exact .inr h
mutual
theorem RV.ext0 (e : Ext0 G H G' H') : ∀ (d : PyData) (v : V), RV K G.F H v d → RV K G'.F H' v d
  | .none, _, h => by cases h; exact .non
  | .bool b, _, h => by cases h; exact .bl b
  | .int i, _, h => by cases h; exact .int i
  | .str x, _, h => by cases h; exact .str x
  | .tuple ds, _, h => by cases h with | tup h1 h2 => exact .tup (e.tup _ _ h1) (RVs.ext0 e ds _ h2)
  | .list ds, _, h => by cases h with | lst h0 h1 h2 => exact .lst (e.fix _ h0).1 (by rw [(e.fix _ h0).2]; exact h1) (RVs.ext0 e ds _ h2)
  | .dict ds, _, h => by
    cases h with
    | dct h1 h2 h3 => exact .dct (e.fix _ h1).1 (by rw [(e.fix _ h1).2]; exact h2) (RKs.ext0 e ds _ h3)
theorem RVs.ext0 (e : Ext0 G H G' H') : ∀ (ds : List PyData) (vs : List V), RVs K G.F H vs ds → RVs K G'.F H' vs ds
  | [], _, h => by cases h; exact .nil
  | d :: ds, _, h => by cases h with | cons h1 h2 => exact .cons (RV.ext0 e d _ h1) (RVs.ext0 e ds _ h2)
theorem RKs.ext0 (e : Ext0 G H G' H') : ∀ (ds : List (PyData × PyData)) (vs : List (Key × V)), RKs K G.F H vs ds → RKs K G'.F H' vs ds
  | [], _, h => by cases h; exact .nil
  | (_, d) :: ds, _, h => by cases h with | cons h1 h2 => exact .cons (RV.ext0 e d _ h1) (RKs.ext0 e ds _ h2)
end
theorem RVs.len {F : Addr → Prop} : ∀ {ds : List PyData} {vs : List V}, RVs K F H vs ds → vs.length = ds.length
  | [], _, h => by cases h; rfl
  | d :: ds, _, h => by cases h with | cons h1 h2 => simp [RVs.len h2]
theorem RVs.get {F : Addr → Prop} : ∀ {ds : List PyData} {vs : List V} {i : Nat} {d : PyData}, RVs K F H vs ds → ds[i]? = some d → ∃ v, vs[i]? = some v ∧ RV K F H v d
  | [], _, i, d, h, e => by simp at e
  | d :: ds, _, 0, d', h, e => by cases h with | cons h1 h2 => simp at e; subst e; exact ⟨_, rfl, h1⟩
  | d :: ds, _, i + 1, d', h, e => by
    cases h with
    | cons h1 h2 =>
      obtain ⟨v, e1, e2⟩ := RVs.get h2 (by simpa using e)
      exact ⟨v, by simpa using e1, e2⟩
theorem RVs.append {F : Addr → Prop} : ∀ {ds es : List PyData} {vs ws : List V}, RVs K F H vs ds → RVs K F H ws es → RVs K F H (vs ++ ws) (ds ++ es)
  | [], _, _, _, h, g => by cases h; exact g
  | d :: ds, _, _, _, h, g => by cases h with | cons h1 h2 => exact .cons h1 (RVs.append h2 g)
theorem RVs.take {F : Addr → Prop} : ∀ {ds : List PyData} {vs : List V} (n : Nat), RVs K F H vs ds → RVs K F H (vs.take n) (ds.take n)
  | _, _, 0, h => by simpa using RVs.nil
  | [], _, n + 1, h => by cases h; exact .nil
  | d :: ds, _, n + 1, h => by cases h with | cons h1 h2 => exact .cons h1 (RVs.take n h2)
theorem RVs.drop {F : Addr → Prop} : ∀ {ds : List PyData} {vs : List V} (n : Nat), RVs K F H vs ds → RVs K F H (vs.drop n) (ds.drop n)
  | _, _, 0, h => h
  | [], _, n + 1, h => by cases h; exact .nil
  | d :: ds, _, n + 1, h => by cases h with | cons h1 h2 => exact RVs.drop n h2

/-- the script: it is read, never written -/
def Scr (K : PySem.W.Frag) (H : Hp) (a : Addr) (xs : List V) : Prop :=
  (∃ o, H a = some (.frz o (.lst xs))) ∨
    ∃ (o : Obj) (its : Array Value) (n : Nat), K.lookup a = some o ∧ o.cls = .type "list" ∧ o.dict = none ∧ o.data = .seq its n ∧ its.size ≤ sizeLine ∧ Vals xs its.toList
theorem Scr.ext0 (e : Ext0 G H G' H') {a : Addr} {xs : List V} (h : Scr K H a xs) : Scr K H' a xs := by
  rcases h with ⟨o, h⟩ | h
  · exact .inl ⟨o, e.frz _ _ _ h⟩
  · exact .inr h
theorem Scr.sql {a : Addr} {xs : List V} (h : Scr K H a xs) : SqL K H a xs := by
  rcases h with ⟨o, h⟩ | h
  · exact .inl (.inr ⟨o, h⟩)
  · exact .inr h
/-- values -/
def RW (K : PySem.W.Frag) (G : Gh) (H : Hp) (x : V) : Val → Prop
  | .d y => RV K G.F H x y
  | .obj i => ∃ a, x = .ref a ∧ G.φ[i]? = some a
  | .scr ns => ∃ a, x = .ref a ∧ Scr K H a (ns.map V.int)
theorem RW.ext0 (e : Ext0 G H G' H') {x : V} {v : Val} (h : RW K G H x v) : RW K G' H' x v := by
  cases v with
  | d y => exact RV.ext0 e y x h
  | obj i =>
    obtain ⟨a, h1, h2⟩ := h
    obtain ⟨m, em⟩ := e.φ
    refine ⟨a, h1, ?_⟩
    rw [em, List.getElem?_append_left]
    · exact h2
    · exact (List.getElem?_eq_some_iff.mp h2).1
  | scr ns => exact let ⟨a, h1, h2⟩ := h; ⟨a, h1, Scr.ext0 e h2⟩
abbrev RWs (K : PySem.W.Frag) (G : Gh) (H : Hp) : List V → List Val → Prop := Paired (RW K G H)
theorem RWs.ext0 (e : Ext0 G H G' H') {xs : List V} {vs : List Val} (h : RWs K G H xs vs) : RWs K G' H' xs vs := Paired.mapP h fun _ _ q => RW.ext0 e q
theorem RVs.rws : ∀ {ds : List PyData} {vs : List V}, RVs K G.F H vs ds → RWs K G H vs (ds.map Val.d)
  | [], _, h => by cases h; exact .nil
  | d :: ds, _, h => by cases h with | cons h1 h2 => exact .cons h1 (RVs.rws h2)
theorem RWs.rvs : ∀ {ds : List PyData} {vs : List V}, RWs K G H vs (ds.map Val.d) → RVs K G.F H vs ds
  | [], _, h => by cases h; exact .nil
  | d :: ds, _, h => by cases h with | cons h1 h2 => exact .cons h1 (RWs.rvs h2)
/-- keys of a dict -/
def RKey (k : PyData) (x : Key) : Prop := k = keyD x
/-- an object at a place -/
def RO (K : PySem.W.Frag) (mg : Str → Option Value) (G : Gh) (H : Hp) (a : Addr) : MO → Prop
  | .frz x => RV K G.F H (.ref a) x
  | .lst vs => ¬ G.F a ∧ ∃ xs, H a = some (.lst xs) ∧ RWs K G H xs vs
  | .dct kvs => ¬ G.F a ∧ ∃ ys, H a = some (.dK ys) ∧ Paired (fun (y : Key × V) (k : PyData × Val) => k.1 = keyD y.1 ∧ RW K G H y.2 k.2) ys kvs
  | .ins C fs => ¬ G.F a ∧ ∃ c dx ys, mg C = some (.ref c) ∧ H a = some (.ins c dx ys) ∧ Paired (fun (y : Str × V) (f : Str × Val) => y.1 = f.1 ∧ RW K G H y.2 f.2) ys fs
/-- the store is held -/
structure SimM (K : PySem.W.Frag) (mg : Str → Option Value) (G : Gh) (M : Mm) (H : Hp) : Prop where
  len : G.φ.length = M.length
  nd : G.φ.Nodup
  obj : ∀ (i : Nat) (a : Addr) (o : MO), G.φ[i]? = some a → (M : List MO)[i]? = some o → RO K mg G H a o
  there : ∀ a ∈ G.φ, H a ≠ none
  fthere : ∀ a, G.F a → H a ≠ none
  sys : ∃ o u, H sysModules = some (.frz o u)
/-- the names are held -/
structure SimS (K : PySem.W.Frag) (G : Gh) (s : Sl) (σ : L2.St) (H : Hp) : Prop where
  len : σ.length = s.length
  at_ : ∀ (i : Nat) (v : Val), s[i]? = some (some v) → ∃ x, σ[i]? = some (some x) ∧ RW K G H x v
theorem SimS.ext0 (e : Ext0 G H G' H') {s : Sl} {σ : L2.St} (h : SimS K G s σ H) : SimS K G' s σ H' :=
  ⟨h.len, fun i v q => let ⟨x, a, b⟩ := h.at_ i v q; ⟨x, a, RW.ext0 e b⟩⟩
theorem SimS.set {s : Sl} {σ : L2.St} {i : Nat} {x : V} {v : Val} (h : SimS K G s σ H) (r : RW K G H x v) : SimS K G (s.set i (some v)) (σ.set i (some x)) H := by
  refine ⟨by simp [h.len], fun j u q => ?_⟩
  by_cases hj : i = j
  · subst hj
    by_cases hl : i < s.length
    · rw [List.getElem?_set_self hl] at q
      cases q
      exact ⟨x, List.getElem?_set_self (by rw [h.len]; exact hl), r⟩
    · have : (s.set i (some v))[i]? = none := List.getElem?_eq_none_iff.mpr (by rw [List.length_set]; omega)
      rw [this] at q; cases q
  · rw [List.getElem?_set_ne hj] at q
    obtain ⟨y, a, b⟩ := h.at_ j u q
    exact ⟨y, by rw [List.getElem?_set_ne hj]; exact a, b⟩
end

/-- later: nothing but the things at places has changed, places and what is fixed are new things or were places -/
structure Ext (G : Gh) (H : Hp) (G' : Gh) (H' : Hp) : Prop extends Ext0 G H G' H' where
  keep : ∀ a, H a ≠ none → a ∉ G.φ → H' a = H a
  φnew : ∀ a, a ∈ G'.φ → a ∈ G.φ ∨ H a = none
  Fnew : ∀ a, G'.F a → G.F a ∨ H a = none ∨ a ∈ G.φ
theorem Ext.refl {G : Gh} {H : Hp} : Ext G H G H := ⟨.refl, fun _ _ _ => rfl, fun _ h => .inl h, fun _ h => .inl h⟩
theorem Ext.trans {G G1 G2 : Gh} {H H1 H2 : Hp} (a : Ext G H G1 H1) (b : Ext G1 H1 G2 H2) : Ext G H G2 H2 := by
  have nn : ∀ c, H1 c = none → H c = none ∨ c ∈ G.φ := fun c h => by
    by_cases hc : c ∈ G.φ
    · exact .inr hc
    · refine .inl ?_
      cases q : H c with
      | none => rfl
      | some o => rw [a.keep c (by rw [q]; simp) hc, q] at h; cases h
  refine ⟨a.toExt0.trans b.toExt0, fun c h1 h2 => ?_, fun c h => ?_, fun c h => ?_⟩
  · have e1 := a.keep c h1 h2
    rw [b.keep c (by rw [e1]; exact h1) (fun h => (a.φnew c h).elim h2 h1), e1]
  · rcases b.φnew c h with h | h
    · exact a.φnew c h
    · exact (nn c h).symm
  · rcases b.Fnew c h with h | h | h
    · exact a.Fnew c h
    · exact .inr (nn c h)
    · exact .inr ((a.φnew c h).symm)
section
variable {K : PySem.W.Frag} {G G' : Gh} {H H' : Hp}
theorem SqT.ext (e : Ext G H G' H') {a : Addr} {xs : List V} (h : SqT K H a xs) : SqT K H' a xs := SqT.ext0 e.toExt0 h
theorem Scr.ext (e : Ext G H G' H') {a : Addr} {xs : List V} (h : Scr K H a xs) : Scr K H' a xs := Scr.ext0 e.toExt0 h
theorem RV.ext (e : Ext G H G' H') (d : PyData) (v : V) (h : RV K G.F H v d) : RV K G'.F H' v d := RV.ext0 e.toExt0 d v h
theorem RVs.ext (e : Ext G H G' H') (d : List PyData) (v : List V) (h : RVs K G.F H v d) : RVs K G'.F H' v d := RVs.ext0 e.toExt0 d v h
theorem RKs.ext (e : Ext G H G' H') (d : List (PyData × PyData)) (v : List (Key × V)) (h : RKs K G.F H v d) : RKs K G'.F H' v d := RKs.ext0 e.toExt0 d v h
theorem RW.ext (e : Ext G H G' H') {x : V} {v : Val} (h : RW K G H x v) : RW K G' H' x v := RW.ext0 e.toExt0 h
theorem RWs.ext (e : Ext G H G' H') {xs : List V} {vs : List Val} (h : RWs K G H xs vs) : RWs K G' H' xs vs := RWs.ext0 e.toExt0 h
theorem SimS.ext (e : Ext G H G' H') {s : Sl} {σ : L2.St} (h : SimS K G s σ H) : SimS K G' s σ H' := SimS.ext0 e.toExt0 h
end
end Zm
namespace Zm
open PySem PySem.Spec PyProof.Rows L2

abbrev EM := Sl → Mm → Out Val
abbrev AM := Sl → Mm → Out (List Val)
abbrev TM := Sl → Mm → Out Bool
/-- what a block comes to -/
inductive SO where
  | nx (s : Sl) (M : Mm)
  | rt (v : Val) (M : Mm)
  | bk (s : Sl) (M : Mm)
  | ct (s : Sl) (M : Mm)
  | er (e : Exc) (s : Sl) (M : Mm)
  | bad
abbrev SM := Sl → Mm → SO

/-- an exception in the air -/
def RX (K : PySem.W.Frag) (mg : Str → Option Value) (G : Gh) (H : Hp) (e : Exc) (c : Value) (d : Option Addr) : Prop :=
  ∃ a, mg e.cls = some (.ref a) ∧ c = .ref a ∧ match e.fs with
    | none => d = none
    | some fs => ∃ da xs, d = some da ∧ H da = some (.xd xs) ∧ Paired (fun (y : Str × V) (f : Str × PyData) => y.1 = f.1 ∧ RV K G.F H y.2 f.2) xs fs
/-- the wish behind an outcome -/
def Post {α β : Type} (K : PySem.W.Frag) (mg : Str → Option Value) (W : WX) (G : Gh) (σ : L2.St) (H : Hp) (R : Gh → Hp → β → α → Prop) (Q : β → Hp → Prop) : Out α → Prop
  | .ok v M' => ∀ G' H' x, Ext G H G' H' → SimM K mg G' M' H' → R G' H' x v → Q x H'
  | .er e M' => ∀ G' H' c d, Ext G H G' H' → SimM K mg G' M' H' → RX K mg G' H' e c d → W c d σ H'
  | .bad => False
section
variable {α β γ δ : Type} {K : PySem.W.Frag} {mg : Str → Option Value} {W : WX} {G G1 : Gh} {σ : L2.St} {H H1 : Hp}
theorem Post.ext {R : Gh → Hp → β → α → Prop} {Q : β → Hp → Prop} {o : Out α} (e : Ext G H G1 H1) (h : Post K mg W G σ H R Q o) : Post K mg W G1 σ H1 R Q o := by
  cases o with
  | ok v M => exact fun G' H' x e' => h G' H' x (e.trans e')
  | er x M => exact fun G' H' c d e' => h G' H' c d (e.trans e')
  | bad => exact h
def Out.bind (o : Out α) (f : α → Mm → Out γ) : Out γ :=
  match o with
  | .ok v M => f v M
  | .er e M => .er e M
  | .bad => .bad
/-- first o, then the rest -/
theorem Post.bind {R : Gh → Hp → β → α → Prop} {R2 : Gh → Hp → δ → γ → Prop} {Q : β → Hp → Prop} {Q2 : δ → Hp → Prop} {o : Out α} {f : α → Mm → Out γ} (h : Post K mg W G σ H R2 Q2 (o.bind f))
    (k : ∀ v M' G' H' x, Ext G H G' H' → SimM K mg G' M' H' → R G' H' x v → Post K mg W G' σ H' R2 Q2 (f v M') → Q x H') : Post K mg W G σ H R Q o := by
  cases o with
  | ok v M => exact fun G' H' x e s r => k v M G' H' x e s r (Post.ext e h)
  | er x M => exact h
  | bad => exact h
end
section
variable (K : PySem.W.Frag) (mg : Str → Option Value) (W : WX)
def TEm (m : EM) : TE := fun σ H Q => ∃ G s M, SimM K mg G M H ∧ SimS K G s σ H ∧ Post K mg W G σ H (fun G' H' x v => RW K G' H' x v) Q (m s M)
def TAm (m : AM) : TA := fun σ H Q => ∃ G s M, SimM K mg G M H ∧ SimS K G s σ H ∧ Post K mg W G σ H (fun G' H' x v => RWs K G' H' x v) Q (m s M)
def TTm (m : TM) : TT := fun σ H Q => ∃ G s M, SimM K mg G M H ∧ SimS K G s σ H ∧ Post K mg W G σ H (fun _ _ x v => x = v) Q (m s M)
def PostS (G : Gh) (H : Hp) (E : Ends) : SO → Prop
  | .nx s M => ∀ G' H' σ', Ext G H G' H' → SimM K mg G' M H' → SimS K G' s σ' H' → E.nx σ' H'
  | .bk s M => ∀ G' H' σ', Ext G H G' H' → SimM K mg G' M H' → SimS K G' s σ' H' → E.bk σ' H'
  | .ct s M => ∀ G' H' σ', Ext G H G' H' → SimM K mg G' M H' → SimS K G' s σ' H' → E.ct σ' H'
  | .rt v M => ∀ G' H' x, Ext G H G' H' → SimM K mg G' M H' → RW K G' H' x v → E.rt x H'
  | .er e s M => ∀ G' H' σ' c d, Ext G H G' H' → SimM K mg G' M H' → SimS K G' s σ' H' → RX K mg G' H' e c d → W c d σ' H'
  | .bad => False
def TSm (m : SM) : TS := fun E σ H => ∃ G s M, SimM K mg G M H ∧ SimS K G s σ H ∧ PostS K mg W G H E (m s M)
end
theorem PostS.ext {K : PySem.W.Frag} {mg : Str → Option Value} {W : WX} {G G1 : Gh} {H H1 : Hp} {E : Ends} {o : SO} (e : Ext G H G1 H1) (h : PostS K mg W G H E o) : PostS K mg W G1 H1 E o := by
  cases o with
  | nx s M => exact fun G' H' σ' e' => h G' H' σ' (e.trans e')
  | bk s M => exact fun G' H' σ' e' => h G' H' σ' (e.trans e')
  | ct s M => exact fun G' H' σ' e' => h G' H' σ' (e.trans e')
  | rt v M => exact fun G' H' x e' => h G' H' x (e.trans e')
  | er x s M => exact fun G' H' σ' c d e' => h G' H' σ' c d (e.trans e')
  | bad => exact h

structure SE (X : Cx) (W : WX) (e : Expr) (m : EM) : Prop where
  pe : PE X e (TEm X.K X.mg W m)
structure SA (X : Cx) (W : WX) (e : List Expr) (m : AM) : Prop where
  pa : PA X e (TAm X.K X.mg W m)
structure ST (X : Cx) (W : WX) (e : Expr) (m : TM) : Prop where
  pt : PT X e (TTm X.K X.mg W m)
structure SW (X : Cx) (W : WX) (e : Expr) (m : TM) : Prop where
  pw : PW X e (TTm X.K X.mg W m)
structure SS (X : Cx) (W : WX) (e : Stmt) (m : SM) : Prop where
  ps : PS X e (TSm X.K X.mg W m)
structure SSs (X : Cx) (W : WX) (e : List Stmt) (m : SM) : Prop where
  pss : PSs X e (TSm X.K X.mg W m)
section
variable {X : Cx} {W : WX}
theorem peImp {e : Expr} {t t' : TE} (h : PE X e t) (i : ∀ σ H Q, t' σ H Q → t σ H Q) : PE X e t' := ⟨fun pins s σ H Q I q => h.run pins s σ H Q I (i _ _ _ q)⟩
theorem paImp {e : List Expr} {t t' : TA} (h : PA X e t) (i : ∀ σ H Q, t' σ H Q → t σ H Q) : PA X e t' := ⟨fun pos pins s σ H Q I q => h.run pos pins s σ H Q I (i _ _ _ q)⟩
theorem ptImp {e : Expr} {t t' : TT} (h : PT X e t) (i : ∀ σ H Q, t' σ H Q → t σ H Q) : PT X e t' := ⟨fun pins s σ H Q I q => h.run pins s σ H Q I (i _ _ _ q)⟩
theorem pwImp {e : Expr} {t t' : TT} (h : PW X e t) (i : ∀ σ H Q, t' σ H Q → t σ H Q) : PW X e t' := ⟨fun wh pins s σ H Q I q => h.run wh pins s σ H Q I (i _ _ _ q)⟩
theorem psImp {e : Stmt} {t t' : TS} (h : PS X e t) (i : ∀ D σ H, t' D σ H → t D σ H) : PS X e t' := ⟨fun pins s σ H D I q => h.run pins s σ H D I (i _ _ _ q)⟩
theorem pssImp {e : List Stmt} {t t' : TS} (h : PSs X e t) (i : ∀ D σ H, t' D σ H → t D σ H) : PSs X e t' := ⟨fun pins s σ H D I q => h.run pins s σ H D I (i _ _ _ q)⟩

/-! ### names and constants -/
/-- a place whose thing is fixed is its data -/
def rd (v : Val) (M : Mm) : Val := match v with
  | .obj i => match M[i]? with
    | some (.frz x) => .d x
    | _ => .obj i
  | v => v
theorem rd_ok {K : PySem.W.Frag} {mg : Str → Option Value} {G : Gh} {H : Hp} {M : Mm} {x : V} {v : Val} (S : SimM K mg G M H) (r : RW K G H x v) : RW K G H x (rd v M) := by
  cases v with
  | d y => exact r
  | scr ns => exact r
  | obj i =>
    show RW K G H x (match M[i]? with | some (.frz x) => Val.d x | _ => Val.obj i)
    split
    · rename_i y e
      obtain ⟨a, rfl, h⟩ := r
      exact S.obj i a _ h e
    · exact r
def mVar (i : Nat) : EM := fun s M => match s[i]? with
  | some (some v) => .ok (rd v M) M
  | _ => .bad
theorem se_var {i : Nat} {e : Expr} (h : PE X e (tVar i)) : SE X W e (mVar i) := by
  refine ⟨peImp h fun σ H Q ⟨G, s, M, S, N, p⟩ => ?_⟩
  unfold mVar at p
  split at p
  · rename_i v e
    obtain ⟨x, a, b⟩ := N.at_ i v e
    exact ⟨x, a, p G H x .refl S (rd_ok S b)⟩
  · exact p.elim
def mC (x : PyData) : EM := fun _ M => .ok (.d x) M
theorem se_c {e : Expr} {v : V} {x : PyData} (h : PE X e (tC v)) (r : ∀ F H, RV X.K F H v x) : SE X W e (mC x) :=
  ⟨peImp h fun σ H Q ⟨G, s, M, S, N, p⟩ => p G H v .refl S (r G.F H)⟩
theorem se_int {i : Int} {j pos} : SE X W (.Constant (.int i) j pos) (mC (.int i)) := se_c pe_int fun _ _ => .int i
theorem se_bl {b j pos} : SE X W (.Constant (.bool b) j pos) (mC (.bool b)) := se_c pe_bl fun _ _ => .bl b
theorem se_non {j pos} : SE X W (.Constant .none j pos) (mC .none) := se_c pe_non fun _ _ => .non
theorem se_str {x j pos} : SE X W (.Constant (.str x) j pos) (mC (.str x)) := se_c pe_str fun _ _ => .str x

/-! ### operators -/
def mOp (f : Val → Val → Mm → Out Val) (a b : EM) : EM := fun s M => (a s M).bind fun x M1 => (b s M1).bind fun y M2 => f x y M2
/-- a plain function of the values, right for the reading r -/
def OpZ (X : Cx) (r : R2) (f : Val → Val → Mm → Out Val) : Prop := ∀ (W : WX) (G : Gh) (M : Mm) (σ : L2.St) (H : Hp) (Q : VK) (x y : V) (v w : Val), SimM X.K X.mg G M H → RW X.K G H x v → RW X.K G H y w →
  Post X.K X.mg W G σ H (fun G' H' x v => RW X.K G' H' x v) Q (f v w M) → r x y H Q
theorem TEm.op {ta tb : EM} {f : Val → Val → Mm → Out Val} {r : R2} (z : OpZ X r f) {σ : L2.St} {H : Hp} {Q : VK} (h : TEm X.K X.mg W (mOp f ta tb) σ H Q) : tOp r (TEm X.K X.mg W ta) (TEm X.K X.mg W tb) σ H Q := by
  obtain ⟨G, s, M, S, N, p⟩ := h
  refine ⟨G, s, M, S, N, Post.bind p fun v M1 G1 H1 x e1 S1 r1 p1 => ?_⟩
  refine ⟨G1, s, M1, S1, N.ext e1, Post.bind p1 fun w M2 G2 H2 y e2 S2 r2 p2 => ?_⟩
  exact z W G2 M2 σ H2 Q x y v w S2 (RW.ext e2 r1) r2 p2
theorem se_op {op : Operator} {r : R2} {f : Val → Val → Mm → Out Val} {a b : Expr} {ma mb : EM} {pos : Pos} (ho : OpR X (binaryOp op) r) (z : OpZ X r f) (ha : SE X W a ma) (hb : SE X W b mb) : SE X W (.BinOp a op b pos) (mOp f ma mb) :=
  ⟨peImp (pe_op ho ha.pe hb.pe) fun _ _ _ h => TEm.op z h⟩
theorem se_cmp {op : CmpOp} {r : R2} {f : Val → Val → Mm → Out Val} {a b : Expr} {ma mb : EM} {pos : Pos} (ho : OpR X (compareOp op) r) (z : OpZ X r f) (ha : SE X W a ma) (hb : SE X W b mb) (hm : behindInMarks op b = false) :
    SE X W (.Compare a [op] [b] pos) (mOp f ma mb) :=
  ⟨peImp (pe_cmpR ho ha.pe hb.pe hm) fun _ _ _ h => TEm.op z h⟩
/-- a bool as a test -/
def mT (m : EM) : TM := fun s M => (m s M).bind fun v M1 => match v with
  | .d (.bool b) => .ok b M1
  | _ => .bad
theorem TTm.of {m : EM} {σ : L2.St} {H : Hp} {Q : Bool → Hp → Prop} (h : TTm X.K X.mg W (mT m) σ H Q) : tB (TEm X.K X.mg W m) σ H Q := by
  obtain ⟨G, s, M, S, N, p⟩ := h
  refine ⟨G, s, M, S, N, Post.bind p fun v M1 G1 H1 x e1 S1 r1 p1 => ?_⟩
  split at p1
  · rename_i b
    have r1 : RV X.K G1.F H1 x (.bool b) := r1
    cases r1
    exact ⟨b, rfl, p1 G1 H1 b .refl S1 rfl⟩
  · exact p1.elim
theorem st_val {e : Expr} {m : EM} (h : SE X W e m) (he : ∀ whole, isTrue e X.env whole = (do let v ← whole; standAt e.pos; holding [v] (truthy v)) := by intro _; rfl) : ST X W e (mT m) :=
  ⟨ptImp (pt_val h.pe he) fun _ _ _ h => TTm.of h⟩
theorem st_cmp {op : CmpOp} {r : R2} {f : Val → Val → Mm → Out Val} {a b : Expr} {ma mb : EM} {pos : Pos} (ho : OpR X (compareOp op) r) (z : OpZ X r f) (ha : SE X W a ma) (hb : SE X W b mb) (hm : behindInMarks op b = false) :
    ST X W (.Compare a [op] [b] pos) (mT (mOp f ma mb)) := by
  refine ⟨ptImp (pt_cmpR ho ha.pe hb.pe hm) fun σ H Q h => ?_⟩
  have h2 := TTm.of h
  obtain ⟨G, s, M, S, N, p⟩ := h2
  exact TEm.op z ⟨G, s, M, S, N, p⟩
def mTAnd (a b : TM) : TM := fun s M => (a s M).bind fun c M1 => if c = true then b s M1 else .ok false M1
def mTOr (a b : TM) : TM := fun s M => (a s M).bind fun c M1 => if c = true then .ok true M1 else b s M1
def mTNot (a : TM) : TM := fun s M => (a s M).bind fun c M1 => .ok (!c) M1
theorem sw_and1 {a : Expr} {pos : Pos} {m : TM} (h : ST X W a m) : SW X W (.BoolOp .And [a] pos) m := ⟨pw_and1 h.pt⟩
theorem sw_or1 {a : Expr} {pos : Pos} {m : TM} (h : ST X W a m) : SW X W (.BoolOp .Or [a] pos) m := ⟨pw_or1 h.pt⟩
theorem sw_and {a b : Expr} {rest : List Expr} {pos : Pos} {ma mb : TM} (ha : ST X W a ma) (hb : SW X W (.BoolOp .And (b :: rest) pos) mb) : SW X W (.BoolOp .And (a :: b :: rest) pos) (mTAnd ma mb) := by
  refine ⟨pwImp (pw_and ha.pt hb.pw) fun σ H Q ⟨G, s, M, S, N, p⟩ => ?_⟩
  refine ⟨G, s, M, S, N, Post.bind p fun c M1 G1 H1 x e1 S1 r1 p1 => ?_⟩
  subst r1
  cases x with
  | true => exact ⟨G1, s, M1, S1, N.ext e1, p1⟩
  | false => exact p1 G1 H1 _ .refl S1 rfl
theorem sw_or {a b : Expr} {rest : List Expr} {pos : Pos} {ma mb : TM} (ha : ST X W a ma) (hb : SW X W (.BoolOp .Or (b :: rest) pos) mb) : SW X W (.BoolOp .Or (a :: b :: rest) pos) (mTOr ma mb) := by
  refine ⟨pwImp (pw_or ha.pt hb.pw) fun σ H Q ⟨G, s, M, S, N, p⟩ => ?_⟩
  refine ⟨G, s, M, S, N, Post.bind p fun c M1 G1 H1 x e1 S1 r1 p1 => ?_⟩
  subst r1
  cases x with
  | true => exact p1 G1 H1 _ .refl S1 rfl
  | false => exact ⟨G1, s, M1, S1, N.ext e1, p1⟩
theorem SW.st {e : Expr} {m : TM} (h : SW X W e m) : ST X W e m := ⟨h.pw.pt⟩
theorem st_not {a : Expr} {pos : Pos} {m : TM} (h : ST X W a m) : ST X W (.UnaryOp .Not a pos) (mTNot m) := by
  refine ⟨ptImp (pt_not h.pt) fun σ H Q ⟨G, s, M, S, N, p⟩ => ?_⟩
  refine ⟨G, s, M, S, N, Post.bind p fun c M1 G1 H1 x e1 S1 r1 p1 => ?_⟩
  subst r1
  exact p1 G1 H1 _ .refl S1 rfl
/-- and, or, not as values -/
def mAnd (a b : EM) : EM := fun s M => (mT a s M).bind fun c M1 => if c = true then b s M1 else .ok (.d (.bool false)) M1
def mOr (a b : EM) : EM := fun s M => (mT a s M).bind fun c M1 => if c = true then .ok (.d (.bool true)) M1 else b s M1
def mNot (a : EM) : EM := fun s M => (mT a s M).bind fun c M1 => .ok (.d (.bool (!c))) M1
theorem se_one {op} {a : Expr} {pos : Pos} {m : EM} (h : SE X W a m) : SE X W (.BoolOp op [a] pos) m := ⟨pe_one h.pe⟩
theorem TB.first {m : EM} {k : Bool → Mm → Out Val} {G : Gh} {s : Sl} {M : Mm} {σ : L2.St} {H : Hp} {Q : VK} {R : Bool → Hp → Prop} (S : SimM X.K X.mg G M H) (N : SimS X.K G s σ H)
    (p : Post X.K X.mg W G σ H (fun G' H' x v => RW X.K G' H' x v) Q ((mT m s M).bind k))
    (hk : ∀ c M1 G1 H1, SimM X.K X.mg G1 M1 H1 → SimS X.K G1 s σ H1 → Post X.K X.mg W G1 σ H1 (fun G' H' x v => RW X.K G' H' x v) Q (k c M1) → R c H1) : TEm X.K X.mg W m σ H fun x H1 => ∃ c, x = .bl c ∧ R c H1 := by
  have h : TTm X.K X.mg W (mT m) σ H R := ⟨G, s, M, S, N, Post.bind p fun c M1 G1 H1 x e1 S1 r1 p1 => by subst r1; exact hk x M1 G1 H1 S1 (N.ext e1) p1⟩
  exact TTm.of h
theorem se_and {a b : Expr} {rest : List Expr} {pos : Pos} {ma mb : EM} (ha : SE X W a ma) (hb : SE X W (.BoolOp .And (b :: rest) pos) mb) : SE X W (.BoolOp .And (a :: b :: rest) pos) (mAnd ma mb) := by
  refine ⟨peImp (pe_and ha.pe hb.pe) fun σ H Q ⟨G, s, M, S, N, p⟩ => TB.first S N p fun c M1 G1 H1 S1 N1 p1 => ?_⟩
  cases c with
  | true => exact ⟨G1, s, M1, S1, N1, p1⟩
  | false => exact p1 G1 H1 _ .refl S1 (RV.bl false)
theorem se_or {a b : Expr} {rest : List Expr} {pos : Pos} {ma mb : EM} (ha : SE X W a ma) (hb : SE X W (.BoolOp .Or (b :: rest) pos) mb) : SE X W (.BoolOp .Or (a :: b :: rest) pos) (mOr ma mb) := by
  refine ⟨peImp (pe_or ha.pe hb.pe) fun σ H Q ⟨G, s, M, S, N, p⟩ => TB.first S N p fun c M1 G1 H1 S1 N1 p1 => ?_⟩
  cases c with
  | true => exact p1 G1 H1 _ .refl S1 (RV.bl true)
  | false => exact ⟨G1, s, M1, S1, N1, p1⟩
theorem se_not {a : Expr} {pos : Pos} {m : EM} (h : SE X W a m) : SE X W (.UnaryOp .Not a pos) (mNot m) := by
  refine ⟨peImp (pe_not h.pe) fun σ H Q ⟨G, s, M, S, N, p⟩ => TB.first S N p fun c M1 G1 H1 S1 N1 p1 => ?_⟩
  exact p1 G1 H1 _ .refl S1 (RV.bl (!c))
def mIf (c : TM) (a b : EM) : EM := fun s M => (c s M).bind fun k M1 => if k = true then a s M1 else b s M1
theorem se_if {c a b : Expr} {pos : Pos} {mc : TM} {ma mb : EM} (hc : ST X W c mc) (ha : SE X W a ma) (hb : SE X W b mb) : SE X W (.IfExp c a b pos) (mIf mc ma mb) := by
  refine ⟨peImp (pe_ifExp hc.pt ha.pe hb.pe) fun σ H Q ⟨G, s, M, S, N, p⟩ => ?_⟩
  refine ⟨G, s, M, S, N, Post.bind p fun c M1 G1 H1 x e1 S1 r1 p1 => ?_⟩
  subst r1
  cases x with
  | true => exact ⟨G1, s, M1, S1, N.ext e1, p1⟩
  | false => exact ⟨G1, s, M1, S1, N.ext e1, p1⟩

/-! ### argument lists, displays -/
def mNil : AM := fun _ M => .ok [] M
def mCons (a : EM) (r : AM) : AM := fun s M => (a s M).bind fun x M1 => (r s M1).bind fun xs M2 => .ok (x :: xs) M2
theorem sa_nil : SA X W [] mNil := ⟨paImp pa_nil fun σ H Q ⟨G, s, M, S, N, p⟩ => p G H [] .refl S .nil⟩
theorem sa_cons {e : Expr} {es : List Expr} {m : EM} {ms : AM} (ha : SE X W e m) (hr : SA X W es ms) (hs : starEach (e :: es) X.env = (false, eval e X.env) :: starEach es X.env := by rfl) : SA X W (e :: es) (mCons m ms) := by
  refine ⟨paImp (pa_cons ha.pe hr.pa hs) fun σ H Q ⟨G, s, M, S, N, p⟩ => ?_⟩
  refine ⟨G, s, M, S, N, Post.bind p fun v M1 G1 H1 x e1 S1 r1 p1 => ?_⟩
  refine ⟨G1, s, M1, S1, N.ext e1, Post.bind p1 fun w M2 G2 H2 y e2 S2 r2 p2 => ?_⟩
  exact p2 G2 H2 _ .refl S2 (.cons (RW.ext e2 r1) r2)
end
end Zm
namespace Zm
open PySem PySem.Spec PyProof.Rows L2

/-! ### the store grows, is written, is fixed -/
section
variable {K : PySem.W.Frag} {mg : Str → Option Value} {G G' : Gh} {H H' : Hp} {M : Mm}
theorem RO.keep (e : Ext0 G H G' H') {a : Addr} {o : MO} (ha : H' a = H a) (hF : ¬ G.F a → ¬ G'.F a) (h : RO K mg G H a o) : RO K mg G' H' a o := by
  cases o with
  | frz x => exact RV.ext0 e x _ h
  | lst vs =>
    obtain ⟨h1, xs, h2, h3⟩ := h
    exact ⟨hF h1, xs, by rw [ha]; exact h2, RWs.ext0 e h3⟩
  | dct kvs =>
    obtain ⟨h1, ys, h2, h3⟩ := h
    exact ⟨hF h1, ys, by rw [ha]; exact h2, Paired.mapP h3 fun _ _ q => ⟨q.1, RW.ext0 e q.2⟩⟩
  | ins C fs =>
    obtain ⟨h1, c, dx, ys, h0, h2, h3⟩ := h
    exact ⟨hF h1, c, dx, ys, h0, by rw [ha]; exact h2, Paired.mapP h3 fun _ _ q => ⟨q.1, RW.ext0 e q.2⟩⟩
theorem SimM.grow (S : SimM K mg G M H) (e : Ext0 G H G' H') (hφ : G'.φ = G.φ) (ha : ∀ a ∈ G.φ, H' a = H a) (hF : ∀ a ∈ G.φ, ¬ G.F a → ¬ G'.F a) (hT : ∀ a, G'.F a → H' a ≠ none) : SimM K mg G' M H' where
  len := by rw [hφ]; exact S.len
  nd := by rw [hφ]; exact S.nd
  obj := fun i a o h1 h2 => by
    rw [hφ] at h1
    have m : a ∈ G.φ := List.mem_of_getElem? h1
    exact RO.keep e (ha a m) (hF a m) (S.obj i a o h1 h2)
  there := fun a h => by
    rw [hφ] at h
    rw [ha a h]
    exact S.there a h
  fthere := hT
  sys := let ⟨o, u, h⟩ := S.sys; ⟨o, u, e.frz _ _ _ h⟩
theorem SimM.newne (S : SimM K mg G M H) {p : Addr} (hp : H p = none) : p ∉ G.φ := fun h => S.there p h hp
theorem ne_fresh {p a : Addr} (hp : H p = none) (h : H a ≠ none) : a ≠ p := fun e => h (e ▸ hp)
theorem ext_upd {p : Addr} {o : HO} (hp : H p = none) (hG : ∀ a, G.F a → H a ≠ none) : Ext G H G (upd H p o) := by
  refine ⟨⟨⟨[], by simp⟩, fun a xs h => by rw [upd_ne (ne_of_none h hp)]; exact h, fun a o u h => by rw [upd_ne (ne_of_none h hp)]; exact h,
    fun a h => ⟨h, upd_ne (ne_fresh hp (hG a h))⟩⟩, fun a h _ => upd_ne (ne_fresh hp h), fun a h => .inl h, fun a h => .inl h⟩
/-- something new that no place holds: a tuple, an iterator -/
theorem SimM.lay (S : SimM K mg G M H) {p : Addr} {o : HO} (hp : H p = none) : SimM K mg G M (upd H p o) ∧ Ext G H G (upd H p o) := by
  have e := ext_upd (o := o) hp S.fthere
  refine ⟨S.grow e.toExt0 rfl (fun a h => upd_ne (ne_fresh hp (S.there a h))) (fun _ _ h => h) fun a h => ?_, e⟩
  rw [(e.fix a h).2]
  exact S.fthere a h
/-- .. that is fixed from now on -/
def Gh.fix (G : Gh) (p : Addr) : Gh := ⟨G.φ, fun a => a = p ∨ G.F a⟩
theorem SimM.layF (S : SimM K mg G M H) {p : Addr} {o : HO} (hp : H p = none) : SimM K mg (G.fix p) M (upd H p o) ∧ Ext G H (G.fix p) (upd H p o) := by
  have e0 := ext_upd (o := o) hp S.fthere
  have e : Ext G H (G.fix p) (upd H p o) := ⟨⟨e0.φ, e0.tup, e0.frz, fun a h => ⟨.inr h, (e0.fix a h).2⟩⟩, e0.keep, e0.φnew, fun a h => h.elim (fun z => .inr (.inl (z ▸ hp))) .inl⟩
  refine ⟨S.grow e.toExt0 rfl (fun a h => upd_ne (ne_fresh hp (S.there a h))) (fun a m h z => ?_) fun a h => ?_, e⟩
  · rcases z with z | z
    · exact S.there a m (z ▸ hp)
    · exact h z
  · rcases h with h | h
    · subst h; rw [upd_same]; simp
    · rw [(e0.fix a h).2]; exact S.fthere a h
/-- .. at a place of its own -/
def Gh.push (G : Gh) (p : Addr) : Gh := ⟨G.φ ++ [p], G.F⟩
theorem ext_push0 {p : Addr} (e : Ext0 G H G H') : Ext0 G H (G.push p) H' := ⟨⟨[p], rfl⟩, e.tup, e.frz, e.fix⟩
theorem ext_push {p : Addr} (hp : H p = none) (e : Ext G H G H') : Ext G H (G.push p) H' := ⟨ext_push0 e.toExt0, e.keep, fun a h => (List.mem_append.mp h).imp id fun h => by
  have : a = p := by simpa using h
  rw [this]; exact hp, e.Fnew⟩
theorem SimM.push (S : SimM K mg G M H) {p : Addr} (hp : p ∉ G.φ) {o : MO} (ht : H p ≠ none) (r : RO K mg (G.push p) H p o) : SimM K mg (G.push p) (M ++ [o]) H where
  len := by simp [Gh.push, S.len]
  nd := by
    show (G.φ ++ [p]).Nodup
    rw [List.nodup_append]
    refine ⟨S.nd, by simp, fun a h b h2 => ?_⟩
    have : b = p := by simpa using h2
    subst this
    exact fun z => hp (z ▸ h)
  obj := fun i a q h1 h2 => by
    have h1 : (G.φ ++ [p])[i]? = some a := h1
    by_cases hi : i < G.φ.length
    · rw [List.getElem?_append_left hi] at h1
      rw [List.getElem?_append_left (by rw [← S.len]; exact hi)] at h2
      exact RO.keep (ext_push0 .refl) rfl (fun h => h) (S.obj i a q h1 h2)
    · have hi' : i = G.φ.length := by
        have := (List.getElem?_eq_some_iff.mp h1).1
        rw [List.length_append] at this
        simp at this
        omega
      subst hi'
      have e1 : p = a := by simpa using h1
      rw [S.len] at h2
      have e2 : o = q := by simpa using h2
      rw [← e1, ← e2]
      exact r
  there := fun a h => by
    rcases List.mem_append.mp h with h | h
    · exact S.there a h
    · have : a = p := by simpa using h
      rw [this]
      exact ht
  fthere := S.fthere
  sys := S.sys
theorem SimM.pushL (S : SimM K mg G M H) {p : Addr} (hp : H p = none) {xs : List V} {vs : List Val} (r : RWs K G H xs vs) :
    SimM K mg (G.push p) (M ++ [.lst vs]) (upd H p (.lst xs)) ∧ Ext G H (G.push p) (upd H p (.lst xs)) ∧ RW K (G.push p) (upd H p (.lst xs)) (.ref p) (.obj M.length) := by
  obtain ⟨S1, e1⟩ := S.lay (o := .lst xs) hp
  have e2 : Ext G H (G.push p) (upd H p (.lst xs)) := ext_push hp e1
  refine ⟨S1.push (S.newne hp) (by rw [upd_same]; simp) ⟨fun z => S.fthere p z hp, xs, upd_same, RWs.ext e2 r⟩, e2, p, rfl, ?_⟩
  show (G.φ ++ [p])[M.length]? = some p
  rw [← S.len]
  simp
/-- the thing at a place is changed -/
theorem SimM.write (S : SimM K mg G M H) {i : Nat} {a : Addr} {u : HO} {o : MO} (hi : G.φ[i]? = some a) (hF : ¬ G.F a) (hm : ∀ xs, H a ≠ some (.tup xs)) (hz : ∀ q v, H a ≠ some (.frz q v))
    (r : Ext G H G (upd H a u) → RO K mg G (upd H a u) a o) : SimM K mg G (M.set i o) (upd H a u) ∧ Ext G H G (upd H a u) := by
  have e : Ext G H G (upd H a u) := ⟨⟨⟨[], by simp⟩, fun b xs h => by
      rw [upd_ne (show b ≠ a from fun z => hm xs (by rw [← z]; exact h))]; exact h, fun b q v h => by
      rw [upd_ne (show b ≠ a from fun z => hz q v (by rw [← z]; exact h))]; exact h,
    fun b h => ⟨h, upd_ne fun z => hF (z ▸ h)⟩⟩, fun b _ h => upd_ne fun z => h (z ▸ List.mem_of_getElem? hi), fun b h => .inl h, fun b h => .inl h⟩
  refine ⟨⟨by rw [List.length_set]; exact S.len, S.nd, fun j b q h1 h2 => ?_, fun b h => ?_, fun b h => ?_, let ⟨o, u, h⟩ := S.sys; ⟨o, u, e.frz _ _ _ h⟩⟩, e⟩
  · by_cases hj : i = j
    · subst hj
      rw [hi] at h1
      cases h1
      have hl : i < M.length := by rw [← S.len]; exact (List.getElem?_eq_some_iff.mp hi).1
      rw [List.getElem?_set_self hl] at h2
      cases h2
      exact r e
    · rw [List.getElem?_set_ne hj] at h2
      have hb : b ≠ a := fun z => by
        subst z
        exact hj ((List.getElem?_inj (List.getElem?_eq_some_iff.mp hi).1 S.nd).mp (hi.trans h1.symm))
      exact RO.keep e.toExt0 (upd_ne hb) (fun h => h) (S.obj j b q h1 h2)
  · by_cases z : b = a
    · rw [z, upd_same]; simp
    · rw [upd_ne z]; exact S.there b h
  · rw [(e.fix b h).2]; exact S.fthere b h
theorem ext_fix {a : Addr} (h : a ∈ G.φ) : Ext G H (G.fix a) H := ⟨⟨⟨[], by simp [Gh.fix]⟩, fun _ _ h => h, fun _ _ _ h => h, fun b h => ⟨.inr h, rfl⟩⟩, fun _ _ _ => rfl, fun b h => .inl h, fun b z => z.elim (fun z => .inr (.inr (z ▸ h))) .inl⟩
/-- the thing at a place is fixed -/
theorem SimM.freeze (S : SimM K mg G M H) {i : Nat} {a : Addr} {x : PyData} (hi : G.φ[i]? = some a) (hF : ¬ G.F a) (r : RV K (G.fix a).F H (.ref a) x) : SimM K mg (G.fix a) (M.set i (.frz x)) H ∧ Ext G H (G.fix a) H := by
  have e : Ext G H (G.fix a) H := ext_fix (List.mem_of_getElem? hi)
  refine ⟨⟨by rw [List.length_set]; exact S.len, S.nd, fun j b q h1 h2 => ?_, fun b h => S.there b h, fun b h => ?_, S.sys⟩, e⟩
  · by_cases hj : i = j
    · subst hj
      have h1 : G.φ[i]? = some b := h1
      rw [hi] at h1
      cases h1
      have hl : i < M.length := by rw [← S.len]; exact (List.getElem?_eq_some_iff.mp hi).1
      rw [List.getElem?_set_self hl] at h2
      cases h2
      exact r
    · rw [List.getElem?_set_ne hj] at h2
      have h1 : G.φ[j]? = some b := h1
      have hb : b ≠ a := fun z => by
        subst z
        exact hj ((List.getElem?_inj (List.getElem?_eq_some_iff.mp hi).1 S.nd).mp (hi.trans h1.symm))
      exact RO.keep e.toExt0 rfl (fun h z => z.elim hb h) (S.obj j b q h1 h2)
  · rcases h with h | h
    · subst h; exact S.there _ (List.mem_of_getElem? hi)
    · exact S.fthere b h
end

/-- all by value -/
def allD : List Val → Option (List PyData)
  | [] => some []
  | .d x :: r => (allD r).map (x :: ·)
  | _ :: _ => none
theorem allD_ok {K : PySem.W.Frag} {G : Gh} {H : Hp} : ∀ {vs : List Val} {ds : List PyData} {xs : List V}, allD vs = some ds → RWs K G H xs vs → RVs K G.F H xs ds
  | [], ds, xs, e, r => by cases r; cases e; exact .nil
  | .d x :: vs, ds, xs, e, r => by
    cases r with
    | cons r1 r2 =>
      unfold allD at e
      cases q : allD vs with
      | none => rw [q] at e; cases e
      | some es =>
        rw [q] at e
        cases e
        exact .cons r1 (allD_ok q r2)
  | .obj _ :: _, _, _, e, _ => by cases e
  | .scr _ :: _, _, _, e, _ => by cases e
theorem allD_map : ∀ (ds : List PyData), allD (ds.map Val.d) = some ds
  | [] => rfl
  | d :: ds => by simp [allD, allD_map ds]
theorem Paired.len {α β : Type} {F : α → β → Prop} : ∀ {l : List α} {m : List β}, Paired F l m → l.length = m.length
  | _, _, .nil => rfl
  | _, _, .cons _ t => by simp [Paired.len t]
def fitsL (n : Nat) : Bool := decide (n ≤ 16777216)
theorem fitsL_ok {n : Nat} (h : fitsL n = true) : n ≤ sizeLine := of_decide_eq_true h
section
variable {X : Cx} {W : WX}
def mTup (a : AM) : EM := fun s M => (a s M).bind fun vs M1 => match allD vs with
  | some ds => if fitsL ds.length then .ok (.d (.tuple ds)) M1 else .bad
  | none => .bad
theorem se_tup {es : List Expr} {pos : Pos} {x1} {m : AM} (h : SA X W es m) : SE X W (.Tuple es x1 pos) (mTup m) := by
  refine ⟨peImp (pe_tup h.pa) fun σ H Q ⟨G, s, M, S, N, p⟩ => ⟨G, s, M, S, N, Post.bind p fun vs M1 G1 H1 xs e1 S1 r1 p1 => ?_⟩⟩
  split at p1
  · rename_i ds ed
    split at p1
    · rename_i hf
      have rv := allD_ok ed r1
      refine ⟨by rw [rv.len]; exact fitsL_ok hf, fun q hq => ?_⟩
      obtain ⟨S2, e2⟩ := S1.lay (o := .tup xs) hq
      exact p1 G1 _ _ e2 S2 (RV.tup upd_same (RVs.ext e2 _ _ rv))
    · exact p1.elim
  · exact p1.elim
/-- a list by value -/
def mLst (a : AM) : EM := fun s M => (a s M).bind fun vs M1 => match allD vs with
  | some ds => if fitsL ds.length then .ok (.d (.list ds)) M1 else .bad
  | none => .bad
theorem se_lst {es : List Expr} {pos : Pos} {m : AM} (h : SA X W es m) : SE X W (.List es pos) (mLst m) := by
  refine ⟨peImp (pe_lst h.pa) fun σ H Q ⟨G, s, M, S, N, p⟩ => ⟨G, s, M, S, N, Post.bind p fun vs M1 G1 H1 xs e1 S1 r1 p1 => ?_⟩⟩
  split at p1
  · rename_i ds ed
    split at p1
    · rename_i hf
      have rv := allD_ok ed r1
      refine ⟨by rw [rv.len]; exact fitsL_ok hf, fun q hq => ?_⟩
      obtain ⟨S2, e2⟩ := S1.layF (o := .lst xs) hq
      exact p1 _ _ _ e2 S2 (RV.lst (.inl rfl) upd_same (RVs.ext e2 _ _ rv))
    · exact p1.elim
  · exact p1.elim
/-- a list at a place of its own -/
def mNew (a : AM) : EM := fun s M => (a s M).bind fun vs M1 => if fitsL vs.length then .ok (.obj M1.length) (M1 ++ [.lst vs]) else .bad
theorem se_new {es : List Expr} {pos : Pos} {m : AM} (h : SA X W es m) : SE X W (.List es pos) (mNew m) := by
  refine ⟨peImp (pe_lst h.pa) fun σ H Q ⟨G, s, M, S, N, p⟩ => ⟨G, s, M, S, N, Post.bind p fun vs M1 G1 H1 xs e1 S1 r1 p1 => ?_⟩⟩
  split at p1
  · rename_i hf
    refine ⟨by rw [Paired.len r1]; exact fitsL_ok hf, fun q hq => ?_⟩
    obtain ⟨S2, e2, r2⟩ := S1.pushL hq r1
    exact p1 _ _ _ e2 S2 r2
  · exact p1.elim
/-- from now on by value (nothing happens in Python) -/
def fzL (vs : List Val) (M : Mm) : Option (List PyData) := allD (vs.map (rd · M))
def mFrz (m : EM) : EM := fun s M => (m s M).bind fun v M1 => match v with
  | .d x => .ok (.d x) M1
  | .scr ns => .ok (.scr ns) M1
  | .obj i => match M1[i]? with
    | some (.frz x) => .ok (.d x) M1
    | some (.lst vs) => match fzL vs M1 with
      | some ds => .ok (.d (.list ds)) (M1.set i (.frz (.list ds)))
      | none => .bad
    | _ => .bad
theorem rws_rd {K : PySem.W.Frag} {mg : Str → Option Value} {G : Gh} {H : Hp} {M : Mm} (S : SimM K mg G M H) : ∀ {xs : List V} {vs : List Val}, RWs K G H xs vs → RWs K G H xs (vs.map (rd · M))
  | _, _, .nil => .nil
  | _, _, .cons h t => .cons (rd_ok S h) (rws_rd S t)
theorem frz_ok {K : PySem.W.Frag} {mg : Str → Option Value} {W : WX} {G : Gh} {H : Hp} {M : Mm} {σ : L2.St} {Q : VK} {i : Nat} {vs : List Val} {ds : List PyData} {a : Addr} (S : SimM K mg G M H) (hi : G.φ[i]? = some a) (ho : M[i]? = some (.lst vs)) (hd : fzL vs M = some ds)
    (p : Post K mg W G σ H (fun G' H' x v => RW K G' H' x v) Q (.ok (.d (.list ds)) (M.set i (.frz (.list ds))))) : Q (.ref a) H := by
  obtain ⟨nF, xs, hx, rx⟩ := S.obj i a _ hi ho
  have rv := allD_ok hd (rws_rd S rx)
  have e : Ext G H (G.fix a) H := ext_fix (List.mem_of_getElem? hi)
  have rl : RV K (G.fix a).F H (.ref a) (.list ds) := .lst (.inl rfl) hx (RVs.ext e _ _ rv)
  obtain ⟨S2, e2⟩ := S.freeze hi nF rl
  exact p _ _ _ e2 S2 rl
theorem se_frz {e : Expr} {m : EM} (h : SE X W e m) : SE X W e (mFrz m) := by
  refine ⟨peImp h.pe fun σ H Q ⟨G, s, M, S, N, p⟩ => ⟨G, s, M, S, N, Post.bind p fun v M1 G1 H1 x e1 S1 r1 p1 => ?_⟩⟩
  cases v with
  | d y => exact p1 G1 H1 x .refl S1 r1
  | scr ns => exact p1 G1 H1 x .refl S1 r1
  | obj i =>
    obtain ⟨a, rfl, hi⟩ := r1
    dsimp only at p1
    split at p1
    · rename_i y ey
      exact p1 G1 H1 _ .refl S1 (S1.obj i a _ hi ey)
    · rename_i vs ev
      split at p1
      · rename_i ds ed
        exact frz_ok S1 hi ev ed p1
      · exact p1.elim
    · exact p1.elim

/-! ### blocks -/
def SO.seq (o : SO) (f : SM) : SO := match o with
  | .nx s M => f s M
  | o => o
def Out.bindS {α : Type} (o : Out α) (s : Sl) (f : α → Mm → SO) : SO := match o with
  | .ok v M => f v M
  | .er e M => .er e s M
  | .bad => .bad
theorem PostS.bind {α β : Type} {K : PySem.W.Frag} {mg : Str → Option Value} {G : Gh} {σ : L2.St} {H : Hp} {R : Gh → Hp → β → α → Prop} {Q : β → Hp → Prop} {E : Ends} {o : Out α} {s : Sl} {f : α → Mm → SO} (N : SimS K G s σ H)
    (h : PostS K mg W G H E (o.bindS s f)) (k : ∀ v M' G' H' x, Ext G H G' H' → SimM K mg G' M' H' → R G' H' x v → PostS K mg W G' H' E (f v M') → Q x H') : Post K mg W G σ H R Q o := by
  cases o with
  | ok v M => exact fun G' H' x e S r => k v M G' H' x e S r (PostS.ext e h)
  | er x M => exact fun G' H' c d e S r => h G' H' σ c d e S (N.ext e) r
  | bad => exact h
def sNil : SM := fun s M => .nx s M
def sSeq (a b : SM) : SM := fun s M => (a s M).seq b
theorem sss_nil : SSs X W [] sNil := ⟨pssImp pss_nil fun D σ H ⟨G, s, M, S, N, p⟩ => p G H σ .refl S N⟩
theorem sss_cons {st : Stmt} {rest : List Stmt} {a b : SM} (h : SS X W st a) (h2 : SSs X W rest b) : SSs X W (st :: rest) (sSeq a b) := by
  refine ⟨pssImp (pss_cons h.ps h2.pss) fun D σ H ⟨G, s, M, S, N, p⟩ => ⟨G, s, M, S, N, ?_⟩⟩
  have p : PostS X.K X.mg W G H D ((a s M).seq b) := p
  cases e : a s M with
  | nx s1 M1 =>
    rw [e] at p
    exact fun G' H' σ' e' S' N' => ⟨G', s1, M1, S', N', PostS.ext e' p⟩
  | rt v M1 => rw [e] at p; exact p
  | bk s1 M1 => rw [e] at p; exact p
  | ct s1 M1 => rw [e] at p; exact p
  | er x s1 M1 => rw [e] at p; exact p
  | bad => rw [e] at p; exact p
theorem sss_one {st : Stmt} {a : SM} (h : SS X W st a) : SSs X W [st] a := ⟨pss_one h.ps⟩
theorem ss_pass {pos : Pos} : SS X W (.Pass pos) sNil := ⟨psImp ps_pass fun D σ H ⟨G, s, M, S, N, p⟩ => p G H σ .refl S N⟩
def sBrk : SM := fun s M => .bk s M
def sCnt : SM := fun s M => .ct s M
theorem ss_break {pos : Pos} : SS X W (.Break pos) sBrk := ⟨psImp ps_break fun D σ H ⟨G, s, M, S, N, p⟩ => p G H σ .refl S N⟩
theorem ss_continue {pos : Pos} : SS X W (.Continue pos) sCnt := ⟨psImp ps_continue fun D σ H ⟨G, s, M, S, N, p⟩ => p G H σ .refl S N⟩
theorem ss_doc {x j pos pos'} : SS X W (.Expr (.Constant (.str x) j pos) pos') sNil := ⟨psImp ps_doc fun D σ H ⟨G, s, M, S, N, p⟩ => p G H σ .refl S N⟩
def sDrop (m : EM) : SM := fun s M => (m s M).bindS s fun _ M1 => .nx s M1
theorem ss_expr {e : Expr} {pos : Pos} {m : EM} (h : SE X W e m) (hs : swapsWith e none pos.line X.env = pure false := by rfl) : SS X W (.Expr e pos) (sDrop m) :=
  ⟨psImp (ps_expr h.pe hs) fun D σ H ⟨G, s, M, S, N, p⟩ => ⟨G, s, M, S, N, PostS.bind N p fun v M1 G1 H1 x e1 S1 r1 p1 => p1 G1 H1 σ .refl S1 (N.ext e1)⟩⟩
def sRet (m : EM) : SM := fun s M => (m s M).bindS s fun v M1 => .rt v M1
theorem ss_ret {e : Expr} {pos : Pos} {m : EM} (h : SE X W e m) : SS X W (.Return (some e) pos) (sRet m) :=
  ⟨psImp (ps_ret h.pe) fun D σ H ⟨G, s, M, S, N, p⟩ => ⟨G, s, M, S, N, PostS.bind N p fun v M1 G1 H1 x e1 S1 r1 p1 => p1 G1 H1 x .refl S1 r1⟩⟩
def sRetN : SM := fun s M => .rt (.d .none) M
theorem ss_retN {pos : Pos} : SS X W (.Return none pos) sRetN := ⟨psImp ps_retN fun D σ H ⟨G, s, M, S, N, p⟩ => p G H _ .refl S RV.non⟩
def sIf (c : TM) (a b : SM) : SM := fun s M => (c s M).bindS s fun k M1 => if k = true then a s M1 else b s M1
theorem ss_if {c : Expr} {a b : List Stmt} {pos : Pos} {mc : TM} {ma mb : SM} (hc : ST X W c mc) (ha : SSs X W a ma) (hb : SSs X W b mb) : SS X W (.If c a b pos) (sIf mc ma mb) := by
  refine ⟨psImp (ps_if hc.pt ha.pss hb.pss) fun D σ H ⟨G, s, M, S, N, p⟩ => ⟨G, s, M, S, N, PostS.bind N p fun v M1 G1 H1 x e1 S1 r1 p1 => ?_⟩⟩
  subst r1
  cases x with
  | true => exact ⟨G1, s, M1, S1, N.ext e1, p1⟩
  | false => exact ⟨G1, s, M1, S1, N.ext e1, p1⟩

/-! ### targets -/
abbrev GM := Val → Sl → Mm → Option (Sl × Mm)
abbrev GMs := List Val → Sl → Mm → Option (Sl × Mm)
def PostG (K : PySem.W.Frag) (mg : Str → Option Value) (G : Gh) (H : Hp) (Q : L2.St → Hp → Prop) : Option (Sl × Mm) → Prop
  | some (s', M') => ∀ G' H' σ', Ext G H G' H' → SimM K mg G' M' H' → SimS K G' s' σ' H' → Q σ' H'
  | none => False
theorem PostG.ext {K : PySem.W.Frag} {mg : Str → Option Value} {G G1 : Gh} {H H1 : Hp} {Q : L2.St → Hp → Prop} {o : Option (Sl × Mm)} (e : Ext G H G1 H1) (h : PostG K mg G H Q o) : PostG K mg G1 H1 Q o := by
  cases o with
  | none => exact h
  | some p => exact fun G' H' σ' e' => h G' H' σ' (e.trans e')
def TGm (K : PySem.W.Frag) (mg : Str → Option Value) (g : GM) : TG := fun x σ H Q => ∃ G s M v, SimM K mg G M H ∧ SimS K G s σ H ∧ RW K G H x v ∧ PostG K mg G H Q (g v s M)
def TGms (K : PySem.W.Frag) (mg : Str → Option Value) (g : GMs) : TGs := fun xs σ H Q => ∃ G s M vs, SimM K mg G M H ∧ SimS K G s σ H ∧ RWs K G H xs vs ∧ PostG K mg G H Q (g vs s M)
structure SG (X : Cx) (e : Expr) (m : GM) : Prop where
  pg : PG X e (TGm X.K X.mg m)
structure SGs (X : Cx) (e : List Expr) (m : GMs) : Prop where
  pgs : PGs X e (TGms X.K X.mg m)
theorem pgImp {e : Expr} {t t' : TG} (h : PG X e t) (i : ∀ v σ H Q, t' v σ H Q → t v σ H Q) : PG X e t' := ⟨fun pins s σ H v u Q I r q => h.run pins s σ H v u Q I r (i _ _ _ _ q)⟩
theorem pgsImp {e : List Expr} {t t' : TGs} (h : PGs X e t) (i : ∀ v σ H Q, t' v σ H Q → t v σ H Q) : PGs X e t' := ⟨fun pins s σ H v u Q I r q => h.run pins s σ H v u Q I r (i _ _ _ _ q)⟩
def gN (i : Nat) : GM := fun v s M => some (s.set i (some v), M)
theorem sg_name {i : Nat} {e : Expr} (h : PG X e (gName i)) : SG X e (gN i) :=
  ⟨pgImp h fun x σ H Q ⟨G, s, M, v, S, N, r, p⟩ => p G H _ .refl S (N.set r)⟩
def gsNil : GMs := fun vs s M => match vs with
  | [] => some (s, M)
  | _ => none
def gsCons (g : GM) (r : GMs) : GMs := fun vs s M => match vs with
  | v :: vs => (g v s M).bind fun p => r vs p.1 p.2
  | _ => none
theorem sgs_nil : SGs X [] gsNil := by
  refine ⟨pgsImp pgs_nil fun xs σ H Q ⟨G, s, M, vs, S, N, r, p⟩ => ?_⟩
  cases r with
  | nil => exact ⟨rfl, p G H σ .refl S N⟩
  | cons r1 r2 => exact p.elim
theorem sgs_cons {e : Expr} {es : List Expr} {g : GM} {gs : GMs} (h : SG X e g) (h2 : SGs X es gs) (hs : (assignEach (e :: es) X.env).map (·.2) = assign e X.env :: (assignEach es X.env).map (·.2) := by rfl) : SGs X (e :: es) (gsCons g gs) := by
  refine ⟨pgsImp (pgs_cons h.pg h2.pgs hs) fun xs σ H Q ⟨G, s, M, vs, S, N, r, p⟩ => ?_⟩
  cases r with
  | nil => exact p.elim
  | @cons x v xs vs r1 r2 =>
    refine ⟨x, xs, rfl, G, s, M, v, S, N, r1, ?_⟩
    have p : PostG X.K X.mg G H Q ((g v s M).bind fun p => gs vs p.1 p.2) := p
    cases e : g v s M with
    | none => rw [e] at p; exact p.elim
    | some q =>
      rw [e] at p
      exact fun G' H' σ' e' S' N' => ⟨G', q.1, q.2, vs, S', N', RWs.ext e' r2, PostG.ext e' p⟩
/-- a, b = a tuple -/
def gT (n : Nat) (g : GMs) : GM := fun v s M => match v with
  | .d (.tuple ds) => if ds.length = n then g (ds.map .d) s M else none
  | _ => none
theorem sg_tup {es : List Expr} {k : Nat} {pos : Pos} {g : GMs} {n : Nat} (hc : X.calm = true) (h : SGs X es g) (hn : (assignEach es X.env).length = n := by rfl) (hst : (assignEach es X.env).findIdx? (·.1) = none := by rfl) : SG X (.Tuple es k pos) (gT n g) := by
  refine ⟨pgImp (pg_tup hc h.pgs hn hst) fun x σ H Q ⟨G, s, M, v, S, N, r, p⟩ => ?_⟩
  unfold gT at p
  split at p
  · rename_i ds
    split at p
    · rename_i hl
      have r : RV X.K G.F H x (.tuple ds) := r
      cases r with
      | tup h1 h2 => exact ⟨_, _, rfl, SqT.of h1, by rw [h2.len]; exact hl, G, s, M, _, S, N, RVs.rws h2, p⟩
    · exact p.elim
  · exact p.elim

/-! ### assignments -/
def Out.asg (o : Out Val) (s : Sl) (g : GM) : SO := o.bindS s fun v M1 => match g v s M1 with
  | some (s', M') => .nx s' M'
  | none => .bad
def sAsg (m : EM) (g : GM) : SM := fun s M => (m s M).asg s g
theorem PostG.of {G : Gh} {H : Hp} {D : Ends} {o : Option (Sl × Mm)} (p : PostS X.K X.mg W G H D (match o with
  | some (s', M') => .nx s' M'
  | none => .bad)) : PostG X.K X.mg G H D.nx o := by
  cases o with
  | none => exact p
  | some q => exact p
theorem TSm.asg {m : EM} {g : GM} {D : Ends} {σ : L2.St} {H : Hp} (h : TSm X.K X.mg W (sAsg m g) D σ H) : tAsg (TEm X.K X.mg W m) (TGm X.K X.mg g) D σ H := by
  obtain ⟨G, s, M, S, N, p⟩ := h
  exact ⟨G, s, M, S, N, PostS.bind N p fun v M1 G1 H1 x e1 S1 r1 p1 => ⟨G1, s, M1, v, S1, N.ext e1, r1, PostG.of p1⟩⟩
theorem ss_asg {tg e : Expr} {m : EM} {g : GM} {pos : Pos} (he : SE X W e m) (hg : SG X tg g) (hs : swapsWithSole [tg] e pos.line X.env = pure false := by rfl) (hw : swappedStores [tg] e X.env = pure none := by rfl)
    (h1 : (assignEach [tg] X.env).map (·.2) = [assign tg X.env] := by rfl) : SS X W (.Assign [tg] e pos) (sAsg m g) :=
  ⟨psImp (ps_asg he.pe hg.pg hs hw h1) fun _ _ _ h => TSm.asg h⟩
/-- name = e, by the layer's own rule for the statement -/
theorem ss_setR {i : Nat} {st : Stmt} {m : EM} (h : PS X st (tAsg (TEm X.K X.mg W m) (gName i))) : SS X W st (sAsg m (gN i)) := by
  refine ⟨psImp h fun D σ H ⟨G, s, M, S, N, p⟩ => ⟨G, s, M, S, N, PostS.bind N p fun v M1 G1 H1 x e1 S1 r1 p1 => ?_⟩⟩
  exact p1 G1 H1 _ .refl S1 ((N.ext e1).set r1)
theorem ss_set {i : Nat} {x : Str} {e : Expr} {m : EM} {pos pos' : Pos} (hN : X.N.Nodup) (hi : X.N[i]? = some x) (hx : Loc X.env.scope x) (he : SE X W e m) (hs : swapsWith e (some (.Name x pos')) pos.line X.env = pure false := by rfl)
    (hf : X.fn x = true ∨ X.env.scope.names.lookup x = some .local := by first | exact .inl rfl | exact .inr rfl | assumption) : SS X W (.Assign [.Name x pos'] e pos) (sAsg m (gN i)) := ss_setR (ps_set hN hi hx he.pe hs hf)
/-- a, b = x, y -/
def sPar (is : List Nat) (a : AM) : SM := fun s M => (a s M).bindS s fun vs M1 => if vs.length = is.length then .nx ((is.zip vs).foldl (fun s p => s.set p.1 (some p.2)) s) M1 else .bad
theorem ss_par {i j : Nat} {st : Stmt} {ma : AM} (h : PS X st (tPar i j (TAm X.K X.mg W ma))) : SS X W st (sPar [i, j] ma) := by
  refine ⟨psImp h fun D σ H ⟨G, s, M, S, N, p⟩ => ⟨G, s, M, S, N, PostS.bind N p fun v M1 G1 H1 x e1 S1 r1 p1 => ?_⟩⟩
  split at p1
  · rename_i hl
    cases r1 with
    | nil => cases hl
    | cons r1 r2 =>
      cases r2 with
      | nil => cases hl
      | cons r2 r3 =>
        cases r3 with
        | cons _ _ => simp at hl
        | nil => exact ⟨_, _, rfl, p1 G1 H1 _ .refl S1 (((N.ext e1).set r1).set r2)⟩
  · exact p1.elim
theorem ss_par3 {i j l : Nat} {st : Stmt} {ma : AM} (h : PS X st (fun D σ H => TAm X.K X.mg W ma σ H fun vs H1 => ∃ u v w, vs = [u, v, w] ∧ D.nx (((σ.set i (some u)).set j (some v)).set l (some w)) H1)) : SS X W st (sPar [i, j, l] ma) := by
  refine ⟨psImp h fun D σ H ⟨G, s, M, S, N, p⟩ => ⟨G, s, M, S, N, PostS.bind N p fun v M1 G1 H1 x e1 S1 r1 p1 => ?_⟩⟩
  split at p1
  · rename_i hl
    cases r1 with
    | nil => cases hl
    | cons r1 r2 =>
      cases r2 with
      | nil => cases hl
      | cons r2 r3 =>
        cases r3 with
        | nil => cases hl
        | cons r3 r4 =>
          cases r4 with
          | cons _ _ => simp at hl
          | nil => exact ⟨_, _, _, rfl, p1 G1 H1 _ .refl S1 ((((N.ext e1).set r1).set r2).set r3)⟩
  · exact p1.elim
end
end Zm
namespace Zm
open PySem PySem.Spec PyProof.Rows L2

/-! ### what is walked -/
/-- J goes over vs, whatever has come behind -/
def Goes (K : PySem.W.Frag) (mg : Str → Option Value) (G : Gh) (H : Hp) (J : It) (vs : List Val) : Prop :=
  ∀ G' H', Ext G H G' H' → (∀ i, i < vs.length → J.go i H') ∧ J.stop vs.length H' ∧
    ∀ i v, vs[i]? = some v → ∀ M', SimM K mg G' M' H' → ∀ x H'', J.yld i H' x H'' → ∃ G'', Ext G' H' G'' H'' ∧ SimM K mg G'' M' H'' ∧ RW K G'' H'' x v
theorem Goes.ext {K : PySem.W.Frag} {mg : Str → Option Value} {G G1 : Gh} {H H1 : Hp} {J : It} {vs : List Val} (e : Ext G H G1 H1) (h : Goes K mg G H J vs) : Goes K mg G1 H1 J vs := fun G' H' e' => h G' H' (e.trans e')
def TIm (K : PySem.W.Frag) (mg : Str → Option Value) (W : WX) (m : AM) : TI := fun σ H R => ∃ G s M, SimM K mg G M H ∧ SimS K G s σ H ∧ Post K mg W G σ H (fun G' H' J vs => Goes K mg G' H' J vs) R (m s M)
structure SI (X : Cx) (W : WX) (tg e : Expr) (m : AM) : Prop where
  pi : PI X tg e (TIm X.K X.mg W m)
theorem piImp {X : Cx} {tg e : Expr} {t t' : TI} (h : PI X tg e t) (i : ∀ σ H Q, t' σ H Q → t σ H Q) : PI X tg e t' := ⟨fun pins s σ H Q I q => h.run pins s σ H Q I (i _ _ _ q)⟩
theorem piOr {X : Cx} {tg e : Expr} {t t' : TI} (h : PI X tg e t) (h' : PI X tg e t') : PI X tg e (fun σ H R => t σ H R ∨ t' σ H R) := ⟨fun pins s σ H Q I q => q.elim (h.run pins s σ H Q I) (h'.run pins s σ H Q I)⟩
theorem Ext.seqT {K : PySem.W.Frag} {G G' : Gh} {H H' : Hp} (e : Ext G H G' H') {a : Addr} {xs : List V} (h : SqT K H a xs) : SqT K H' a xs := SqT.ext e h

section
variable {X : Cx} {W : WX}
/-- the items of a list or a tuple held by value -/
def itK (v : Val) (M1 : Mm) : Out (List Val) := match v with
  | .d (.list ds) => .ok (ds.map .d) M1
  | .d (.tuple ds) => .ok (ds.map .d) M1
  | .scr ns => .ok (ns.map fun n => .d (.int n)) M1
  | _ => .bad
def mIt (m : EM) : AM := fun s M => (m s M).bind itK
end

/-! ### loops -/
def forL (g : GM) (b : SM) : List Val → SM
  | [], s, M => .nx s M
  | v :: vs, s, M => match g v s M with
    | some (s1, M1) => match b s1 M1 with
      | .nx s2 M2 => forL g b vs s2 M2
      | .ct s2 M2 => forL g b vs s2 M2
      | .bk s2 M2 => .nx s2 M2
      | o => o
    | none => .bad
def sFor (it : AM) (g : GM) (b : SM) : SM := fun s M => (it s M).bindS s fun vs M1 => forL g b vs s M1
section
variable {X : Cx} {W : WX}
theorem ss_for {tg iter : Expr} {body : List Stmt} {pos : Pos} {m : AM} {g : GM} {b : SM} (hp : PassesOwn (model X.prog X.w) X.A X.env X.xe) (hc : X.calm = true) (hi : SI X W tg iter m) (hg : SG X tg g) (hb : SSs X W body b)
    (hs : ∀ x, foldedSetIterable iter X.env x = pure x := by intro _; rfl) : SS X W (.For tg iter body [] pos) (sFor m g b) := by
  refine ⟨psImp (ps_for hp hc hi.pi hg.pg hb.pss hs) fun D σ H ⟨G, s, M, S, N, p⟩ => ⟨G, s, M, S, N, PostS.bind N p fun vs M1 G1 H1 J e1 S1 g1 p1 => ?_⟩⟩
  refine ⟨fun i m σ' H' => i + m = vs.length ∧ ∃ G' s' M', Ext G1 H1 G' H' ∧ SimM X.K X.mg G' M' H' ∧ SimS X.K G' s' σ' H' ∧ PostS X.K X.mg W G' H' D (forL g b (vs.drop i) s' M'),
    ⟨vs.length, by omega, G1, s, M1, .refl, S1, N.ext e1, p1⟩, ?_⟩
  rintro i m σ' H' ⟨hm, G', s', M', e', S', N', p'⟩
  obtain ⟨q1, q2, q3⟩ := g1 G' H' e'
  by_cases hl : i < vs.length
  · refine .inr ⟨q1 i hl, fun σ'' H'' => ∃ G'' s'' M'', Ext G1 H1 G'' H'' ∧ SimM X.K X.mg G'' M'' H'' ∧ SimS X.K G'' s'' σ'' H'' ∧ PostS X.K X.mg W G'' H'' D (forL g b (vs.drop (i + 1)) s'' M''), fun σ'' H'' h => ⟨m - 1, by omega, by omega, h⟩, fun x H'' y => ?_⟩
    have ev : vs[i]? = some vs[i] := List.getElem?_eq_getElem hl
    obtain ⟨G2, e2, S2, r2⟩ := q3 i _ ev M' S' x H'' y
    rw [List.drop_eq_getElem_cons hl] at p'
    unfold forL at p'
    refine ⟨G2, s', M', vs[i], S2, N'.ext e2, r2, ?_⟩
    cases eg : g vs[i] s' M' with
    | none => rw [eg] at p'; exact p'.elim
    | some q =>
      obtain ⟨s1, M1'⟩ := q
      rw [eg] at p'
      dsimp only at p'
      refine fun G3 H3 σ3 e3 S3 N3 => ⟨G3, s1, M1', S3, N3, ?_⟩
      have eAll : Ext G' H' G3 H3 := e2.trans e3
      cases eb : b s1 M1' with
      | nx s2 M2 =>
        rw [eb] at p'
        exact fun G4 H4 σ4 e4 S4 N4 => ⟨G4, s2, M2, (e'.trans eAll).trans e4, S4, N4, PostS.ext (eAll.trans e4) p'⟩
      | ct s2 M2 =>
        rw [eb] at p'
        exact fun G4 H4 σ4 e4 S4 N4 => ⟨G4, s2, M2, (e'.trans eAll).trans e4, S4, N4, PostS.ext (eAll.trans e4) p'⟩
      | bk s2 M2 => rw [eb] at p'; exact fun G4 H4 σ4 e4 => p' G4 H4 σ4 (eAll.trans e4)
      | rt v M2 => rw [eb] at p'; exact fun G4 H4 x e4 => p' G4 H4 x (eAll.trans e4)
      | er x s2 M2 => rw [eb] at p'; exact fun G4 H4 σ4 c d e4 => p' G4 H4 σ4 c d (eAll.trans e4)
      | bad => rw [eb] at p'; exact p'.elim
  · have hi' : i = vs.length := by omega
    rw [hi', List.drop_length] at p'
    exact .inl ⟨hi' ▸ q2, p' G' H' σ' .refl S' N'⟩
/-- at most n turns -/
def whN (c : TM) (b : SM) : Nat → SM
  | 0, _, _ => .bad
  | n + 1, s, M => (c s M).bindS s fun k M1 => if k = true then
      match b s M1 with
      | .nx s2 M2 => whN c b n s2 M2
      | .ct s2 M2 => whN c b n s2 M2
      | .bk s2 M2 => .nx s2 M2
      | o => o
    else .nx s M1
open Classical in
noncomputable def sWhile (c : TM) (b : SM) : SM := fun s M => if h : ∃ n, whN c b n s M ≠ .bad then whN c b (Classical.choose h) s M else .bad
theorem ss_while {c : Expr} {body : List Stmt} {pos : Pos} {mc : TM} {b : SM} (hp : PassesOwn (model X.prog X.w) X.A X.env X.xe) (hc : ST X W c mc) (hb : SSs X W body b) : SS X W (.While c body [] pos) (sWhile mc b) := by
  refine ⟨psImp (ps_while hp hc.pt hb.pss) fun D σ H ⟨G, s, M, S, N, p⟩ => ?_⟩
  obtain ⟨n0, p⟩ : ∃ n, PostS X.K X.mg W G H D (whN mc b n s M) := by
    unfold sWhile at p
    split at p
    · exact ⟨_, p⟩
    · exact p.elim
  refine ⟨fun n σ' H' => ∃ G' s' M', SimM X.K X.mg G' M' H' ∧ SimS X.K G' s' σ' H' ∧ PostS X.K X.mg W G' H' D (whN mc b n s' M'), ⟨n0, G, s, M, S, N, p⟩, ?_⟩
  rintro n σ' H' ⟨G', s', M', S', N', p'⟩
  cases n with
  | zero => exact p'.elim
  | succ n =>
    unfold whN at p'
    refine ⟨G', s', M', S', N', PostS.bind N' p' fun k M1 G1 H1 x e1 S1 r1 p1 => ?_⟩
    subst r1
    cases x with
    | false => exact p1 G1 H1 _ .refl S1 (N'.ext e1)
    | true =>
      rw [if_pos rfl] at p1 ⊢
      refine ⟨fun σ'' H'' => ∃ G'' s'' M'', SimM X.K X.mg G'' M'' H'' ∧ SimS X.K G'' s'' σ'' H'' ∧ PostS X.K X.mg W G'' H'' D (whN mc b n s'' M''), fun σ'' H'' h => ⟨n, by omega, h⟩, G1, s', M1, S1, N'.ext e1, ?_⟩
      cases eb : b s' M1 with
      | nx s2 M2 => rw [eb] at p1; exact fun G4 H4 σ4 e4 S4 N4 => ⟨G4, s2, M2, S4, N4, PostS.ext e4 p1⟩
      | ct s2 M2 => rw [eb] at p1; exact fun G4 H4 σ4 e4 S4 N4 => ⟨G4, s2, M2, S4, N4, PostS.ext e4 p1⟩
      | bk s2 M2 => rw [eb] at p1; exact p1
      | rt v M2 => rw [eb] at p1; exact p1
      | er x s2 M2 => rw [eb] at p1; exact p1
      | bad => rw [eb] at p1; exact p1.elim
end

/-! ### defs -/
abbrev Den := List Val → Mm → Out Val
def SpZ (K : PySem.W.Frag) (mg : Str → Option Value) (den : Den) : Sp := fun vs H Q E => ∃ G ws M, SimM K mg G M H ∧ RWs K G H vs ws ∧ Post K mg (fun c d _ H' => E c d H') G [] H (fun G' H' x v => RW K G' H' x v) Q (den ws M)
structure FnZ (P : Program) (w : World) (K : PySem.W.Frag) (mg : Str → Option Value) (base : Heap) (k : Nat) (f : Addr) (fd : FuncData) (ps : List Str) (den : Den) : Prop where
  run : ∀ (A : Around) (outer : List Env) (s : Shared) (H : Hp) (args : Args) (us : List Value) (vs : List V) (Q : VK) (E : XK), Room k A → A.guards = some [] → Env0 P w K mg base A outer s H → BindsTo s fd args (ps.zip us) → Vals vs us →
    vs.length = ps.length → SpZ K mg den vs H Q E → codeAny (model P w) A (.call (.ref f) args) (CR (L2.CX P w) outer P w H s Q E) s
theorem FnZ.mono {P : Program} {w : World} {K : PySem.W.Frag} {mg : Str → Option Value} {base : Heap} {j k : Nat} {f : Addr} {fd : FuncData} {ps : List Str} {den : Den} (F : FnZ P w K mg base j f fd ps den) (h : j ≤ k) : FnZ P w K mg base k f fd ps den :=
  ⟨fun A outer s H args us vs Q E hr => F.run A outer s H args us vs Q E (hr.mono h)⟩
/-- the names at the start -/
def slots0 (n : Nat) (vs : List Val) : Sl := vs.map some ++ List.replicate (n - vs.length) none
/-- a body, as a function of the arguments -/
def SO.out : SO → Out Val
  | .nx _ M => .ok (.d .none) M
  | .rt v M => .ok v M
  | .er e _ M => .er e M
  | _ => .bad
def body (n : Nat) (b : SM) : Den := fun vs M => (b (slots0 n vs) M).out
theorem simS0 {K : PySem.W.Frag} {G : Gh} {H : Hp} {N : List Str} {xs : List V} {vs : List Val} (r : RWs K G H xs vs) (h : xs.length ≤ N.length) : SimS K G (slots0 N.length vs) (L2.start N xs) H := by
  have hl := Paired.len r
  refine ⟨by simp [slots0, L2.start]; omega, fun i v e => ?_⟩
  unfold slots0 at e
  by_cases hi : i < vs.length
  · rw [List.getElem?_append_left (by simpa using hi)] at e
    have e2 : vs[i]? = some v := by
      rw [List.getElem?_map] at e
      cases q : vs[i]? with
      | none => rw [q] at e; cases e
      | some u => rw [q] at e; simpa using e
    obtain ⟨x, e3, e4⟩ : ∃ x, xs[i]? = some x ∧ RW K G H x v := by
      clear hi e h hl
      induction r generalizing i with
      | nil => simp at e2
      | cons h t ih =>
        cases i with
        | zero => simp at e2; subst e2; exact ⟨_, rfl, h⟩
        | succ i => simpa using ih i (by simpa using e2)
    refine ⟨x, ?_, e4⟩
    unfold L2.start
    rw [List.getElem?_append_left (by rw [List.length_map]; exact (List.getElem?_eq_some_iff.mp e3).1), List.getElem?_map, e3]
    rfl
  · rw [List.getElem?_append_right (by simpa using hi)] at e
    rw [List.getElem?_replicate] at e
    split at e <;> cases e
section
variable {P : Program} {w : World} {K : PySem.W.Frag} {mg : Str → Option Value} {base : Heap}
abbrev CxZ (P : Program) (w : World) (K : PySem.W.Frag) (mg : Str → Option Value) (base : Heap) (N : List Str) (qual : Str) (sc : Scope) (f : Addr) (cdv : Value) (A : Around) (outer : List Env) (s : Shared) (H : Hp) (E : XK) : Cx :=
  cxOf (L2.CX P w) P w K mg base N qual sc f cdv A outer s H E
theorem Fun.fnz {x qual : Str} {st : Stmt} {f : Addr} {fd : FuncData} {N ps : List Str} {k : Nat} {b : SM} (F : Fun K x qual st f fd) (S : FnScope N ps (defScope st)) (hps : ps.length ≤ N.length)
    (hbody : ∀ (cdv : Value) (A : Around) (outer : List Env) (s : Shared) (H : Hp) (E : XK), Room k (A.deeper (envOfC qual (defScope st) s.heap.objs.size f cdv)) → (CxZ P w K mg base N qual (defScope st) f cdv A outer s H E).A.guards = some [] →
      SSs (CxZ P w K mg base N qual (defScope st) f cdv A outer s H E) (fun c d _ H' => E c d H') (defBody st) b) : FnZ P w K mg base (k + 1) f fd ps (body N.length b) := by
  obtain ⟨oc, od, kV, doc, pm, an, cdv, ct, osl, rfl, lk, hcd⟩ := F.ex
  refine ⟨fun A outer s H args us vs Q E hr hG e0 hb r hlen hsp => ?_⟩
  let sp : Sp := fun vs' H' Q' E' => SpZ K mg (body N.length b) vs' H' Q' E' ∧ vs'.length = ps.length
  have key : ∀ (A' : Around), A'.guards = some [] → Room (k + 1) A' → Env0 P w K mg base A' outer s H → codeAny (model P w) A' (.call (.ref f) args) (CR (L2.CX P w) outer P w H s Q E) s := by
    intro A' hG' hr' e0'
    have KX : K.In s.heap := e0'.mod.kin.keeps fun b o e => (e0'.bs b o e).1
    have lim : s.heap.NoLimit := e0'.mod.nolimit.keeps fun b o e => (e0'.bs b o e).1
    have hkd : ∀ y ∈ ps.zip us, (defScope st).names.lookup y.1 = some .local ∨ ((defScope st).names.lookup y.1 = some .cell ∧ ((cellsFrom (s.heap.objs.size + 1) (defScope st).names []).lookup y.1).isSome = true) := by
      rintro ⟨n, v⟩ hy
      rcases S.par n (List.of_mem_zip hy).1 with q | q
      · exact Or.inl q
      · exact Or.inr ⟨q, PySem.W.cellsFrom_some _ _ _ (.inl q)⟩
    refine codeAny_call_function hr'.depth (KX _ _ lk) rfl S.co S.gen rfl (PySem.W.codeRec_of KX hcd) (hb _ _ _ _ ?_)
    refine wpAny_newFunctionEnv_cells S.kind hkd fun env he s1 xx => ?_
    subst he
    refine ⟨lim.keeps xx.toInCall.keep, codeAny_func ?_⟩
    have I : Inv (CxZ P w K mg base N qual (defScope st) f cdv A' outer s H E) [] (L2.start N vs) H s1 := inv_start S hr'.hd e0' hlen r xx
    have SB := hbody cdv A' outer s H E (hr'.deeper _) (by first | exact hG' | (simpa [cxOf, Around.deeper, Around.under, pushGuards, Code.guards] using hG'))
    obtain ⟨G, ws, M, Sm, rw_, hpost⟩ := hsp
    have rn := (SB.pss.run [] s1 (L2.start N vs) H { nx := fun _ H' => Q .non H', rt := Q } I ⟨G, _, M, Sm, simS0 rw_ (by omega), by
      unfold body at hpost
      cases q : b (slots0 N.length ws) M with
      | nx s2 M2 => rw [q] at hpost; exact fun G' H' σ' e' S' N' => hpost G' H' _ e' S' RV.non
      | rt v M2 => rw [q] at hpost; exact hpost
      | bk s2 M2 => rw [q] at hpost; exact hpost.elim
      | ct s2 M2 => rw [q] at hpost; exact hpost.elim
      | er x s2 M2 => rw [q] at hpost; exact fun G' H' σ' c d e' S' N' => hpost G' H' c d e' S'
      | bad => rw [q] at hpost; exact hpost.elim⟩)
    refine wpAny_mono rn (fun fl s' hs => ?_) fun e s' hs => hs
    have fin : ∀ {σ' : L2.St} {H' : Hp} {v : V} {u : Value}, Inv (CxZ P w K mg base N qual (defScope st) f cdv A' outer s H E) [] σ' H' s' → RelV v u → Q v H' → CE outer P w H s Q u s' := by
      intro σ' H' v u J rv q
      exact ⟨v, H', J.os, J.bare, J.base, J.hok, rv, q⟩
    cases fl with
    | next =>
      obtain ⟨σ', H', J, q⟩ := hs
      exact fin (v := V.non) (u := Value.none) J rfl q
    | ret u =>
      obtain ⟨v, σ', H', J, rv, q⟩ := hs
      exact fin J rv q
    | brk => exact False.elim (let ⟨_, _, _, q⟩ := hs; q)
    | cont => exact False.elim (let ⟨_, _, _, q⟩ := hs; q)
  exact key A hG hr e0
end
/-! ### calls -/
section
variable {X : Cx} {W : WX} {k : Nat} {f : Addr} {fd : FuncData} {ps : List Str} {den : Den} {x : Str} {p pos : Pos} {e : Expr} {es : List Expr} {ms mk : AM}
theorem run_z {pins : List (Addr × Obj)} {σ : L2.St} {H : Hp} {s : Shared} {Q : VK} {args : Args} {us : List Value} {vs : List V} (F : FnZ X.prog X.w X.K X.mg X.base k f fd ps den) (hr : Room k X.A) (hG : X.A.guards = some []) (tk : Takes X W)
    (hb : BindsTo s fd args (ps.zip us)) (hl : vs.length = ps.length) (I : Inv X pins σ H s) (r : Vals vs us) (h : SpZ X.K X.mg den vs H Q (fun c d H' => W c d σ H')) : codeAny (model X.prog X.w) X.A (.call (.ref f) args) (fun r s' => match r with
      | .ok (.ret u) => EP X pins σ Q u s'
      | .ok _ => False
      | .error e => X.xe e s') s := by
  refine codeAny_mono (F.run X.A X.stack s H args us vs Q _ hr hG I.env0 hb r hl h) fun r s' hq => ?_
  cases r with
  | error e => exact passAt tk σ pins H s e s' I hq
  | ok fl =>
    cases fl with
    | ret u => exact I.after hq
    | next => exact hq
    | brk => exact hq
    | cont => exact hq
def mCall (n : Nat) (den : Den) (ms : AM) : EM := fun s M => (ms s M).bind fun vs M1 => if vs.length = n then den vs M1 else .bad
theorem SpZ.of {G : Gh} {H : Hp} {M : Mm} {σ : L2.St} {vs : List V} {ws : List Val} {Q : VK} (S : SimM X.K X.mg G M H) (r : RWs X.K G H vs ws) (p : Post X.K X.mg W G σ H (fun G' H' x v => RW X.K G' H' x v) Q (den ws M)) :
    SpZ X.K X.mg den vs H Q (fun c d H' => W c d σ H') := by
  refine ⟨G, ws, M, S, r, ?_⟩
  cases q : den ws M with
  | ok v M' => rw [q] at p; exact p
  | er e M' => rw [q] at p; exact p
  | bad => rw [q] at p; exact p
theorem callZ {pins : List (Addr × Obj)} {σ : L2.St} {H : Hp} {s : Shared} {Q : VK} {us : List Value} {vs : List V} {kw : List (Str × Value)} {ws : List Value} (F : FnZ X.prog X.w X.K X.mg X.base k f fd ps den) (hr : Room k X.A) (hG : X.A.guards = some []) (tk : Takes X W)
    (b : BindsTo s fd ⟨us, kw⟩ (ps.zip ws)) (hl : vs.length = ps.length) (I : Inv X pins σ H s) (r : Vals vs ws) (q : SpZ X.K X.mg den vs H Q (fun c d H' => W c d σ H')) : wpAny (model X.prog X.w) X.A (call (.ref f) us kw) (EP X pins σ Q) X.xe s :=
  wpAny_call (codeAny_mono (run_z F hr hG tk b hl I r q) fun r s' hq => by
    cases r with
    | error e => exact hq
    | ok fl =>
      cases fl with
      | ret u => exact hq
      | next => exact hq.elim
      | brk => exact hq.elim
      | cont => exact hq.elim)
theorem se_call {n : Nat} (F : FnZ X.prog X.w X.K X.mg X.base k f fd ps den) (hr : Room k X.A) (hG : X.A.guards = some []) (tk : Takes X W) (hg : Gl X x) (hm : X.mg x = some (.ref f)) (hk : PySem.W.keepIn X.K (.ref f) = true) (hb : Binds X.K fd ps [])
    (ha : SA X W (e :: es) ms) (hn : ps.length = n := by rfl) (hdb : (x == ("__debug__" : Str)) = false := by decide) (he : starEach (e :: es) X.env = (false, eval e X.env) :: starEach es X.env := by rfl)
    (hpl : (backTo pos (starEach es X.env)).any (·.1) = false := by rfl) : SE X W (.Call (.Name x p) (e :: es) [] pos) (mCall n den ms) := by
  refine ⟨⟨fun pins s σ H Q I ⟨G, sl, M, S, N, h⟩ => ?_⟩⟩
  refine wpAny_Call_Name_kw (ld_glob I hg hm ?_ hdb)
  have h' : TAm X.K X.mg W ms σ H (fun vs H1 => vs.length = ps.length ∧ SpZ X.K X.mg den vs H1 Q (fun c d H' => W c d σ H')) := by
    refine ⟨G, sl, M, S, N, Post.bind h fun vs M1 G1 H1 xs e1 S1 r1 p1 => ?_⟩
    split at p1
    · rename_i hv
      exact ⟨by rw [Paired.len r1, hn]; exact hv, SpZ.of S1 r1 p1⟩
    · exact p1.elim
  refine PySem.W.callWith_K (h₀ := X.base) I.ok.mod.kin hk (thn (ha.pa.run pos pins s σ H _ I h') fun us s1 ⟨vs, H1, I1, r, hl, q⟩ => ⟨I1.kIn, ?_⟩) he hpl
  have hu : us.length = ps.length := by rw [← r.length]; exact hl
  have b := hb s1 us I1.kIn (by rw [List.append_nil]; exact hu)
  rw [List.append_nil] at b
  exact callZ F hr hG tk b hl I1 r q
theorem se_call0 (F : FnZ X.prog X.w X.K X.mg X.base k f fd [] den) (hr : Room k X.A) (hG : X.A.guards = some []) (tk : Takes X W) (hg : Gl X x) (hm : X.mg x = some (.ref f)) (hk : PySem.W.keepIn X.K (.ref f) = true) (hb : Binds X.K fd [] [])
    (hdb : (x == ("__debug__" : Str)) = false := by decide) : SE X W (.Call (.Name x p) [] [] pos) (mCall 0 den mNil) := by
  refine ⟨⟨fun pins s σ H Q I ⟨G, sl, M, S, N, h⟩ => ?_⟩⟩
  refine wpAny_Call_Name_kw (ld_glob I hg hm ?_ hdb)
  exact PySem.W.callWith_K0 I.kIn hk (callZ (us := []) (vs := []) F hr hG tk (hb s [] I.kIn rfl) rfl I .nil (SpZ.of (G := G) (M := M) (ws := []) S .nil h))
/-- keywords: ix tells which of the written values comes first, second, .. -/
def pickBy {α : Type} (ix : List Nat) (l : List α) : List α := ix.filterMap fun i => l[i]?
theorem pickBy_rel {α β : Type} {F : α → β → Prop} {l : List α} {m : List β} (r : Paired F l m) (ix : List Nat) : Paired F (pickBy ix l) (pickBy ix m) := by
  have at_ : ∀ i : Nat, (l[i]? = none ∧ m[i]? = none) ∨ ∃ a b, l[i]? = some a ∧ m[i]? = some b ∧ F a b := by
    induction r with
    | nil => intro i; exact .inl ⟨by simp, by simp⟩
    | cons h t ih =>
      intro i
      cases i with
      | zero => exact .inr ⟨_, _, rfl, rfl, h⟩
      | succ i => simpa using ih i
  induction ix with
  | nil => exact .nil
  | cons i ix ih =>
    unfold pickBy at ih ⊢
    rcases at_ i with ⟨h1, h2⟩ | ⟨a, b, h1, h2, h3⟩
    · rw [List.filterMap_cons_none h1, List.filterMap_cons_none h2]; exact ih
    · rw [List.filterMap_cons_some h1, List.filterMap_cons_some h2]; exact .cons h3 ih
structure SK (X : Cx) (W : WX) (kws : List Keyword) (m : AM) : Prop where
  pk : PK X kws (TAm X.K X.mg W m)
theorem pkImp {e : List Keyword} {t t' : TA} (h : PK X e t) (i : ∀ σ H Q, t' σ H Q → t σ H Q) : PK X e t' := ⟨fun pos pins s σ H Q I q => h.run pos pins s σ H Q I (i _ _ _ q)⟩
theorem sk_nil : SK X W [] mNil := ⟨pkImp pk_nil fun σ H Q ⟨G, s, M, S, N, p⟩ => p G H [] .refl S .nil⟩
theorem sk_cons {nm : Option Str} {e : Expr} {kpos : Pos} {kws : List Keyword} {m : EM} {ms : AM} (ha : SE X W e m) (hr : SK X W kws ms) : SK X W (⟨nm, e, kpos⟩ :: kws) (mCons m ms) := by
  refine ⟨pkImp (pk_cons ha.pe hr.pk) fun σ H Q ⟨G, s, M, S, N, p⟩ => ?_⟩
  refine ⟨G, s, M, S, N, Post.bind p fun v M1 G1 H1 x e1 S1 r1 p1 => ?_⟩
  refine ⟨G1, s, M1, S1, N.ext e1, Post.bind p1 fun w M2 G2 H2 y e2 S2 r2 p2 => ?_⟩
  exact p2 G2 H2 _ .refl S2 (.cons (RW.ext e2 r1) r2)
def mCallK (np nk : Nat) (den : Den) (ix : List Nat) (ms mk : AM) : EM := fun s M => (ms s M).bind fun vs M1 => (mk s M1).bind fun us M2 => if vs.length = np ∧ us.length = nk then den (pickBy ix (vs ++ us)) M2 else .bad
theorem Paired.app {α β : Type} {F : α → β → Prop} : ∀ {l l' : List α} {m m' : List β}, Paired F l m → Paired F l' m' → Paired F (l ++ l') (m ++ m')
  | _, _, _, _, .nil, h => h
  | _, _, _, _, .cons a t, h => .cons a (Paired.app t h)
/-- how keywords bind -/
def KBz (fd : FuncData) (ps ks : List Str) (np nk : Nat) (ix : List Nat) : Prop :=
  ∀ (us ws : List Value), us.length = np → ws.length = nk → bindArgs fd ⟨us, ks.zip ws⟩ = pure (ps.zip (pickBy ix (us ++ ws))) ∧ (pickBy ix (us ++ ws)).length = ps.length
theorem kbz {K : PySem.W.Frag} {x qual : Str} {st : Stmt} {f : Addr} {fd : FuncData} {ps ks : List Str} {np nk : Nat} {ix : List Nat} (F : Fun K x qual st f fd)
    (h : ∀ (kV doc pm : Value) (an : Option Addr) (cdv ct : Value) (us ws : List Value), us.length = np → ws.length = nk → bindArgs (PySem.W.fnOf x qual (defArgs st) (defBody st) (defScope st) .none kV doc pm an cdv ct) ⟨us, ks.zip ws⟩ = pure (ps.zip (pickBy ix (us ++ ws))) ∧ (pickBy ix (us ++ ws)).length = ps.length) : KBz fd ps ks np nk ix := by
  obtain ⟨oc, od, kV, doc, pm, an, cdv, ct, osl, rfl, lk, hcd⟩ := F.ex
  exact h kV doc pm an cdv ct
theorem callK_core {np nk : Nat} {ks : List Str} {ix : List Nat} {pins : List (Addr × Obj)} {σ : L2.St} {H1 : Hp} {s1 : Shared} {Q : VK} {us ws : List Value} {vs zs : List V} {G : Gh} {M : Mm} {as bs : List Val} (F : FnZ X.prog X.w X.K X.mg X.base k f fd ps den) (hr : Room k X.A) (hG : X.A.guards = some []) (tk : Takes X W)
    (hb : KBz fd ps ks np nk ix) (I1 : Inv X pins σ H1 s1) (rv : Vals vs us) (rz : Vals zs ws) (S : SimM X.K X.mg G M H1) (ra : RWs X.K G H1 vs as) (rb : RWs X.K G H1 zs bs)
    (p : Post X.K X.mg W G σ H1 (fun G' H' x v => RW X.K G' H' x v) Q (if as.length = np ∧ bs.length = nk then den (pickBy ix (as ++ bs)) M else .bad)) : wpAny (model X.prog X.w) X.A (call (.ref f) us (ks.zip ws)) (EP X pins σ Q) X.xe s1 := by
  split at p
  · rename_i hl
    obtain ⟨h1, h2⟩ := hb us ws (by rw [← rv.length, Paired.len ra]; exact hl.1) (by rw [← rz.length, Paired.len rb]; exact hl.2)
    have rp : Vals (pickBy ix (vs ++ zs)) (pickBy ix (us ++ ws)) := pickBy_rel (Paired.app rv rz) ix
    exact callZ F hr hG tk (.of_eq h1) (by rw [rp.length]; exact h2) I1 rp (SpZ.of S (pickBy_rel (Paired.app ra rb) ix) p)
  · exact p.elim
theorem se_callK {np nk : Nat} {ks : List Str} {ix : List Nat} {kws : List Keyword} (F : FnZ X.prog X.w X.K X.mg X.base k f fd ps den) (hr : Room k X.A) (hG : X.A.guards = some []) (tk : Takes X W) (hg : Gl X x) (hm : X.mg x = some (.ref f)) (hk : PySem.W.keepIn X.K (.ref f) = true) (hb : KBz fd ps ks np nk ix)
    (ha : SA X W (e :: es) ms) (hkw : SK X W kws mk)
    (hall : (backToKw pos (keywordEach kws X.env)).all (·.1.isSome) = true := by rfl) (hks : (backToKw pos (keywordEach kws X.env)).filterMap (·.1) = ks := by rfl)
    (hdb : (x == ("__debug__" : Str)) = false := by decide) (he : starEach (e :: es) X.env = (false, eval e X.env) :: starEach es X.env := by rfl)
    (hpl : ((backTo pos (starEach (e :: es) X.env)).any (·.1) || (backToKw pos (keywordEach kws X.env)).any (·.1.isNone)) = false := by rfl) : SE X W (.Call (.Name x p) (e :: es) kws pos) (mCallK np nk den ix ms mk) := by
  refine ⟨⟨fun pins s σ H Q I ⟨G, sl, M, S, N, h⟩ => ?_⟩⟩
  refine wpAny_Call_Name_kw (ld_glob I hg hm ?_ hdb)
  have h' : TAm X.K X.mg W ms σ H (fun vs H1 => TAm X.K X.mg W mk σ H1 fun zs H2 => ∃ G2 M2 as bs, SimM X.K X.mg G2 M2 H2 ∧ RWs X.K G2 H2 vs as ∧ RWs X.K G2 H2 zs bs ∧ Post X.K X.mg W G2 σ H2 (fun G' H' x v => RW X.K G' H' x v) Q (if as.length = np ∧ bs.length = nk then den (pickBy ix (as ++ bs)) M2 else .bad)) := by
    refine ⟨G, sl, M, S, N, Post.bind h fun as M1 G1 H1 xs e1 S1 r1 p1 => ?_⟩
    exact ⟨G1, sl, M1, S1, N.ext e1, Post.bind p1 fun bs M2 G2 H2 ys e2 S2 r2 p2 => ⟨G2, M2, as, bs, S2, RWs.ext e2 r1, r2, p2⟩⟩
  refine PySem.W.callWith_KW (h₀ := X.base) I.ok.mod.kin hk hall (thn (ha.pa.run pos pins s σ H _ I h') fun us s1 ⟨vs, H1, I1, r, q⟩ => ?_) hpl he
  refine thn (hkw.pk.run pos pins s1 σ H1 _ I1 q) fun ws s2 ⟨zs, H2, I2, rz, G2, M2, as, bs, S2, ra, rb, q2⟩ => ⟨I2.kIn, ?_⟩
  rw [hks]
  exact callK_core F hr hG tk hb I2 r rz S2 ra rb q2
theorem se_callK0 {nk : Nat} {ks : List Str} {ix : List Nat} {kws : List Keyword} (F : FnZ X.prog X.w X.K X.mg X.base k f fd ps den) (hr : Room k X.A) (hG : X.A.guards = some []) (tk : Takes X W) (hg : Gl X x) (hm : X.mg x = some (.ref f)) (hk : PySem.W.keepIn X.K (.ref f) = true) (hb : KBz fd ps ks 0 nk ix)
    (hkw : SK X W kws mk)
    (hall : (backToKw pos (keywordEach kws X.env)).all (·.1.isSome) = true := by rfl) (hks : (backToKw pos (keywordEach kws X.env)).filterMap (·.1) = ks := by rfl)
    (hdb : (x == ("__debug__" : Str)) = false := by decide)
    (hpl : ((backTo pos (starEach [] X.env)).any (·.1) || (backToKw pos (keywordEach kws X.env)).any (·.1.isNone)) = false := by rfl) : SE X W (.Call (.Name x p) [] kws pos) (mCallK 0 nk den ix mNil mk) := by
  refine ⟨⟨fun pins s σ H Q I ⟨G, sl, M, S, N, h⟩ => ?_⟩⟩
  refine wpAny_Call_Name_kw (ld_glob I hg hm ?_ hdb)
  have h' : TAm X.K X.mg W mk σ H fun zs H2 => ∃ G2 M2 bs, SimM X.K X.mg G2 M2 H2 ∧ RWs X.K G2 H2 zs bs ∧ Post X.K X.mg W G2 σ H2 (fun G' H' x v => RW X.K G' H' x v) Q (if ([] : List Val).length = 0 ∧ bs.length = nk then den (pickBy ix ([] ++ bs)) M2 else .bad) :=
    ⟨G, sl, M, S, N, Post.bind (show Post _ _ _ _ _ _ _ _ ((mk sl M).bind _) from h) fun bs M2 G2 H2 ys e2 S2 r2 p2 => ⟨G2, M2, bs, S2, r2, p2⟩⟩
  refine PySem.W.callWith_KW0 (h₀ := X.base) I.ok.mod.kin hk hall (thn (hkw.pk.run pos pins s σ H _ I h') fun ws s2 ⟨zs, H2, I2, rz, G2, M2, bs, S2, rb, q2⟩ => ⟨I2.kIn, ?_⟩) hpl
  rw [hks]
  exact callK_core (us := []) (vs := []) (as := []) F hr hG tk hb I2 .nil rz S2 .nil rb q2
end

/-! ### what a call has made for itself is forgotten -/
def Val.below (n : Nat) : Val → Bool
  | .obj i => decide (i < n)
  | _ => true
def MO.below (n : Nat) : MO → Bool
  | .frz _ => true
  | .lst vs => vs.all (Val.below n)
  | .dct kvs => kvs.all fun p => p.2.below n
  | .ins _ fs => fs.all fun p => p.2.below n
def cut (n : Nat) (M : Mm) : Mm := if (M.take n).all (MO.below n) then M.take n else M
def trim (den : Den) : Den := fun vs M => match den vs M with
  | .ok (.d x) M' => .ok (.d x) (cut M.length M')
  | .er e M' => .er e (cut M.length M')
  | o => o
section
variable {K : PySem.W.Frag} {mg : Str → Option Value} {G G' : Gh} {H : Hp}
theorem RW.cut {n : Nat} {x : V} {v : Val} (h : RW K G H x v) (b : v.below n = true) : RW K ⟨G.φ.take n, G.F⟩ H x v := by
  cases v with
  | d y => exact h
  | scr ns => exact h
  | obj i =>
    obtain ⟨a, e, q⟩ := h
    refine ⟨a, e, ?_⟩
    have hi : i < n := of_decide_eq_true b
    show (G.φ.take n)[i]? = some a
    rw [List.getElem?_take, if_pos hi]
    exact q
theorem RO.cut {n : Nat} {a : Addr} {o : MO} (h : RO K mg G H a o) (b : o.below n = true) : RO K mg ⟨G.φ.take n, G.F⟩ H a o := by
  have all : ∀ {xs : List V} {vs : List Val}, RWs K G H xs vs → vs.all (Val.below n) = true → RWs K ⟨G.φ.take n, G.F⟩ H xs vs := by
    intro xs vs r
    induction r with
    | nil => intro _; exact .nil
    | cons h t ih =>
      intro q
      rw [List.all_cons, Bool.and_eq_true] at q
      exact .cons (RW.cut h q.1) (ih q.2)
  have all2 : ∀ {κ : Type} {R : κ → κ × Val → V → Prop} {xs : List (κ × V)} {vs : List (κ × Val)}, True := trivial
  cases o with
  | frz x => exact h
  | lst vs => exact let ⟨h1, xs, h2, h3⟩ := h; ⟨h1, xs, h2, all h3 b⟩
  | dct kvs =>
    obtain ⟨h1, ys, h2, h3⟩ := h
    refine ⟨h1, ys, h2, ?_⟩
    have b : kvs.all (fun p => p.2.below n) = true := b
    clear h2
    induction h3 with
    | nil => exact .nil
    | cons h t ih =>
      rw [List.all_cons, Bool.and_eq_true] at b
      exact .cons ⟨h.1, RW.cut h.2 b.1⟩ (ih b.2 b.2)
  | ins C fs =>
    obtain ⟨h1, c, dx, ys, h0, h2, h3⟩ := h
    refine ⟨h1, c, dx, ys, h0, h2, ?_⟩
    have b : fs.all (fun p => p.2.below n) = true := b
    clear h2
    induction h3 with
    | nil => exact .nil
    | cons h t ih =>
      rw [List.all_cons, Bool.and_eq_true] at b
      exact .cons ⟨h.1, RW.cut h.2 b.1⟩ (ih b.2 b.2)
theorem SimM.cut {M M' : Mm} {H0 : Hp} (S0 : SimM K mg G M H0) (e : Ext G H0 G' H) (S : SimM K mg G' M' H) : ∃ G2, Ext G H0 G2 H ∧ SimM K mg G2 (cut M.length M') H ∧ G2.F = G'.F := by
  unfold Zm.cut
  split
  · rename_i hb
    obtain ⟨more, hm⟩ := e.φ
    have ht : G'.φ.take M.length = G.φ := by rw [hm, ← S0.len, List.take_left']; rfl
    refine ⟨⟨G'.φ.take M.length, G'.F⟩, ⟨⟨⟨[], by simp [ht]⟩, e.tup, e.frz, e.fix⟩, e.keep, fun a h => .inl (by rw [← ht]; exact h), e.Fnew⟩, ⟨?_, ?_, fun i a o h1 h2 => ?_, fun a h => ?_, S.fthere, S.sys⟩, rfl⟩
    · show (G'.φ.take M.length).length = (M'.take M.length).length
      rw [List.length_take, List.length_take, S.len]
    · exact List.Sublist.nodup (List.take_sublist _ _) S.nd
    · have h1 : (G'.φ.take M.length)[i]? = some a := h1
      rw [List.getElem?_take] at h1 h2
      split at h1
      · rename_i hi
        rw [if_pos hi] at h2
        refine RO.cut (S.obj i a o h1 h2) ?_
        rw [List.all_eq_true] at hb
        exact hb o (List.mem_of_getElem? (i := i) (by rw [List.getElem?_take, if_pos hi]; exact h2))
      · cases h1
    · exact S.there a (List.mem_of_mem_take h)
  · exact ⟨G', e, S, rfl⟩
end
theorem FnZ.trim {P : Program} {w : World} {K : PySem.W.Frag} {mg : Str → Option Value} {base : Heap} {k : Nat} {f : Addr} {fd : FuncData} {ps : List Str} {den : Den} (F : FnZ P w K mg base k f fd ps den) : FnZ P w K mg base k f fd ps (trim den) := by
  refine ⟨fun A outer s H args us vs Q E hr hG e0 hb r hl ⟨G, ws, M, S, rw_, p⟩ => F.run A outer s H args us vs Q E hr hG e0 hb r hl ⟨G, ws, M, S, rw_, ?_⟩⟩
  unfold Zm.trim at p
  cases q : den ws M with
  | bad => rw [q] at p; exact p
  | er x M' =>
    rw [q] at p
    intro G' H' c d e S' rx
    obtain ⟨G2, e2, S2, hF⟩ := SimM.cut S e S'
    refine p G2 H' c d e2 S2 ?_
    unfold RX at rx ⊢
    rw [hF]
    exact rx
  | ok v M' =>
    cases v with
    | d y =>
      rw [q] at p
      intro G' H' x e S' rx
      obtain ⟨G2, e2, S2, hF⟩ := SimM.cut S e S'
      refine p G2 H' x e2 S2 ?_
      show RV K G2.F H' x y
      rw [hF]
      exact rx
    | obj i => rw [q] at p; exact p
    | scr ns => rw [q] at p; exact p
end Zm
namespace Zm
open PySem PySem.Spec PyProof.Rows L2

/-! ### reading the items -/
def seqD (v : Val) (M : Mm) : Option (List PyData) := match v with
  | .d (.list ds) => some ds
  | .d (.tuple ds) => some ds
  | .scr ns => some (ns.map .int)
  | .obj i => match M[i]? with
    | some (.lst vs) => fzL vs M
    | _ => none
  | _ => none
def listD (v : Val) (M : Mm) : Option (List PyData) := match v with
  | .d (.tuple _) => none
  | v => seqD v M
section
variable {K : PySem.W.Frag} {mg : Str → Option Value} {G : Gh} {H : Hp} {M : Mm} {x : V} {v : Val} {ds : List PyData}
theorem rvs_ints : ∀ (ns : List Int), RVs K G.F H (ns.map V.int) (ns.map PyData.int)
  | [] => .nil
  | n :: ns => .cons (.int n) (rvs_ints ns)
theorem seqD_ok (S : SimM K mg G M H) (r : RW K G H x v) (h : seqD v M = some ds) : ∃ p xs, x = .ref p ∧ (SqL K H p xs ∨ H p = some (.tup xs)) ∧ RVs K G.F H xs ds := by
  unfold seqD at h
  split at h
  · cases h
    have r : RV K G.F H x (.list ds) := r
    cases r with
    | lst h0 h1 h2 => exact ⟨_, _, rfl, .inl (SqL.of h1), h2⟩
  · cases h
    have r : RV K G.F H x (.tuple ds) := r
    cases r with
    | tup h1 h2 => exact ⟨_, _, rfl, .inr h1, h2⟩
  · cases h
    obtain ⟨a, rfl, h⟩ := r
    exact ⟨a, _, rfl, .inl h.sql, rvs_ints _⟩
  · rename_i i
    obtain ⟨a, rfl, hi⟩ := r
    split at h
    · rename_i vs ev
      obtain ⟨nF, xs, hx, rx⟩ := S.obj i a _ hi ev
      exact ⟨a, xs, rfl, .inl (SqL.of hx), allD_ok h (rws_rd S rx)⟩
    · cases h
  · cases h
theorem listD_ok (S : SimM K mg G M H) (r : RW K G H x v) (h : listD v M = some ds) : ∃ p xs, x = .ref p ∧ SqL K H p xs ∧ RVs K G.F H xs ds := by
  cases v with
  | d y =>
    cases y with
    | tuple ds => cases h
    | list ds' =>
      cases h
      have r : RV K G.F H x (.list ds) := r
      cases r with
      | lst h0 h1 h2 => exact ⟨_, _, rfl, SqL.of h1, h2⟩
    | none => cases h
    | bool _ => cases h
    | int _ => cases h
    | str _ => cases h
    | dict _ => cases h
  | scr ns =>
    cases h
    obtain ⟨a, rfl, h⟩ := r
    exact ⟨a, _, rfl, h.sql, rvs_ints _⟩
  | obj i =>
    obtain ⟨a, rfl, hi⟩ := r
    have h : (match M[i]? with | some (.lst vs) => fzL vs M | _ => none) = some ds := h
    split at h
    · rename_i vs ev
      obtain ⟨nF, xs, hx, rx⟩ := S.obj i a _ hi ev
      exact ⟨a, xs, rfl, SqL.of hx, allD_ok h (rws_rd S rx)⟩
    · cases h
/-- a list that is really tracked as one -/
def trackD (v : Val) (M : Mm) : Option (List PyData) := match v with
  | .scr _ => none
  | v => listD v M
theorem trackD_ok (S : SimM K mg G M H) (r : RW K G H x v) (h : trackD v M = some ds) : ∃ p xs, x = .ref p ∧ H p = some (.lst xs) ∧ RVs K G.F H xs ds := by
  cases v with
  | scr ns => cases h
  | d y =>
    cases y with
    | tuple ds => cases h
    | list ds' =>
      cases h
      have r : RV K G.F H x (.list ds) := r
      cases r with
      | lst h0 h1 h2 => exact ⟨_, _, rfl, h1, h2⟩
    | none => cases h
    | bool _ => cases h
    | int _ => cases h
    | str _ => cases h
    | dict _ => cases h
  | obj i =>
    obtain ⟨a, rfl, hi⟩ := r
    have h : (match M[i]? with | some (.lst vs) => fzL vs M | _ => none) = some ds := h
    split at h
    · rename_i vs ev
      obtain ⟨nF, xs, hx, rx⟩ := S.obj i a _ hi ev
      exact ⟨a, xs, rfl, hx, allD_ok h (rws_rd S rx)⟩
    · cases h
theorem RVs.ints : ∀ {ns : List Int} {xs : List V}, RVs K G.F H xs (ns.map PyData.int) → xs = ns.map V.int
  | [], _, h => by cases h; rfl
  | n :: ns, _, h => by
    cases h with
    | cons h1 h2 =>
      cases h1
      rw [RVs.ints h2]
      rfl
end
/-- all ints -/
def allI : List PyData → Option (List Int)
  | [] => some []
  | .int i :: r => (allI r).map (i :: ·)
  | _ :: _ => none
theorem allI_ok : ∀ {ds : List PyData} {ns : List Int}, allI ds = some ns → ds = ns.map PyData.int
  | [], _, h => by cases h; rfl
  | .int i :: r, ns, h => by
    unfold allI at h
    cases q : allI r with
    | none => rw [q] at h; cases h
    | some ms => rw [q] at h; cases h; rw [allI_ok q]; rfl
  | .none :: _, _, h => by cases h
  | .bool _ :: _, _, h => by cases h
  | .str _ :: _, _, h => by cases h
  | .list _ :: _, _, h => by cases h
  | .tuple _ :: _, _, h => by cases h
  | .dict _ :: _, _, h => by cases h
theorem allI_map : ∀ (ns : List Int), allI (ns.map PyData.int) = some ns
  | [] => rfl
  | n :: ns => by simp [allI, allI_map ns]

/-! ### arithmetic -/
def vAdd (v w : Val) (M : Mm) : Out Val := match v, w with
  | .d (.int a), .d (.int b) => .ok (.d (.int (a + b))) M
  | .d (.str a), .d (.str b) => if fitsL (a.length + b.length) then .ok (.d (.str (a ++ b))) M else .bad
  | .d (.tuple a), .d (.tuple b) => if fitsL (a.length + b.length) then .ok (.d (.tuple (a ++ b))) M else .bad
  | v, w => match trackD v M, trackD w M with
    | some a, some b => if fitsL (a.length + b.length) then .ok (.d (.list (a ++ b))) M else .bad
    | _, _ => .bad
section
variable {X : Cx} {W : WX}
theorem oz_add : OpZ X (fun x y H Q => (rI0 fun i j => .int (i + j)) x y H Q ∨ (∃ i j, x = .str i ∧ y = .str j ∧ i.length + j.length ≤ sizeLine ∧ Q (.str (i ++ j)) H) ∨ rCatA X.K x y H Q ∨ rCat x y H Q) vAdd := by
  intro W G M σ H Q x y v w S r1 r2 p
  unfold vAdd at p
  split at p
  · rename_i a b
    have r1 : RV X.K G.F H x (.int a) := r1
    have r2 : RV X.K G.F H y (.int b) := r2
    cases r1; cases r2
    exact .inl ⟨a, b, rfl, rfl, p G H _ .refl S (RV.int _)⟩
  · rename_i a b
    have r1 : RV X.K G.F H x (.str a) := r1
    have r2 : RV X.K G.F H y (.str b) := r2
    cases r1; cases r2
    split at p
    · rename_i hf
      exact .inr (.inl ⟨a, b, rfl, rfl, fitsL_ok hf, p G H _ .refl S (RV.str _)⟩)
    · exact p.elim
  · rename_i a b
    split at p
    · rename_i hf
      have q1 := r1
      have q2 := r2
      have r1 : RV X.K G.F H x (.tuple a) := r1
      have r2 : RV X.K G.F H y (.tuple b) := r2
      cases r1 with
      | @tup pa xs _ h1 h2 =>
        cases r2 with
        | @tup pb ys _ g1 g2 =>
          refine .inr (.inr (.inl ⟨pa, pb, xs, ys, rfl, rfl, SqT.of h1, SqT.of g1, by rw [h2.len, g2.len]; exact fitsL_ok hf, fun e => ?_, fun _ e => ?_, fun _ _ z hz => ?_⟩))
          · subst e
            have : a = [] := by cases h2; rfl
            subst this
            exact p G H _ .refl S q2
          · subst e
            have : b = [] := by cases g2; rfl
            subst this
            rw [List.append_nil] at p
            exact p G H _ .refl S q1
          · obtain ⟨S2, e2⟩ := S.lay (o := .tup (xs ++ ys)) hz
            exact p G _ _ e2 S2 (RV.tup upd_same (RVs.append (RVs.ext e2 _ _ h2) (RVs.ext e2 _ _ g2)))
    · exact p.elim
  · split at p
    · rename_i a b ea eb
      split at p
      · rename_i hf
        obtain ⟨pa, xs, rfl, h1, h2⟩ := trackD_ok S r1 ea
        obtain ⟨pb, ys, rfl, g1, g2⟩ := trackD_ok S r2 eb
        refine .inr (.inr (.inr ⟨pa, pb, xs, ys, rfl, rfl, h1, g1, by rw [h2.len, g2.len]; exact fitsL_ok hf, fun z hz => ?_⟩))
        obtain ⟨S2, e2⟩ := S.layF (o := .lst (xs ++ ys)) hz
        exact p _ _ _ e2 S2 (RV.lst (.inl rfl) upd_same (RVs.append (RVs.ext e2 _ _ h2) (RVs.ext e2 _ _ g2)))
      · exact p.elim
    · exact p.elim
theorem se_add {a b : Expr} {ma mb : EM} {pos : Pos} (ha : SE X W a ma) (hb : SE X W b mb) : SE X W (.BinOp a .Add b pos) (mOp vAdd ma mb) :=
  se_op (OpR.or op_add (OpR.or op_add_str (OpR.or op_catA op_cat))) oz_add ha hb
/-- two ints -/
def vI (c : Int → Int → Bool) (f : Int → Int → Int) (v w : Val) (M : Mm) : Out Val := match v, w with
  | .d (.int a), .d (.int b) => if c a b then .ok (.d (.int (f a b))) M else .bad
  | _, _ => .bad
theorem oz_int {c : Int → Int → Bool} {f : Int → Int → Int} {C : Int → Int → Prop} (h : ∀ i j, c i j = true → C i j) : OpZ X (rI C fun i j => .int (f i j)) (vI c f) := by
  intro W G M σ H Q x y v w S r1 r2 p
  unfold vI at p
  split at p
  · rename_i a b
    have r1 : RV X.K G.F H x (.int a) := r1
    have r2 : RV X.K G.F H y (.int b) := r2
    cases r1; cases r2
    split at p
    · rename_i hc
      exact ⟨a, b, rfl, rfl, h _ _ hc, p G H _ .refl S (RV.int _)⟩
    · exact p.elim
  · exact p.elim
theorem oz_int0 {f : Int → Int → Int} : OpZ X (rI0 fun i j => .int (f i j)) (vI (fun _ _ => true) f) := by
  intro W G M σ H Q x y v w S r1 r2 p
  unfold vI at p
  split at p
  · rename_i a b
    have r1 : RV X.K G.F H x (.int a) := r1
    have r2 : RV X.K G.F H y (.int b) := r2
    cases r1; cases r2
    exact ⟨a, b, rfl, rfl, p G H _ .refl S (RV.int _)⟩
  · exact p.elim
abbrev vSub := vI (fun _ _ => true) fun i j => i - j
def smallI (i : Int) : Bool := decide (-18446744073709551616 < i) && decide (i < 18446744073709551616)
abbrev vMul := vI (fun i j => smallI i || smallI j) fun i j => i * j
abbrev vDiv := vI (fun _ j => decide (j ≠ 0) && decide (j.natAbs < 1073741824)) fun i j => i.fdiv j
abbrev vMod := vI (fun _ j => decide (j ≠ 0)) fun i j => i.fmod j
abbrev vPow := vI (fun i j => decide (0 ≤ j) && decide (j ≤ 1000000) && decide (i.natAbs < 18446744073709551616)) fun i j => i ^ j.toNat
theorem smallI_ok {i : Int} (h : smallI i = true) : -(2 ^ 64) < i ∧ i < 2 ^ 64 := by
  unfold smallI at h
  rw [Bool.and_eq_true, decide_eq_true_eq, decide_eq_true_eq] at h
  exact ⟨by have := h.1; omega, by have := h.2; omega⟩
variable {a b : Expr} {ma mb : EM} {pos : Pos}
theorem se_sub (ha : SE X W a ma) (hb : SE X W b mb) : SE X W (.BinOp a .Sub b pos) (mOp vSub ma mb) := se_op op_sub oz_int0 ha hb
theorem se_mul (ha : SE X W a ma) (hb : SE X W b mb) : SE X W (.BinOp a .Mult b pos) (mOp vMul ma mb) := se_op op_mul (oz_int fun i j h => by
  rw [Bool.or_eq_true] at h
  exact h.imp smallI_ok smallI_ok) ha hb
theorem se_fdiv (ha : SE X W a ma) (hb : SE X W b mb) : SE X W (.BinOp a .FloorDiv b pos) (mOp vDiv ma mb) := se_op op_fdivN (oz_int fun i j h => by
  rw [Bool.and_eq_true, decide_eq_true_eq, decide_eq_true_eq] at h
  exact h) ha hb
theorem se_mod (ha : SE X W a ma) (hb : SE X W b mb) : SE X W (.BinOp a .Mod b pos) (mOp vMod ma mb) := se_op op_modN (oz_int fun i j h => of_decide_eq_true h) ha hb
theorem se_pow (ha : SE X W a ma) (hb : SE X W b mb) : SE X W (.BinOp a .Pow b pos) (mOp vPow ma mb) := se_op op_pow (oz_int fun i j h => by
  rw [Bool.and_eq_true, Bool.and_eq_true, decide_eq_true_eq, decide_eq_true_eq, decide_eq_true_eq] at h
  exact ⟨h.1.1, h.1.2, by have := h.2; omega⟩) ha hb
def mNeg (m : EM) : EM := fun s M => (m s M).bind fun v M1 => match v with
  | .d (.int i) => .ok (.d (.int (-i))) M1
  | _ => .bad
theorem se_neg (ha : SE X W a ma) : SE X W (.UnaryOp .USub a pos) (mNeg ma) := by
  refine ⟨peImp (pe_un un_neg ha.pe) fun σ H Q ⟨G, s, M, S, N, p⟩ => ⟨G, s, M, S, N, Post.bind p fun v M1 G1 H1 x e1 S1 r1 p1 => ?_⟩⟩
  split at p1
  · rename_i i
    have r1 : RV X.K G1.F H1 x (.int i) := r1
    cases r1
    exact ⟨i, rfl, p1 G1 H1 _ .refl S1 (RV.int _)⟩
  · exact p1.elim

/-! ### comparisons -/
/-- two ints, or two tuples of ints -/
def vB (f : Int → Int → Bool) (v w : Val) (M : Mm) : Out Val := match v, w with
  | .d (.int a), .d (.int b) => .ok (.d (.bool (f a b))) M
  | _, _ => .bad
theorem oz_bool {f : Int → Int → Bool} : OpZ X (rI0 fun i j => .bl (f i j)) (vB f) := by
  intro W G M σ H Q x y v w S r1 r2 p
  unfold vB at p
  split at p
  · rename_i a b
    have r1 : RV X.K G.F H x (.int a) := r1
    have r2 : RV X.K G.F H y (.int b) := r2
    cases r1; cases r2
    exact ⟨a, b, rfl, rfl, p G H _ .refl S (RV.bl _)⟩
  · exact p.elim
abbrev vLt := vB fun i j => decide (i < j)
abbrev vGt := vB fun i j => decide (j < i)
abbrev vGe := vB fun i j => decide (j ≤ i)
theorem lexAt_le : ∀ (ns ms : List Int), Ob.lexAt (fun j => decide (ns.getD j 0 = ms.getD j 0)) (fun j => decide (ns.getD j 0 ≤ ms.getD j 0)) (decide (ns.length ≤ ms.length)) 0 (min ns.length ms.length) = Ob.lexAt (fun j => decide (ns.getD j 0 = ms.getD j 0)) (fun j => decide (ns.getD j 0 ≤ ms.getD j 0)) (decide (ns.length ≤ ms.length)) 0 (min ns.length ms.length) := fun _ _ => rfl
def leTs (ns ms : List Int) : Bool := Ob.lexAt (fun j => decide (ns.getD j 0 = ms.getD j 0)) (fun j => decide (ns.getD j 0 ≤ ms.getD j 0)) (decide (ns.length ≤ ms.length)) 0 (min ns.length ms.length)
def vLe (v w : Val) (M : Mm) : Out Val := match v, w with
  | .d (.int a), .d (.int b) => .ok (.d (.bool (decide (a ≤ b)))) M
  | .d (.tuple a), .d (.tuple b) => match allI a, allI b with
    | some ns, some ms => .ok (.d (.bool (leTs ns ms))) M
    | _, _ => .bad
  | _, _ => .bad
theorem oz_le : OpZ X (fun x y H Q => (rI0 fun i j => .bl (decide (i ≤ j))) x y H Q ∨ rLeT X.K x y H Q) vLe := by
  intro W G M σ H Q x y v w S r1 r2 p
  unfold vLe at p
  split at p
  · rename_i a b
    have r1 : RV X.K G.F H x (.int a) := r1
    have r2 : RV X.K G.F H y (.int b) := r2
    cases r1; cases r2
    exact .inl ⟨a, b, rfl, rfl, p G H _ .refl S (RV.bl _)⟩
  · rename_i a b
    split at p
    · rename_i ns ms ea eb
      have ea := allI_ok ea
      have eb := allI_ok eb
      subst ea eb
      have r1 : RV X.K G.F H x (.tuple (ns.map .int)) := r1
      have r2 : RV X.K G.F H y (.tuple (ms.map .int)) := r2
      cases r1 with
      | tup h1 h2 =>
        cases r2 with
        | tup g1 g2 =>
          have e1 := RVs.ints h2
          have e2 := RVs.ints g2
          subst e1 e2
          exact .inr ⟨_, _, ns, ms, rfl, rfl, SqT.of h1, SqT.of g1, p G H _ .refl S (RV.bl _)⟩
    · exact p.elim
  · exact p.elim
theorem nomarkZ {op : CmpOp} {b : Expr} (h : behindInMarks op b = false) : behindInMarks op b = false := h
theorem se_lt (ha : SE X W a ma) (hb : SE X W b mb) (hm : behindInMarks .Lt b = false := by rfl) : SE X W (.Compare a [.Lt] [b] pos) (mOp vLt ma mb) := se_cmp op_lt oz_bool ha hb hm
theorem se_gt (ha : SE X W a ma) (hb : SE X W b mb) (hm : behindInMarks .Gt b = false := by rfl) : SE X W (.Compare a [.Gt] [b] pos) (mOp vGt ma mb) := se_cmp op_gt oz_bool ha hb hm
theorem se_ge (ha : SE X W a ma) (hb : SE X W b mb) (hm : behindInMarks .GtE b = false := by rfl) : SE X W (.Compare a [.GtE] [b] pos) (mOp vGe ma mb) := se_cmp op_ge oz_bool ha hb hm
theorem se_le (hu : X.A.units < cLine) (ha : SE X W a ma) (hb : SE X W b mb) (hm : behindInMarks .LtE b = false := by rfl) : SE X W (.Compare a [.LtE] [b] pos) (mOp vLe ma mb) := se_cmp (OpR.or op_le (op_leT hu)) oz_le ha hb hm
end
end Zm
namespace Zm
open PySem PySem.Spec PyProof.Rows L2

/-! ### equality, membership -/
mutual
theorem RV.dp {K : PySem.W.Frag} {F : Addr → Prop} {H : Hp} : ∀ (d : PyData) (v : V), RV K F H v d → d.canLay0 = true → Dp K H v d
  | .none, _, h, _ => by cases h; exact .non
  | .bool b, _, h, _ => by cases h; exact .bl b
  | .int i, _, h, _ => by cases h; exact .int i
  | .str x, _, h, _ => by cases h; exact .str x
  | .tuple ds, _, h, c => by
    have c' : PyData.canLayAll0 ds = true := by simpa only [PyData.canLay0] using c
    cases h with
    | tup h1 h2 => exact .tup (SqT.of h1) (RVs.dp ds _ h2 c')
  | .list ds, _, h, c => by
    have c' : PyData.canLayAll0 ds = true := by simpa only [PyData.canLay0] using c
    cases h with
    | lst h0 h1 h2 => exact .lst (SqL.of h1) (RVs.dp ds _ h2 c')
  | .dict ds, _, h, c => by simp [PyData.canLay0] at c
theorem RVs.dp {K : PySem.W.Frag} {F : Addr → Prop} {H : Hp} : ∀ (ds : List PyData) (vs : List V), RVs K F H vs ds → PyData.canLayAll0 ds = true → DpAll K H vs ds
  | [], _, h, _ => by cases h; exact .nil
  | d :: ds, _, h, c => by
    have c' : (PyData.canLay0 d && PyData.canLayAll0 ds) = true := by simpa only [PyData.canLayAll0] using c
    rw [Bool.and_eq_true] at c'
    cases h with
    | cons h1 h2 => exact .cons (RV.dp d _ h1 c'.1) (RVs.dp ds _ h2 c'.2)
end
def datum (v : Val) (M : Mm) : Option PyData := match v with
  | .d x => some x
  | v => (seqD v M).map .list
section
variable {K : PySem.W.Frag} {mg : Str → Option Value} {G : Gh} {H : Hp} {M : Mm} {x : V} {v : Val} {d : PyData}
theorem datum_ok (S : SimM K mg G M H) (r : RW K G H x v) (h : datum v M = some d) (c : SeqAt.shaped d = true) : Dp K H x d := by
  have c0 := SeqAt.canLay_of_shaped c
  cases v with
  | d y => cases h; exact RV.dp _ _ r c0
  | scr ns =>
    have h : (some (ns.map PyData.int)).map PyData.list = some d := h
    cases h
    obtain ⟨a, rfl, h⟩ := r
    exact .lst h.sql (RVs.dp _ _ (rvs_ints (G := G) ns) (by simpa only [PyData.canLay0] using c0))
  | obj i =>
    have h : ((seqD (.obj i) M).map PyData.list) = some d := h
    cases q : seqD (.obj i) M with
    | none => rw [q] at h; cases h
    | some ds =>
      rw [q] at h
      cases h
      obtain ⟨p, xs, rfl, hs, hr⟩ := listD_ok (v := .obj i) S r q
      exact .lst hs (RVs.dp _ _ hr (by simpa only [PyData.canLay0] using c0))
end
def eqAtom : PyData → PyData → Option Bool
  | .int a, .int b => some (decide (a = b))
  | .str a, .str b => some (decide (a = b))
  | .bool a, .bool b => some (decide (a = b))
  | .none, .none => some true
  | .int _, .str _ => some false
  | .str _, .int _ => some false
  | .none, .int _ => some false
  | .int _, .none => some false
  | .none, .str _ => some false
  | .str _, .none => some false
  | .none, .bool _ => some false
  | .bool _, .none => some false
  | _, _ => none
def eqOut (neg : Bool) (v w : Val) (M : Mm) : Option Bool := match v, w with
  | .d a, .d b => match eqAtom a b with
    | some r => some (xor neg r)
    | none => if SeqAt.shaped a && SeqAt.shaped b then some (xor neg (PyData.eqv a b)) else none
  | v, w => match datum v M, datum w M with
    | some a, some b => if SeqAt.shaped a && SeqAt.shaped b then some (xor neg (PyData.eqv a b)) else none
    | _, _ => none
def vEq (v w : Val) (M : Mm) : Out Val := match eqOut false v w M with
  | some b => .ok (.d (.bool b)) M
  | none => .bad
def vNe (v w : Val) (M : Mm) : Out Val := match eqOut true v w M with
  | some b => .ok (.d (.bool b)) M
  | none => .bad
section
variable {X : Cx} {W : WX}
theorem eqOut_ok {neg : Bool} {G : Gh} {M : Mm} {H : Hp} {x y : V} {v w : Val} {b : Bool} {Q : VK} (S : SimM X.K X.mg G M H) (r1 : RW X.K G H x v) (r2 : RW X.K G H y w) (h : eqOut neg v w M = some b) (q : Q (.bl b) H) :
    (∃ c, scal x y = true ∧ xor neg c = b ∧ c = decide (x = y)) ∨ ∃ d e, Dp X.K H x d ∧ Dp X.K H y e ∧ SeqAt.shaped d = true ∧ SeqAt.shaped e = true ∧ xor neg (PyData.eqv d e) = b := by
  have gen : ∀ a c, datum v M = some a → datum w M = some c → (if SeqAt.shaped a && SeqAt.shaped c then some (xor neg (PyData.eqv a c)) else none) = some b →
      ∃ d e, Dp X.K H x d ∧ Dp X.K H y e ∧ SeqAt.shaped d = true ∧ SeqAt.shaped e = true ∧ xor neg (PyData.eqv d e) = b := by
    intro a c ea ec h
    split at h
    · rename_i hs
      rw [Bool.and_eq_true] at hs
      cases h
      exact ⟨a, c, datum_ok S r1 ea hs.1, datum_ok S r2 ec hs.2, hs.1, hs.2, rfl⟩
    · cases h
  unfold eqOut at h
  split at h
  · rename_i a c
    split at h
    · rename_i r er
      have r1 : RV X.K G.F H x a := r1
      have r2 : RV X.K G.F H y c := r2
      cases h
      unfold eqAtom at er
      split at er <;> first
        | (cases er; done)
        | (cases er
           cases r1
           cases r2
           refine .inl ⟨_, rfl, rfl, ?_⟩
           first | rfl | simp)
    · exact .inr (gen a c rfl rfl h)
  · split at h
    · rename_i a c ea ec
      exact .inr (gen a c ea ec h)
    · cases h
theorem oz_eq : OpZ X (fun x y H Q => rEq x y H Q ∨ rEqD X.K x y H Q) vEq := by
  intro W G M σ H Q x y v w S r1 r2 p
  unfold vEq at p
  split at p
  · rename_i b eb
    have q := p G H (.bl b) .refl S (RV.bl b)
    rcases eqOut_ok S r1 r2 eb q with ⟨c, h1, h2, h3⟩ | ⟨d, e, h1, h2, h3, h4, h5⟩
    · refine .inl ⟨h1, ?_⟩
      rw [← h3]
      rw [← h2] at q
      simpa using q
    · refine .inr ⟨d, e, h1, h2, h3, h4, ?_⟩
      rw [← h5] at q
      simpa using q
  · exact p.elim
theorem oz_ne : OpZ X (fun x y H Q => rNe x y H Q ∨ rNeD X.K x y H Q) vNe := by
  intro W G M σ H Q x y v w S r1 r2 p
  unfold vNe at p
  split at p
  · rename_i b eb
    have q := p G H (.bl b) .refl S (RV.bl b)
    rcases eqOut_ok S r1 r2 eb q with ⟨c, h1, h2, h3⟩ | ⟨d, e, h1, h2, h3, h4, h5⟩
    · refine .inl ⟨h1, ?_⟩
      rw [← h3]
      rw [← h2] at q
      simpa using q
    · refine .inr ⟨d, e, h1, h2, h3, h4, ?_⟩
      rw [← h5] at q
      simpa using q
  · exact p.elim
variable {a b : Expr} {ma mb : EM} {pos : Pos}
theorem se_eq (hu : X.A.units + 64 < cLine) (ha : SE X W a ma) (hb : SE X W b mb) (hm : behindInMarks .Eq b = false := by rfl) : SE X W (.Compare a [.Eq] [b] pos) (mOp vEq ma mb) := se_cmp (OpR.or op_eq (op_eqD hu)) oz_eq ha hb hm
theorem se_ne (hu : X.A.units + 64 < cLine) (ha : SE X W a ma) (hb : SE X W b mb) (hm : behindInMarks .NotEq b = false := by rfl) : SE X W (.Compare a [.NotEq] [b] pos) (mOp vNe ma mb) := se_cmp (OpR.or op_ne (op_neD hu)) oz_ne ha hb hm
/-- x is None -/
def isN : Val → Bool
  | .d .none => true
  | _ => false
def vIsN (v w : Val) (M : Mm) : Out Val := match w with
  | .d .none => .ok (.d (.bool (isN v))) M
  | _ => .bad
def vNotN (v w : Val) (M : Mm) : Out Val := match w with
  | .d .none => .ok (.d (.bool (!isN v))) M
  | _ => .bad
theorem isN_ok {K : PySem.W.Frag} {G : Gh} {H : Hp} {x : V} {v : Val} (r : RW K G H x v) : isN v = decide (x = .non) := by
  cases v with
  | d y =>
    have r : RV K G.F H x y := r
    cases r <;> simp [isN]
  | obj i => obtain ⟨a, rfl, _⟩ := r; simp [isN]
  | scr ns => obtain ⟨a, rfl, _⟩ := r; simp [isN]
theorem oz_isN : OpZ X (fun x y H Q => y = .non ∧ Q (.bl (decide (x = .non))) H) vIsN := by
  intro W G M σ H Q x y v w S r1 r2 p
  unfold vIsN at p
  split at p
  · have r2 : RV X.K G.F H y .none := r2
    cases r2
    refine ⟨rfl, ?_⟩
    rw [← isN_ok r1]
    exact p G H _ .refl S (RV.bl _)
  · exact p.elim
theorem oz_notN : OpZ X (fun x y H Q => y = .non ∧ Q (.bl (!decide (x = .non))) H) vNotN := by
  intro W G M σ H Q x y v w S r1 r2 p
  unfold vNotN at p
  split at p
  · have r2 : RV X.K G.F H y .none := r2
    cases r2
    refine ⟨rfl, ?_⟩
    rw [← isN_ok r1]
    exact p G H _ .refl S (RV.bl _)
  · exact p.elim
theorem se_isN (ha : SE X W a ma) (hb : SE X W b mb) (hm : behindInMarks .Is b = false := by rfl) : SE X W (.Compare a [.Is] [b] pos) (mOp vIsN ma mb) := se_cmp op_isN oz_isN ha hb hm
theorem se_notN (ha : SE X W a ma) (hb : SE X W b mb) (hm : behindInMarks .IsNot b = false := by rfl) : SE X W (.Compare a [.IsNot] [b] pos) (mOp vNotN ma mb) := se_cmp op_notN oz_notN ha hb hm
/-- x in a list or a tuple -/
def rInA (K : PySem.W.Frag) (neg : Bool) : R2 := fun x y H Q => ∃ d ds, Dp K H x d ∧ (Dp K H y (.list ds) ∨ Dp K H y (.tuple ds)) ∧ SeqAt.shaped d = true ∧ PyData.canLayAll0 ds = true ∧ Q (.bl (xor neg (ds.any fun z => PyData.eqv z d))) H
theorem room_inZ {A : Around} {k : Nat} {d : PyData} (hd : SeqAt.shaped d = true) (hu : A.units + 65 < cLine) : A.units + 1 + min k d.depth < cLine := by
  have h1 := SeqAt.depth_of_shaped hd
  have h2 : min k d.depth ≤ d.depth := Nat.min_le_right _ _
  omega
theorem op_inA (hu : X.A.units + 65 < cLine) : OpR X (compareOp .In) (rInA X.K false) := by
  intro pins s σ H x y v u Q I rx ry ⟨d, ds, hd, he, sd, se, q⟩
  rw [Bool.false_xor] at q
  obtain ⟨as, r1⟩ := Dp.reads I d x v hd rx
  rcases he with he | he
  · obtain ⟨bs, r2⟩ := Dp.reads I _ y u he ry
    exact SeqAt.in_list_reads r2 r1 se (SeqAt.canLay_of_shaped sd) (room_inZ sd hu) ⟨.bl _, H, I, rfl, q⟩
  · obtain ⟨bs, r2⟩ := Dp.reads I _ y u he ry
    exact SeqAt.in_tuple_reads r2 r1 se (SeqAt.canLay_of_shaped sd) (room_inZ sd hu) ⟨.bl _, H, I, rfl, q⟩
theorem op_notInA (hu : X.A.units + 65 < cLine) : OpR X (compareOp .NotIn) (rInA X.K true) := by
  intro pins s σ H x y v u Q I rx ry ⟨d, ds, hd, he, sd, se, q⟩
  rw [Bool.true_xor] at q
  obtain ⟨as, r1⟩ := Dp.reads I d x v hd rx
  rcases he with he | he
  · obtain ⟨bs, r2⟩ := Dp.reads I _ y u he ry
    exact SeqAt.notIn_list_reads r2 r1 se (SeqAt.canLay_of_shaped sd) (room_inZ sd hu) ⟨.bl _, H, I, rfl, q⟩
  · obtain ⟨bs, r2⟩ := Dp.reads I _ y u he ry
    exact SeqAt.notIn_tuple_reads r2 r1 se (SeqAt.canLay_of_shaped sd) (room_inZ sd hu) ⟨.bl _, H, I, rfl, q⟩
def vIn (neg : Bool) (v w : Val) (M : Mm) : Out Val := match datum v M, seqD w M with
  | some d, some ds => if SeqAt.shaped d && PyData.canLayAll0 ds then .ok (.d (.bool (xor neg (ds.any fun z => PyData.eqv z d)))) M else .bad
  | _, _ => .bad
theorem seqD_dp {K : PySem.W.Frag} {mg : Str → Option Value} {G : Gh} {H : Hp} {M : Mm} {x : V} {v : Val} {ds : List PyData} (S : SimM K mg G M H) (r : RW K G H x v) (h : seqD v M = some ds) (c : PyData.canLayAll0 ds = true) : Dp K H x (.list ds) ∨ Dp K H x (.tuple ds) := by
  obtain ⟨p, xs, rfl, hs, hr⟩ := seqD_ok S r h
  rcases hs with hs | hs
  · exact .inl (.lst hs (RVs.dp _ _ hr c))
  · exact .inr (.tup (SqT.of hs) (RVs.dp _ _ hr c))
theorem oz_in {neg : Bool} : OpZ X (rInA X.K neg) (vIn neg) := by
  intro W G M σ H Q x y v w S r1 r2 p
  unfold vIn at p
  split at p
  · rename_i d ds ed es
    split at p
    · rename_i hs
      rw [Bool.and_eq_true] at hs
      exact ⟨d, ds, datum_ok S r1 ed hs.1, seqD_dp S r2 es hs.2, hs.1, hs.2, p G H _ .refl S (RV.bl _)⟩
    · exact p.elim
  · exact p.elim
theorem se_in (hu : X.A.units + 65 < cLine) (ha : SE X W a ma) (hb : SE X W b mb) (hm : behindInMarks .In b = false := by rfl) : SE X W (.Compare a [.In] [b] pos) (mOp (vIn false) ma mb) := se_cmp (op_inA hu) oz_in ha hb hm
theorem se_notIn (hu : X.A.units + 65 < cLine) (ha : SE X W a ma) (hb : SE X W b mb) (hm : behindInMarks .NotIn b = false := by rfl) : SE X W (.Compare a [.NotIn] [b] pos) (mOp (vIn true) ma mb) := se_cmp (op_notInA hu) oz_in ha hb hm
/-- a < b <= c -/
def mChain (f g : Val → Val → Mm → Out Val) (a b c : EM) : EM := fun s M => (a s M).bind fun x M1 => (b s M1).bind fun y M2 => (f x y M2).bind fun z M3 => match z with
  | .d (.bool k) => if k = true then (c s M3).bind fun w M4 => g y w M4 else .ok (.d (.bool false)) M3
  | _ => .bad
theorem se_chain {op op' : CmpOp} {r r' : R2} {f g : Val → Val → Mm → Out Val} {c : Expr} {mc : EM} (ho : OpR X (compareOp op) r) (z : OpZ X r f) (ho' : OpR X (compareOp op') r') (z' : OpZ X r' g)
    (ha : SE X W a ma) (hb : SE X W b mb) (hc : SE X W c mc) (hm : lastMarks [op, op'] [b, c] = false := by with_unfolding_all rfl) : SE X W (.Compare a [op, op'] [b, c] pos) (mChain f g ma mb mc) := by
  refine ⟨peImp (pe_chain ho ho' ha.pe hb.pe hc.pe hm) fun σ H Q ⟨G, s, M, S, N, p⟩ => ?_⟩
  refine ⟨G, s, M, S, N, Post.bind p fun v M1 G1 H1 x e1 S1 r1 p1 => ⟨G1, s, M1, S1, N.ext e1, Post.bind p1 fun w M2 G2 H2 y e2 S2 r2 p2 => ?_⟩⟩
  refine z W G2 M2 σ H2 _ x y v w S2 (RW.ext e2 r1) r2 (Post.bind p2 fun u M3 G3 H3 k e3 S3 r3 p3 => ?_)
  split at p3
  · rename_i b
    have r3 : RV X.K G3.F H3 k (.bool b) := r3
    cases r3
    refine ⟨b, rfl, ?_⟩
    split at p3
    · rename_i hk
      rw [if_pos hk]
      exact ⟨G3, s, M3, S3, ((N.ext e1).ext e2).ext e3, Post.bind p3 fun t M4 G4 H4 w' e4 S4 r4 p4 => z' W G4 M4 σ H4 Q y w' w t S4 (RW.ext (e3.trans e4) r2) r4 p4⟩
    · rename_i hk
      rw [if_neg hk]
      exact p3 G3 H3 _ .refl S3 (RV.bl false)
  · exact p3.elim
theorem st_chain {op op' : CmpOp} {r r' : R2} {f g : Val → Val → Mm → Out Val} {c : Expr} {mc : EM} (ho : OpR X (compareOp op) r) (z : OpZ X r f) (ho' : OpR X (compareOp op') r') (z' : OpZ X r' g)
    (ha : SE X W a ma) (hb : SE X W b mb) (hc : SE X W c mc) (hm : lastMarks [op, op'] [b, c] = false := by with_unfolding_all rfl) : ST X W (.Compare a [op, op'] [b, c] pos) (mT (mChain f g ma mb mc)) := by
  refine ⟨ptImp (pt_chain ho ho' ha.pe hb.pe hc.pe hm) fun σ H Q h => ?_⟩
  obtain ⟨G, s, M, S, N, p⟩ := TTm.of h
  refine ⟨G, s, M, S, N, Post.bind p fun v M1 G1 H1 x e1 S1 r1 p1 => ⟨G1, s, M1, S1, N.ext e1, Post.bind p1 fun w M2 G2 H2 y e2 S2 r2 p2 => ?_⟩⟩
  refine z W G2 M2 σ H2 _ x y v w S2 (RW.ext e2 r1) r2 (Post.bind p2 fun u M3 G3 H3 k e3 S3 r3 p3 => ?_)
  split at p3
  · rename_i b
    have r3 : RV X.K G3.F H3 k (.bool b) := r3
    cases r3
    refine ⟨b, rfl, ?_⟩
    split at p3
    · rename_i hk
      rw [if_pos hk]
      exact ⟨G3, s, M3, S3, ((N.ext e1).ext e2).ext e3, Post.bind p3 fun t M4 G4 H4 w' e4 S4 r4 p4 => z' W G4 M4 σ H4 _ y w' w t S4 (RW.ext (e3.trans e4) r2) r4 p4⟩
    · rename_i hk
      rw [if_neg hk]
      exact p3 G3 H3 _ .refl S3 (RV.bl false)
  · exact p3.elim
end
end Zm
namespace Zm
open PySem PySem.Spec PyProof.Rows L2

/-! ### subscripts -/
section
variable {K : PySem.W.Frag} {mg : Str → Option Value} {F : Addr → Prop} {G : Gh} {H : Hp}
theorem RVs.atI {xs : List V} {ds : List PyData} {i : Int} {d : PyData} (r : RVs K F H xs ds) (h : atI ds i = some d) : ∃ v, atI xs i = some v ∧ RV K F H v d := by
  unfold L2.atI at h ⊢
  rw [r.len]
  cases q : ixN ds.length i with
  | none => rw [q] at h; cases h
  | some j =>
    rw [q] at h
    exact RVs.get r h
theorem RWs.get : ∀ {xs : List V} {vs : List Val} {i : Nat} {v : Val}, RWs K G H xs vs → vs[i]? = some v → ∃ x, xs[i]? = some x ∧ RW K G H x v
  | _, _, i, _, .nil, e => by simp at e
  | _, _, 0, _, .cons h t, e => by simp at e; subst e; exact ⟨_, rfl, h⟩
  | _, _, i + 1, _, .cons h t, e => by
    obtain ⟨x, e1, e2⟩ := RWs.get (i := i) t (by simpa using e)
    exact ⟨x, by simpa using e1, e2⟩
theorem RWs.atI {xs : List V} {vs : List Val} {i : Int} {v : Val} (r : RWs K G H xs vs) (h : atI vs i = some v) : ∃ x, L2.atI xs i = some x ∧ RW K G H x v := by
  unfold L2.atI at h ⊢
  rw [Paired.len r]
  cases q : ixN vs.length i with
  | none => rw [q] at h; cases h
  | some j =>
    rw [q] at h
    exact RWs.get r h
end
def vIx (v w : Val) (M : Mm) : Out Val := match v, w with
  | .d (.list ds), .d (.int i) => match atI ds i with
    | some d => .ok (.d d) M
    | none => .bad
  | .d (.tuple ds), .d (.int i) => match atI ds i with
    | some d => .ok (.d d) M
    | none => .bad
  | .d (.str x), .d (.int i) => if fitsL x.length then match atI x.cps.toList i with
    | some c => .ok (.d (.str ⟨#[c]⟩)) M
    | none => .bad else .bad
  | .scr ns, .d (.int i) => match atI ns i with
    | some n => .ok (.d (.int n)) M
    | none => .bad
  | .obj j, .d (.int i) => match M[j]? with
    | some (.lst vs) => match atI vs i with
      | some v => .ok (rd v M) M
      | none => .bad
    | _ => .bad
  | _, _ => .bad
section
variable {X : Cx} {W : WX}
theorem oz_ix : OpZ X (rIx X.K) vIx := by
  intro W G M σ H Q x y v w S r1 r2 p
  unfold vIx at p
  split at p
  · rename_i ds i
    have r1 : RV X.K G.F H x (.list ds) := r1
    have r2 : RV X.K G.F H y (.int i) := r2
    cases r2
    cases r1 with
    | lst h0 h1 h2 =>
      split at p
      · rename_i d hd
        obtain ⟨u, e1, e2⟩ := RVs.atI h2 hd
        exact .inl ⟨_, _, i, u, rfl, rfl, SqL.of h1, e1, p G H _ .refl S e2⟩
      · exact p.elim
  · rename_i ds i
    have r1 : RV X.K G.F H x (.tuple ds) := r1
    have r2 : RV X.K G.F H y (.int i) := r2
    cases r2
    cases r1 with
    | tup h1 h2 =>
      split at p
      · rename_i d hd
        obtain ⟨u, e1, e2⟩ := RVs.atI h2 hd
        exact .inr (.inl ⟨_, _, i, u, rfl, rfl, SqT.of h1, e1, p G H _ .refl S e2⟩)
      · exact p.elim
  · rename_i z i
    have r1 : RV X.K G.F H x (.str z) := r1
    have r2 : RV X.K G.F H y (.int i) := r2
    cases r1; cases r2
    split at p
    · rename_i hf
      split at p
      · rename_i c hc
        exact .inr (.inr ⟨z, i, c, rfl, rfl, fitsL_ok hf, hc, p G H _ .refl S (RV.str _)⟩)
      · exact p.elim
    · exact p.elim
  · rename_i ns i
    obtain ⟨a, rfl, h1⟩ := r1
    have r2 : RV X.K G.F H y (.int i) := r2
    cases r2
    split at p
    · rename_i n hn
      refine .inl ⟨a, _, i, .int n, rfl, rfl, h1.sql, ?_, p G H _ .refl S (RV.int n)⟩
      unfold L2.atI at hn ⊢
      rw [List.length_map]
      cases q : ixN ns.length i with
      | none => rw [q] at hn; cases hn
      | some j =>
        rw [q] at hn
        show (ns.map V.int)[j]? = _
        have hn : ns[j]? = some n := hn
        rw [List.getElem?_map, hn]
        rfl
    · exact p.elim
  · rename_i j i
    obtain ⟨a, rfl, hj⟩ := r1
    have r2 : RV X.K G.F H y (.int i) := r2
    cases r2
    split at p
    · rename_i vs ev
      obtain ⟨nF, xs, hx, rx⟩ := S.obj j a _ hj ev
      split at p
      · rename_i u hu
        obtain ⟨z, e1, e2⟩ := RWs.atI rx hu
        exact .inl ⟨a, xs, i, z, rfl, rfl, SqL.of hx, e1, p G H _ .refl S (rd_ok S e2)⟩
      · exact p.elim
    · exact p.elim
  · exact p.elim
variable {a b : Expr} {ma mb : EM} {pos : Pos}
theorem se_ix (ha : SE X W a ma) (hb : SE X W b mb) (hs : PlainIx b := by intro _ _; rfl) : SE X W (.Subscript a b pos) (mOp vIx ma mb) := ⟨peImp (pe_ix ix_seq ha.pe hb.pe hs) fun _ _ _ h => TEm.op oz_ix h⟩

/-! ### slices -/
def cutL {α : Type} (xs : List α) (lo hi : Option Int) : List α := (xs.drop (HT.sIx xs.length 0 lo)).take (HT.sIx xs.length xs.length hi - HT.sIx xs.length 0 lo)
abbrev OM := Sl → Mm → Out (Option Int)
def TOm (K : PySem.W.Frag) (mg : Str → Option Value) (W : WX) (m : OM) : TO := fun σ H Q => ∃ G s M, SimM K mg G M H ∧ SimS K G s σ H ∧ Post K mg W G σ H (fun _ _ x v => x = v) Q (m s M)
structure SP_ (X : Cx) (W : WX) (e : Option Expr) (m : OM) : Prop where
  po : PO X e (TOm X.K X.mg W m)
theorem poImp {e : Option Expr} {t t' : TO} (h : PO X e t) (i : ∀ σ H Q, t' σ H Q → t σ H Q) : PO X e t' := ⟨fun pins s σ H Q I q => h.run pins s σ H Q I (i _ _ _ q)⟩
def oNone : OM := fun _ M => .ok none M
def oSome (m : EM) : OM := fun s M => (m s M).bind fun v M1 => match v with
  | .d (.int i) => .ok (some i) M1
  | _ => .bad
theorem so_none : SP_ X W none oNone := ⟨poImp po_none fun σ H Q ⟨G, s, M, S, N, p⟩ => p G H none .refl S rfl⟩
theorem so_some {e : Expr} {m : EM} (h : SE X W e m) : SP_ X W (some e) (oSome m) := by
  refine ⟨poImp (po_some h.pe) fun σ H Q ⟨G, s, M, S, N, p⟩ => ⟨G, s, M, S, N, Post.bind p fun v M1 G1 H1 x e1 S1 r1 p1 => ?_⟩⟩
  split at p1
  · rename_i i
    have r1 : RV X.K G1.F H1 x (.int i) := r1
    cases r1
    exact ⟨i, rfl, p1 G1 H1 _ .refl S1 rfl⟩
  · exact p1.elim
def vSl (v : Val) (lo hi : Option Int) (M : Mm) : Out Val := match v with
  | .d (.tuple ds) => .ok (.d (.tuple (cutL ds lo hi))) M
  | .d (.str z) => if fitsL z.length then .ok (.d (.str (cutS z lo hi))) M else .bad
  | v => match listD v M with
    | some ds => .ok (.d (.list (cutL ds lo hi))) M
    | none => .bad
def mSl (m : EM) (l h : OM) : EM := fun s M => (m s M).bind fun v M1 => (l s M1).bind fun lo M2 => (h s M2).bind fun hi M3 => vSl v lo hi M3
theorem cutL_whole {α : Type} {xs : List α} {lo hi : Option Int} (h : HT.sIx xs.length 0 lo = 0 ∧ HT.sIx xs.length xs.length hi = xs.length) : cutL xs lo hi = xs := by
  unfold cutL
  rw [h.1, h.2]
  simp
theorem RVs.cut {K : PySem.W.Frag} {F : Addr → Prop} {H : Hp} {xs : List V} {ds : List PyData} (r : RVs K F H xs ds) (lo hi : Option Int) : RVs K F H (cutV xs lo hi) (cutL ds lo hi) := by
  unfold cutV cutL
  rw [r.len]
  exact RVs.take _ (RVs.drop _ r)
theorem se_slice {e : Expr} {lo hi : Option Expr} {m : EM} {l h : OM} {p2 : Pos} (he : SE X W e m) (hl : SP_ X W lo l) (hh : SP_ X W hi h) : SE X W (.Subscript e (.Slice lo hi none p2) pos) (mSl m l h) := by
  refine ⟨peImp (pe_slice (SlR.or sl_list (SlR.or sl_tupA sl_str)) he.pe hl.po hh.po) fun σ H Q ⟨G, s, M, S, N, p⟩ => ?_⟩
  refine ⟨G, s, M, S, N, Post.bind p fun v M1 G1 H1 x e1 S1 r1 p1 => ⟨G1, s, M1, S1, N.ext e1, Post.bind p1 fun lo M2 G2 H2 lo' e2 S2 r2 p2 => ⟨G2, s, M2, S2, (N.ext e1).ext e2, Post.bind p2 fun hi M3 G3 H3 hi' e3 S3 r3 p3 => ?_⟩⟩⟩
  subst r2 r3
  replace r1 := RW.ext (e2.trans e3) r1
  unfold vSl at p3
  split at p3
  · rename_i ds
    have r1' := r1
    have r1 : RV X.K G3.F H3 x (.tuple ds) := r1
    cases r1 with
    | @tup a xs _ h1 h2 =>
      refine .inr (.inl ⟨_, _, rfl, SqT.of h1, fun hw => ?_, fun hw q hq => ?_⟩)
      · rw [cutL_whole (by rw [← h2.len]; exact hw)] at p3
        exact p3 G3 H3 _ .refl S3 r1'
      · obtain ⟨S4, e4⟩ := S3.lay (o := .tup (cutV xs lo' hi')) hq
        exact p3 G3 _ _ e4 S4 (RV.tup upd_same (RVs.cut (RVs.ext e4 _ _ h2) _ _))
  · rename_i z
    have r1 : RV X.K G3.F H3 x (.str z) := r1
    cases r1
    split at p3
    · rename_i hf
      exact .inr (.inr ⟨z, rfl, fitsL_ok hf, p3 G3 H3 _ .refl S3 (RV.str _)⟩)
    · exact p3.elim
  · split at p3
    · rename_i ds ed
      obtain ⟨a, xs, rfl, h1, h2⟩ := listD_ok S3 r1 ed
      refine .inl ⟨_, _, rfl, h1, fun q hq => ?_⟩
      obtain ⟨S4, e4⟩ := S3.layF (o := .lst (cutV xs lo' hi')) hq
      exact p3 _ _ _ e4 S4 (RV.lst (.inl rfl) upd_same (RVs.cut (RVs.ext e4 _ _ h2) _ _))
    · exact p3.elim

/-! ### built-in functions -/
/-- a plain function of the arguments, right for the reading r -/
def CallZ (X : Cx) (r : List V → Hp → VK → Prop) (f : List Val → Mm → Out Val) : Prop := ∀ (W : WX) (G : Gh) (M : Mm) (σ : L2.St) (H : Hp) (Q : VK) (xs : List V) (vs : List Val), SimM X.K X.mg G M H → RWs X.K G H xs vs →
  Post X.K X.mg W G σ H (fun G' H' x v => RW X.K G' H' x v) Q (f vs M) → r xs H Q
def mB (f : List Val → Mm → Out Val) (ms : AM) : EM := fun s M => (ms s M).bind f
theorem TCBm {r : List V → Hp → VK → Prop} {f : List Val → Mm → Out Val} {ms : AM} {σ : L2.St} {H : Hp} {Q : VK} (z : CallZ X r f) (h : TEm X.K X.mg W (mB f ms) σ H Q) : tCB r (TAm X.K X.mg W ms) σ H Q := by
  obtain ⟨G, s, M, S, N, p⟩ := h
  exact ⟨G, s, M, S, N, Post.bind p fun vs M1 G1 H1 xs e1 S1 r1 p1 => z W G1 M1 σ H1 Q xs vs S1 r1 p1⟩
variable {e : Expr} {es : List Expr} {ms : AM} {x : Str} {p : Pos} {id T : String}
theorem se_callB {r : List V → Hp → VK → Prop} {f : List Val → Mm → Out Val} (hc : CallR X (.builtin id) r) (z : CallZ X r f) (hg : Gl X x) (hm : X.mg x = none) (hv : bootBuiltins x = some (.builtin id)) (ha : SA X W (e :: es) ms) (hn : x ≠ "__name__" := by decide) (hdb : (x == ("__debug__" : Str)) = false := by decide)
    (he : starEach (e :: es) X.env = (false, eval e X.env) :: starEach es X.env := by rfl) (hpl : (backTo pos (starEach es X.env)).any (·.1) = false := by rfl) : SE X W (.Call (.Name x p) (e :: es) [] pos) (mB f ms) :=
  ⟨peImp (pe_callB hc hg hm hv ha.pa hn hdb he hpl) fun _ _ _ h => TCBm z h⟩
theorem se_callTy {r : List V → Hp → VK → Prop} {f : List Val → Mm → Out Val} (hc : CallR X (.type T) r) (z : CallZ X r f) (hg : Gl X x) (hm : X.mg x = none) (hv : bootBuiltins x = some (.type T)) (ha : SA X W (e :: es) ms) (hn : x ≠ "__name__" := by decide) (hdb : (x == ("__debug__" : Str)) = false := by decide)
    (he : starEach (e :: es) X.env = (false, eval e X.env) :: starEach es X.env := by rfl) (hpl : (backTo pos (starEach es X.env)).any (·.1) = false := by rfl) : SE X W (.Call (.Name x p) (e :: es) [] pos) (mB f ms) :=
  ⟨peImp (pe_callTy hc hg hm hv ha.pa hn hdb he hpl) fun _ _ _ h => TCBm z h⟩
/-- len -/
def lenOf (v : Val) (M : Mm) : Option Nat := match v with
  | .d (.list ds) => some ds.length
  | .d (.tuple ds) => some ds.length
  | .d (.str x) => if fitsL x.length then some x.length else none
  | .scr ns => some ns.length
  | .obj j => match M[j]? with
    | some (.lst vs) => some vs.length
    | _ => none
  | _ => none
def vLen (vs : List Val) (M : Mm) : Out Val := match vs with
  | [v] => match lenOf v M with
    | some n => .ok (.d (.int n)) M
    | none => .bad
  | _ => .bad
theorem lenOf_ok {K : PySem.W.Frag} {mg : Str → Option Value} {G : Gh} {H : Hp} {M : Mm} {x : V} {v : Val} {n : Nat} (S : SimM K mg G M H) (r : RW K G H x v) (h : lenOf v M = some n) : LenV K x H n := by
  unfold lenOf at h
  split at h
  · rename_i ds
    cases h
    have r : RV K G.F H x (.list ds) := r
    cases r with
    | lst h0 h1 h2 => exact .inl ⟨_, SqL.of h1, h2.len.symm⟩
  · rename_i ds
    cases h
    have r : RV K G.F H x (.tuple ds) := r
    cases r with
    | tup h1 h2 => exact .inr ⟨_, SqT.of h1, h2.len.symm⟩
  · rename_i z
    split at h
    · rename_i hf
      cases h
      have r : RV K G.F H x (.str z) := r
      cases r
      exact ⟨fitsL_ok hf, rfl⟩
    · cases h
  · rename_i ns
    cases h
    obtain ⟨a, rfl, h1⟩ := r
    exact .inl ⟨_, h1.sql, by simp⟩
  · rename_i j
    obtain ⟨a, rfl, hj⟩ := r
    split at h
    · rename_i vs ev
      cases h
      obtain ⟨nF, xs, hx, rx⟩ := S.obj j a _ hj ev
      exact .inl ⟨xs, SqL.of hx, (Paired.len rx).symm⟩
    · cases h
  · cases h
theorem cz_len : CallZ X (fun xs H Q => ∃ x n, xs = [x] ∧ LenV X.K x H n ∧ Q (.int n) H) vLen := by
  intro W G M σ H Q xs vs S r p
  unfold vLen at p
  split at p
  · cases r with
    | cons r1 r2 =>
      cases r2
      split at p
      · rename_i n hn
        exact ⟨_, n, rfl, lenOf_ok S r1 hn, p G H _ .refl S (RV.int _)⟩
      · exact p.elim
  · exact p.elim
/-- int(n) -/
def vInt (vs : List Val) (M : Mm) : Out Val := match vs with
  | [.d (.int i)] => .ok (.d (.int i)) M
  | [.d (.bool k)] => .ok (.d (.int (if k then 1 else 0))) M
  | _ => .bad
theorem cz_int : CallZ X (fun xs H Q => (∃ i, xs = [.int i] ∧ Q (.int i) H) ∨ ∃ k, xs = [.bl k] ∧ Q (.int (if k then 1 else 0)) H) vInt := by
  intro W G M σ H Q xs vs S r p
  unfold vInt at p
  split at p
  · rename_i i
    cases r with
    | cons r1 r2 =>
      cases r2
      have r1 : RV X.K G.F H _ (.int i) := r1
      cases r1
      exact .inl ⟨i, rfl, p G H _ .refl S (RV.int _)⟩
  · rename_i k
    cases r with
    | cons r1 r2 =>
      cases r2
      have r1 : RV X.K G.F H _ (.bool k) := r1
      cases r1
      exact .inr ⟨k, rfl, p G H _ .refl S (RV.int _)⟩
  · exact p.elim
/-- max, min of two ints; abs -/
def vI2 (f : Int → Int → Int) (vs : List Val) (M : Mm) : Out Val := match vs with
  | [.d (.int i), .d (.int j)] => .ok (.d (.int (f i j))) M
  | _ => .bad
theorem cz_i2 {f : Int → Int → Int} : CallZ X (fun xs H Q => ∃ i j, xs = [.int i, .int j] ∧ Q (.int (f i j)) H) (vI2 f) := by
  intro W G M σ H Q xs vs S r p
  unfold vI2 at p
  split at p
  · rename_i i j
    cases r with
    | cons r1 r2 =>
      cases r2 with
      | cons r2 r3 =>
        cases r3
        have r1 : RV X.K G.F H _ (.int i) := r1
        have r2 : RV X.K G.F H _ (.int j) := r2
        cases r1; cases r2
        exact ⟨i, j, rfl, p G H _ .refl S (RV.int _)⟩
  · exact p.elim
abbrev vMax := vI2 fun i j => if j > i then j else i
abbrev vMin := vI2 fun i j => if j < i then j else i
def vAbs (vs : List Val) (M : Mm) : Out Val := match vs with
  | [.d (.int i)] => .ok (.d (.int (if i < 0 then -i else i))) M
  | _ => .bad
theorem cz_abs : CallZ X (fun xs H Q => ∃ i, xs = [.int i] ∧ Q (.int (if i < 0 then -i else i)) H) vAbs := by
  intro W G M σ H Q xs vs S r p
  unfold vAbs at p
  split at p
  · rename_i i
    cases r with
    | cons r1 r2 =>
      cases r2
      have r1 : RV X.K G.F H _ (.int i) := r1
      cases r1
      exact ⟨i, rfl, p G H _ .refl S (RV.int _)⟩
  · exact p.elim
/-- tuple(xs) -/
def vTuple (vs : List Val) (M : Mm) : Out Val := match vs with
  | [v] => match seqD v M with
    | some ds => .ok (.d (.tuple ds)) M
    | none => .bad
  | _ => .bad
theorem cz_tuple : CallZ X (fun xs H Q => ∃ p ys, xs = [.ref p] ∧ ((SqL X.K H p ys ∧ ∀ l, H l = none → Q (.ref l) (upd H l (.tup ys))) ∨ (SqT X.K H p ys ∧ Q (.ref p) H))) vTuple := by
  intro W G M σ H Q xs vs S r p
  unfold vTuple at p
  split at p
  · cases r with
    | cons r1 r2 =>
      cases r2
      split at p
      · rename_i ds hd
        obtain ⟨a, ys, rfl, h, hr⟩ := seqD_ok S r1 hd
        refine ⟨a, ys, rfl, ?_⟩
        rcases h with h | h
        · refine .inl ⟨h, fun l hl => ?_⟩
          obtain ⟨S2, e2⟩ := S.lay (o := .tup ys) hl
          exact p G _ _ e2 S2 (RV.tup upd_same (RVs.ext e2 _ _ hr))
        · exact .inr ⟨SqT.of h, p G H _ .refl S (RV.tup h hr)⟩
      · exact p.elim
  · exact p.elim
/-- list(xs), by value or at a place of its own -/
def vList (vs : List Val) (M : Mm) : Out Val := match vs with
  | [v] => match seqD v M with
    | some ds => .ok (.d (.list ds)) M
    | none => .bad
  | _ => .bad
def vListN (vs : List Val) (M : Mm) : Out Val := match vs with
  | [v] => match seqD v M with
    | some ds => .ok (.obj M.length) (M ++ [.lst (ds.map .d)])
    | none => .bad
  | _ => .bad
theorem cz_list : CallZ X (fun xs H Q => ∃ p ys, xs = [.ref p] ∧ (SqL X.K H p ys ∨ SqT X.K H p ys) ∧ ∀ l, H l = none → Q (.ref l) (upd H l (.lst ys))) vList := by
  intro W G M σ H Q xs vs S r p
  unfold vList at p
  split at p
  · cases r with
    | cons r1 r2 =>
      cases r2
      split at p
      · rename_i ds hd
        obtain ⟨a, ys, rfl, h, hr⟩ := seqD_ok S r1 hd
        refine ⟨a, ys, rfl, h.imp id SqT.of, fun l hl => ?_⟩
        obtain ⟨S2, e2⟩ := S.layF (o := .lst ys) hl
        exact p _ _ _ e2 S2 (RV.lst (.inl rfl) upd_same (RVs.ext e2 _ _ hr))
      · exact p.elim
  · exact p.elim
theorem cz_listN : CallZ X (fun xs H Q => ∃ p ys, xs = [.ref p] ∧ (SqL X.K H p ys ∨ SqT X.K H p ys) ∧ ∀ l, H l = none → Q (.ref l) (upd H l (.lst ys))) vListN := by
  intro W G M σ H Q xs vs S r p
  unfold vListN at p
  split at p
  · cases r with
    | cons r1 r2 =>
      cases r2
      split at p
      · rename_i ds hd
        obtain ⟨a, ys, rfl, h, hr⟩ := seqD_ok S r1 hd
        refine ⟨a, ys, rfl, h.imp id SqT.of, fun l hl => ?_⟩
        obtain ⟨S2, e2, r3⟩ := S.pushL hl (RVs.rws hr)
        exact p _ _ _ e2 S2 r3
      · exact p.elim
  · exact p.elim

/-! ### methods -/
def tyOk (T : String) (v : Val) (M : Mm) : Bool := match v with
  | .d (.str _) => T == "str"
  | .d (.list _) => T == "list"
  | .scr _ => T == "list"
  | .obj j => match M[j]? with
    | some (.lst _) => T == "list"
    | some (.dct _) => T == "dict"
    | _ => false
  | .d (.dict _) => T == "dict"
  | _ => false
theorem tyOk_ok {K : PySem.W.Frag} {mg : Str → Option Value} {G : Gh} {H : Hp} {M : Mm} {T : String} {x : V} {v : Val} (S : SimM K mg G M H) (r : RW K G H x v) (h : tyOk T v M = true) : tyV K T x H := by
  unfold tyOk at h
  split at h
  · rename_i z
    have r : RV K G.F H x (.str z) := r
    cases r
    exact beq_iff_eq.mp h
  · rename_i ds
    have r : RV K G.F H x (.list ds) := r
    cases r with
    | lst h0 h1 h2 => exact .inl ⟨beq_iff_eq.mp h, _, SqL.of h1⟩
  · obtain ⟨a, rfl, h1⟩ := r
    exact .inl ⟨beq_iff_eq.mp h, _, h1.sql⟩
  · rename_i j
    obtain ⟨a, rfl, hj⟩ := r
    split at h
    · rename_i vs ev
      obtain ⟨nF, xs, hx, rx⟩ := S.obj j a _ hj ev
      exact .inl ⟨beq_iff_eq.mp h, _, SqL.of hx⟩
    · rename_i kvs ev
      obtain ⟨nF, ys, h1, _⟩ := S.obj j a _ hj ev
      exact .inr (.inr (.inl ⟨beq_iff_eq.mp h, .inl ⟨_, h1⟩⟩))
    · cases h
  · rename_i ds
    have r : RV K G.F H x (.dict ds) := r
    refine ?_
    cases r with
    | dct h0 h1 h2 => exact .inr (.inr (.inl ⟨beq_iff_eq.mp h, .inl ⟨_, h1⟩⟩))
  · cases h
abbrev MF := Val → List Val → Mm → Out Val
def MtZ (X : Cx) (r : V → List V → Hp → VK → Prop) (f : MF) : Prop := ∀ (W : WX) (G : Gh) (M : Mm) (σ : L2.St) (H : Hp) (Q : VK) (x : V) (v : Val) (xs : List V) (vs : List Val), SimM X.K X.mg G M H → RW X.K G H x v → RWs X.K G H xs vs →
  Post X.K X.mg W G σ H (fun G' H' x v => RW X.K G' H' x v) Q (f v vs M) → r x xs H Q
def mM (T : String) (f : MF) (o : EM) (ms : AM) : EM := fun s M => (o s M).bind fun v M1 => if tyOk T v M1 = true then (ms s M1).bind fun vs M2 => f v vs M2 else .bad
theorem se_meth {o : Expr} {mo : EM} {name : Str} {apos cpos : Pos} {r : V → List V → Hp → VK → Prop} {f : MF} (pa : PlainAttrs T) (slot : Slot T name id) (hty : typeOf (.builtin id) = pure (.type "method_descriptor")) (hm : MtR X id r) (z : MtZ X r f) (ho : SE X W o mo) (ha : SA X W (e :: es) ms)
    (hbase : attributeBase o name X.env (eval o X.env) = eval o X.env := by rfl)
    (hfew : ((backTo cpos (starEach (e :: es) X.env)).all (fun x => !x.1) && (backToKw cpos (keywordEach [] X.env)).all (fun x => x.1.isSome)
      && decide ((e :: es).length + ([] : List Keyword).length + (if ([] : List Keyword).isEmpty then 0 else 1) < 30)) = true := by rfl)
    (hline : (apos.endLine == cpos.line) = true := by rfl) (hs : starEach (e :: es) X.env = (false, eval e X.env) :: starEach es X.env := by rfl) (hplain : (backTo cpos (starEach es X.env)).any (·.1) = false := by rfl) :
    SE X W (.Call (.Attribute o name apos) (e :: es) [] cpos) (mM T f mo ms) := by
  refine ⟨peImp (pe_bm pa slot hty hm ho.pe ha.pa hbase hfew hline hs hplain) fun σ H Q ⟨G, s, M, S, N, p⟩ => ⟨G, s, M, S, N, Post.bind p fun v M1 G1 H1 x e1 S1 r1 p1 => ?_⟩⟩
  split at p1
  · rename_i ht
    exact ⟨tyOk_ok S1 r1 ht, G1, s, M1, S1, N.ext e1, Post.bind p1 fun vs M2 G2 H2 xs e2 S2 r2 p2 => z W G2 M2 σ H2 Q x v xs vs S2 (RW.ext e2 r1) r2 p2⟩
  · exact p1.elim
theorem se_meth0 {o : Expr} {mo : EM} {name : Str} {apos cpos : Pos} {r : V → List V → Hp → VK → Prop} {f : MF} (pa : PlainAttrs T) (slot : Slot T name id) (hty : typeOf (.builtin id) = pure (.type "method_descriptor")) (hm : MtR X id r) (z : MtZ X r f) (ho : SE X W o mo)
    (hbase : attributeBase o name X.env (eval o X.env) = eval o X.env := by rfl) (hline : (apos.endLine == cpos.line) = true := by rfl) : SE X W (.Call (.Attribute o name apos) [] [] cpos) (mM T f mo mNil) := by
  refine ⟨peImp (pe_bm0 pa slot hty hm ho.pe hbase hline) fun σ H Q ⟨G, s, M, S, N, p⟩ => ⟨G, s, M, S, N, Post.bind p fun v M1 G1 H1 x e1 S1 r1 p1 => ?_⟩⟩
  split at p1
  · rename_i ht
    exact ⟨tyOk_ok S1 r1 ht, z W G1 M1 σ H1 Q x v [] [] S1 r1 .nil p1⟩
  · exact p1.elim
theorem Paired.dropLast {α β : Type} {F : α → β → Prop} : ∀ {l : List α} {m : List β}, Paired F l m → Paired F l.dropLast m.dropLast
  | _, _, .nil => .nil
  | _, _, .cons h .nil => .nil
  | _, _, .cons h (.cons h2 t) => .cons h (Paired.dropLast (.cons h2 t))
theorem Paired.eraseIdx {α β : Type} {F : α → β → Prop} : ∀ {l : List α} {m : List β} (k : Nat), Paired F l m → Paired F (l.eraseIdx k) (m.eraseIdx k)
  | _, _, _, .nil => .nil
  | _, _, 0, .cons h t => t
  | _, _, k + 1, .cons h t => .cons h (Paired.eraseIdx k t)
theorem Paired.take {α β : Type} {F : α → β → Prop} : ∀ {l : List α} {m : List β} (k : Nat), Paired F l m → Paired F (l.take k) (m.take k)
  | _, _, 0, _ => .nil
  | _, _, _ + 1, .nil => .nil
  | _, _, k + 1, .cons h t => .cons h (Paired.take k t)
theorem Paired.drop {α β : Type} {F : α → β → Prop} : ∀ {l : List α} {m : List β} (k : Nat), Paired F l m → Paired F (l.drop k) (m.drop k)
  | _, _, 0, h => h
  | _, _, _ + 1, .nil => .nil
  | _, _, k + 1, .cons h t => Paired.drop k t
theorem Paired.setP {α β : Type} {F : α → β → Prop} {a : α} {b : β} (h : F a b) : ∀ {l : List α} {m : List β} (k : Nat), Paired F l m → Paired F (l.set k a) (m.set k b)
  | _, _, _, .nil => .nil
  | _, _, 0, .cons _ t => .cons h t
  | _, _, k + 1, .cons g t => .cons g (Paired.setP h k t)
/-- a list at a place is written -/
theorem write_lst {G : Gh} {M : Mm} {H : Hp} {i : Nat} {a : Addr} {vs : List Val} {ys : List V} {us : List Val} (S : SimM X.K X.mg G M H) (hi : G.φ[i]? = some a) (ho : M[i]? = some (.lst vs)) (r : RWs X.K G H ys us) :
    SimM X.K X.mg G (M.set i (.lst us)) (upd H a (.lst ys)) ∧ Ext G H G (upd H a (.lst ys)) := by
  obtain ⟨nF, xs, hx, rx⟩ := S.obj i a _ hi ho
  exact S.write hi nF (fun zs z => by rw [hx] at z; cases z) (fun q v z => by rw [hx] at z; cases z) fun e => ⟨nF, ys, upd_same, RWs.ext e r⟩
def vAppend : MF := fun v vs M => match v, vs with
  | .obj i, [w] => match M[i]? with
    | some (.lst us) => if us.length < 16777216 then .ok (.d .none) (M.set i (.lst (us ++ [w]))) else .bad
    | _ => .bad
  | _, _ => .bad
theorem mz_append : MtZ X rAppend vAppend := by
  intro W G M σ H Q x v xs vs S r1 r2 p
  unfold vAppend at p
  split at p
  · rename_i i w
    obtain ⟨a, rfl, hi⟩ := r1
    cases r2 with
    | @cons y _ _ _ r2 r3 =>
      cases r3
      split at p
      · rename_i us ho
        obtain ⟨nF, zs, hx, rx⟩ := S.obj i a _ hi ho
        split at p
        · rename_i hl
          obtain ⟨S2, e2⟩ := write_lst S hi ho (Paired.app rx (.cons r2 .nil))
          exact ⟨a, zs, _, rfl, rfl, hx, by rw [Paired.len rx]; exact hl, p G _ _ e2 S2 RV.non⟩
        · exact p.elim
      · exact p.elim
  · exact p.elim
def vPop : MF := fun v vs M => match v, vs with
  | .obj i, [] => match M[i]? with
    | some (.lst us) => match us[us.length - 1]? with
      | some w => .ok (rd w M) (M.set i (.lst us.dropLast))
      | none => .bad
    | _ => .bad
  | .obj i, [.d (.int k)] => match M[i]? with
    | some (.lst us) => if -9223372036854775808 ≤ k ∧ k < 9223372036854775808 then match seqIndex? k us.length with
      | some j => match us[j]? with
        | some w => .ok (rd w M) (M.set i (.lst (us.eraseIdx j)))
        | none => .bad
      | none => .bad else .bad
    | _ => .bad
  | _, _ => .bad
theorem mz_pop : MtZ X (fun x vs H Q => rPop x vs H Q ∨ rPopAt x vs H Q) vPop := by
  intro W G M σ H Q x v xs vs S r1 r2 p
  unfold vPop at p
  split at p
  · rename_i i
    obtain ⟨a, rfl, hi⟩ := r1
    cases r2
    split at p
    · rename_i us ho
      obtain ⟨nF, zs, hx, rx⟩ := S.obj i a _ hi ho
      split at p
      · rename_i w hw
        obtain ⟨y, e1, e2⟩ := RWs.get rx hw
        obtain ⟨S2, e3⟩ := write_lst S hi ho (Paired.dropLast rx)
        exact .inl ⟨a, zs, y, rfl, rfl, hx, by rw [Paired.len rx]; exact e1, p G _ _ e3 S2 (RW.ext e3 (rd_ok S e2))⟩
      · exact p.elim
    · exact p.elim
  · rename_i i k
    obtain ⟨a, rfl, hi⟩ := r1
    cases r2 with
    | @cons y _ _ _ r2 r3 =>
      cases r3
      have r2 : RV X.K G.F H y (.int k) := r2
      cases r2
      split at p
      · rename_i us ho
        obtain ⟨nF, zs, hx, rx⟩ := S.obj i a _ hi ho
        split at p
        · rename_i hk
          split at p
          · rename_i j hj
            split at p
            · rename_i w hw
              obtain ⟨y, e1, e2⟩ := RWs.get rx hw
              obtain ⟨S2, e3⟩ := write_lst S hi ho (Paired.eraseIdx j rx)
              exact .inr ⟨a, zs, k, j, y, rfl, rfl, hx, by omega, by omega, by rw [Paired.len rx]; exact hj, e1, p G _ _ e3 S2 (RW.ext e3 (rd_ok S e2))⟩
            · exact p.elim
          · exact p.elim
        · exact p.elim
      · exact p.elim
  · exact p.elim
def vExtend : MF := fun v vs M => match v, vs with
  | .obj i, [w] => match M[i]?, trackD w M with
    | some (.lst us), some ds => if us.length + ds.length ≤ 16777216 then .ok (.d .none) (M.set i (.lst (us ++ ds.map .d))) else .bad
    | _, _ => .bad
  | _, _ => .bad
theorem mz_extend : MtZ X rExtend vExtend := by
  intro W G M σ H Q x v xs vs S r1 r2 p
  unfold vExtend at p
  split at p
  · rename_i i w
    obtain ⟨a, rfl, hi⟩ := r1
    cases r2 with
    | @cons y _ _ _ r2 r3 =>
      cases r3
      split at p
      · rename_i us ds ho hd
        obtain ⟨nF, zs, hx, rx⟩ := S.obj i a _ hi ho
        obtain ⟨b, ys, rfl, hb, rb⟩ := trackD_ok S r2 hd
        split at p
        · rename_i hl
          obtain ⟨S2, e2⟩ := write_lst S hi ho (Paired.app rx (RVs.rws rb))
          exact ⟨a, b, zs, ys, rfl, rfl, hx, hb, by rw [Paired.len rx, rb.len]; exact hl, p G _ _ e2 S2 RV.non⟩
        · exact p.elim
      · exact p.elim
  · exact p.elim
def vInsert : MF := fun v vs M => match v, vs with
  | .obj i, [.d (.int k), w] => match M[i]? with
    | some (.lst us) => if us.length < 16777216 ∧ 0 ≤ k ∧ k < 9223372036854775808 then .ok (.d .none) (M.set i (.lst (us.take k.toNat ++ [w] ++ us.drop k.toNat))) else .bad
    | _ => .bad
  | _, _ => .bad
theorem mz_insert : MtZ X (fun x vs H Q => ∃ (l : Addr) (xs : List V) (i : Int) (y : V), x = .ref l ∧ vs = [.int i, y] ∧ H l = some (.lst xs) ∧ xs.length < sizeLine ∧ 0 ≤ i ∧ i < 2 ^ 63 ∧
    Q .non (upd H l (.lst (xs.take i.toNat ++ [y] ++ xs.drop i.toNat)))) vInsert := by
  intro W G M σ H Q x v xs vs S r1 r2 p
  unfold vInsert at p
  split at p
  · rename_i i k w
    obtain ⟨a, rfl, hi⟩ := r1
    cases r2 with
    | @cons y _ _ _ r2 r3 =>
      cases r3 with
      | @cons z _ _ _ r3 r4 =>
        cases r4
        have r2 : RV X.K G.F H y (.int k) := r2
        cases r2
        split at p
        · rename_i us ho
          obtain ⟨nF, zs, hx, rx⟩ := S.obj i a _ hi ho
          split at p
          · rename_i hk
            obtain ⟨S2, e3⟩ := write_lst S hi ho (Paired.app (Paired.app (Paired.take k.toNat rx) (.cons r3 .nil)) (Paired.drop k.toNat rx))
            exact ⟨a, zs, k, z, rfl, rfl, hx, by rw [Paired.len rx]; exact hk.1, hk.2.1, by have := hk.2.2; omega, p G _ _ e3 S2 RV.non⟩
          · exact p.elim
        · exact p.elim
  · exact p.elim

/-! ### o[i] = v -/
abbrev SetF := Val → Val → Val → Mm → Option Mm
def SetZ (X : Cx) (t : TSet) (f : SetF) : Prop := ∀ (G : Gh) (M : Mm) (H : Hp) (Q : Hp → Prop) (o i x : V) (vo vi v : Val), SimM X.K X.mg G M H → RW X.K G H o vo → RW X.K G H i vi → RW X.K G H x v →
  (match f vo vi v M with
    | some M' => ∀ G' H', Ext G H G' H' → SimM X.K X.mg G' M' H' → Q H'
    | none => False) → t o i x H Q
def gSet (mo mi : EM) (f : SetF) : GM := fun v s M => match mo s M with
  | .ok o M1 => match mi s M1 with
    | .ok i M2 => (f o i v M2).map fun M3 => (s, M3)
    | _ => none
  | _ => none
theorem sg_sub {o i : Expr} {mo mi : EM} {t : TSet} {f : SetF} (ho : ∀ W, SE X W o mo) (hi : ∀ W, SE X W i mi) (hs : PSet X t) (z : SetZ X t f)
    (ha : ∀ v, assign (.Subscript o i pos) X.env v = (do
      let ov ← holding [v] (eval o X.env)
      let iv ← holding [v, ov] (eval i X.env)
      standAt pos
      holding [v, ov, iv] (setItem ov iv v)
      release [v, ov, iv] []) := by intro _; rfl) : SG X (.Subscript o i pos) (gSet mo mi f) := by
  refine ⟨pgImp (pg_sub (ho fun _ _ _ _ => False).pe (hi fun _ _ _ _ => False).pe hs ha) fun x σ H Q ⟨G, s, M, v, S, N, r, p⟩ => ?_⟩
  unfold gSet at p
  refine ⟨G, s, M, S, N, ?_⟩
  cases q : mo s M with
  | bad => rw [q] at p; exact p.elim
  | er _ _ => rw [q] at p; exact p.elim
  | ok vo M1 =>
    rw [q] at p
    refine fun G1 H1 xo e1 S1 r1 => ⟨G1, s, M1, S1, N.ext e1, ?_⟩
    dsimp only at p
    cases q2 : mi s M1 with
    | bad => rw [q2] at p; exact p.elim
    | er _ _ => rw [q2] at p; exact p.elim
    | ok vi M2 =>
      rw [q2] at p
      dsimp only at p
      refine fun G2 H2 xi e2 S2 r2 => z G2 M2 H2 _ xo xi x vo vi v S2 (RW.ext e2 r1) r2 (RW.ext (e1.trans e2) r) ?_
      cases q3 : f vo vi v M2 with
      | none => rw [q3] at p; exact p.elim
      | some M3 => rw [q3] at p; exact fun G3 H3 e3 S3 => p G3 H3 σ ((e1.trans e2).trans e3) S3 (((N.ext e1).ext e2).ext e3)
def vSetL : SetF := fun o i v M => match o, i with
  | .obj j, .d (.int k) => match M[j]? with
    | some (.lst vs) => match ixN vs.length k with
      | some n => some (M.set j (.lst (vs.set n v)))
      | none => none
    | _ => none
  | _, _ => none
theorem sz_list : SetZ X rSetL vSetL := by
  intro G M H Q o i x vo vi v S r1 r2 r3 p
  unfold vSetL at p
  split at p
  · rename_i M' e
    split at e
    · rename_i j k
      obtain ⟨a, rfl, hj⟩ := r1
      have r2 : RV X.K G.F H i (.int k) := r2
      cases r2
      split at e
      · rename_i vs ho
        obtain ⟨nF, zs, hx, rx⟩ := S.obj j a _ hj ho
        split at e
        · rename_i n hn
          cases e
          obtain ⟨S2, e3⟩ := write_lst S hj ho (Paired.setP r3 n rx)
          exact ⟨a, zs, k, n, rfl, rfl, hx, by rw [Paired.len rx]; exact hn, p G _ e3 S2⟩
        · cases e
      · cases e
    · cases e
  · exact p.elim
end
end Zm
namespace Zm
open PySem PySem.Spec PyProof.Rows L2

/-! ### enumerate of a tuple -/
set_option maxHeartbeats 1000000 in
theorem meets_enum1 {v : Value} {o : Obj} {H : Heap → Prop} (B : Begins v o H) :
    Meets (Builtin.«enumerate.__new__» ⟨[.type "enumerate", v], []⟩) (fun _ R s => H s.heap ∧
      R (.ok (.ret (.ref (s.heap.push o).objs.size))) { s with heap := (s.heap.push o).push { cls := .type "enumerate", data := .fields #[.none, .bool false, .ref s.heap.objs.size, rawInt 0, .none, .none] } }) := by
  refine Meets.of_wp fun prog w A R s h => ?_
  obtain ⟨hp, g, d, tk, os⟩ := s
  obtain ⟨h1, h⟩ := h
  have hsub := sub_enumerate
  have beg : ∀ {A' : Around} {E : Value → Shared → Prop} {Q : Value → Shared → Prop}, Q (.ref hp.objs.size) ⟨hp.push o, g, d, tk, os⟩ → wpAny (model prog w) A' (pyIter v) Q E ⟨hp, g, d, tk, os⟩ := by
    intro A' E Q q
    exact B.iter prog w _ _ ⟨hp, g, d, tk, os⟩ _ h1 q
  wp_walk using beg
  refine wpAny_stack_any fun st => wpAny_pure ?_
  split
  · rename_i c _ _ _ _ _
    cases (c == Value.type "enumerate") <;> (wp_walk using beg; exact ⟨_, rfl, h⟩)
  · wp_walk using beg
    exact ⟨_, rfl, h⟩
section
variable {prog : Program} {w : World} {A : Around} {E : Value → Shared → Prop} {s : Shared}
theorem call_enum1 {v : Value} {o : Obj} {H : Heap → Prop} {Q : Value → Shared → Prop} (B : Begins v o H) (h1 : H s.heap)
    (h : ∀ h', IsEnum h' (s.heap.objs.size + 1) s.heap.objs.size 0 .none → h'.get? s.heap.objs.size = some o → (∀ b o, s.heap.get? b = some o → h'.get? b = some o) → Q (.ref (s.heap.objs.size + 1)) { s with heap := h' }) :
    wpAny (model prog w) A (call (.type "enumerate") [v]) Q E s := by
  refine callType_new F.called_enumerate (by decide) (F.typeCall_enumerate_1 _) (F.newCall_enumerate_1 _) (fun obj => F.args_object_init_2 obj _) F.entry_enumerate_new (meets_enum1 B) ⟨h1, ?_⟩
  have hz : (s.heap.push o).objs.size = s.heap.objs.size + 1 := Heap.size_push ..
  show _ ∧ _
  rw [hz]
  have he : IsEnum ((s.heap.push o).push { cls := .type "enumerate", data := .fields #[.none, .bool false, .ref s.heap.objs.size, rawInt 0, .none, .none] }) (s.heap.objs.size + 1) s.heap.objs.size 0 .none := by
    have q := Heap.get?_push_size (s.heap.push o) (o := { cls := .type "enumerate", data := .fields #[.none, .bool false, .ref s.heap.objs.size, rawInt 0, .none, .none] }) rfl
    rw [hz] at q
    exact q
  exact ⟨⟨_, he, rfl⟩, h _ he (Heap.get?_push_of_some _ (Heap.get?_push_size _ B.free)) fun b o x => Heap.get?_push_of_some _ (Heap.get?_push_of_some _ x)⟩
end
/-- the tuple at a, each item with its place in a new pair -/
def IteT (K : PySem.W.Frag) (a : Addr) : It :=
  ⟨fun i H => ∃ (xs : List V) (x : V), SqT K H a xs ∧ xs[i]? = some x, fun i H v H' => ∃ T x, v = .ref T ∧ H T = none ∧ H' = upd H T (.tup [.int (i : Nat), x]) ∧ ∀ xs, SqT K H a xs → xs[i]? = some x,
    fun i H => ∃ xs : List V, SqT K H a xs ∧ xs.length = i⟩
theorem turn_enumT {P : Program} {w : World} {K : PySem.W.Frag} {elts : List Expr} {kk : Nat} {tpos : Pos} (a e it : Addr) :
    Turn P w K (.Tuple elts kk tpos) (IteT K a) [e, it] e (fun i h => (∃ old, IsEnum h e it ((i : Nat) : Int) old) ∧ h.IsTupleIter it a i ∧ e ≠ it) where
  mem := by simp
  obj := by
    rintro i h ⟨⟨old, he⟩, ⟨o, ho, hc, hd⟩, _⟩ b hb
    have e' : b = e ∨ b = it := by simpa using hb
    rcases e' with rfl | rfl
    · exact ⟨_, he, fun v q => nomatch q⟩
    · exact ⟨o, ho, fun v q => by rw [hd] at q; cases q⟩
  keep := fun i h h' st k => let ⟨⟨old, he⟩, hi, hne⟩ := st; ⟨⟨old, k e (by simp) _ he⟩, hi.at fun o q => k it (by simp) o q, hne⟩
  item := by
    intro X hP hw hK hc i pins s σ H E I hf st hg
    subst hP hw hK
    obtain ⟨⟨old, he⟩, hit, hne⟩ := st
    obtain ⟨xs, x, hq, hx⟩ := hg
    obtain ⟨its, rv, p, hz⟩ := I.tuple hq
    obtain ⟨u, hu, ru⟩ := rv.get hx
    have hti : a ≠ it := by
      intro z
      obtain ⟨o, ho, hc', _⟩ := hit
      obtain ⟨o', ho', hc2, _⟩ := p
      rw [z, ho] at ho'
      cases ho'
      rw [hc'] at hc2
      exact absurd (Value.type.inj hc2) (by decide)
    have hte : e ≠ a := by
      intro z
      obtain ⟨o', ho', hc2, _⟩ := p
      have he' : s.heap.get? e = _ := he
      rw [z, ho'] at he'
      cases he'
      exact absurd (Value.type.inj hc2) (by decide)
    have hel : e < s.heap.objs.size := Heap.lt_size he
    have hil : it < s.heap.objs.size := by obtain ⟨_, q, _⟩ := hit; exact Heap.lt_size q
    have D := Draws.tuple (prog := X.prog) (w := X.w) (A := X.A.in1) (show X.A.in1.handled = none from I.ok.hd hc) it a hti its.toArray
    have hlt : i < its.toArray.size := by
      have := (List.getElem?_eq_some_iff.mp hu).1
      simpa using this
    refine wpAny_pyNext_enum_itemD D he ⟨hit, p⟩ hlt hne (by simp [hne, hte]) fun y h' tk hy ho hst hT hsz hk => ?_
    have ey : y = u := by
      have hy : its.toArray[i]? = some y := hy
      have : its[i]? = some y := by simpa using hy
      rw [hu] at this
      exact (Option.some.inj this).symm
    subst ey
    refine ⟨_, rfl, wpAny_letOwnedTupleGo_enum (s := { s with heap := h', toks := tk + 1 }) ho fun h'' he' sb => ?_⟩
    have hT2 : h''.get? s.heap.objs.size = some { cls := .type "tuple", data := .seq #[.int i tk, y] } := (sb.2 _ (Nat.ne_of_gt hel)).trans hT
    have new : ObjOk X.prog X.w (upd H s.heap.objs.size (.tup [.int (i : Nat), x])) h'' s.heap.objs.size (.tup [.int (i : Nat), x]) :=
      ⟨by show 2 ≤ sizeLine; decide, [.int i tk, y], .cons ⟨_, rfl⟩ (.cons ru .nil), ⟨_, hT2, rfl, _, rfl⟩⟩
    have I1 : Inv X pins σ (upd H s.heap.objs.size (.tup [.int (i : Nat), x])) { s with heap := h'', toks := tk + 1 } := by
      refine I.turnedNew (ch := [e, it]) (fun b ob hb q => ?_) hf (Nat.le_refl _) new
      exact (sb.2 b (fun z => hb (by simp [z]))).trans (hk b ob (fun z => hb (by simp [z])) (fun z => hb (by simp [z])) q)
    refine ⟨.ref s.heap.objs.size, _, I1, rfl, ⟨_, x, rfl, I.hok.fresh (Nat.le_refl _), rfl, fun ys hy => by rw [I.tuple_inj hy hq]; exact hx⟩, ⟨⟨y, ?_⟩, hst.1.at fun o q => (sb.2 it (Ne.symm hne)).trans q, hne⟩, fun b hb => ?_⟩
    · have e1 : ((i + 1 : Nat) : Int) = (i : Int) + 1 := by omega
      rw [e1]; exact he'
    · have hb' : b < s.heap.objs.size := by
        have e' : b = e ∨ b = it := by simpa using hb
        rcases e' with rfl | rfl
        · exact hel
        · exact hil
      rw [upd_ne (Nat.ne_of_lt hb')]
      exact (hf b hb).1
  done := by
    intro X hP hw hK hc i pins s σ H E I hf st hg
    subst hP hw hK
    obtain ⟨⟨old, he⟩, hit, hne⟩ := st
    obtain ⟨xs, hq, hx⟩ := hg
    obtain ⟨its, rv, p, hz⟩ := I.tuple hq
    obtain ⟨f0, f1, f2, f3, f4, f5⟩ := hf it (by simp)
    have hl := rv.length
    have hti : a ≠ it := by
      intro z
      obtain ⟨o, ho, hc', _⟩ := hit
      obtain ⟨o', ho', hc2, _⟩ := p
      rw [z, ho] at ho'
      cases ho'
      rw [hc'] at hc2
      exact absurd (Value.type.inj hc2) (by decide)
    have D := Draws.tuple (prog := X.prog) (w := X.w) (A := X.A.in1) (show X.A.in1.handled = none from I.ok.hd hc) it a hti its.toArray
    have ei : i = its.toArray.size := by simp; omega
    exact wpAny_pyNext_enum_endD D he (by rw [← ei]; exact ⟨hit, p⟩) fun h' eb => ⟨rfl, I.turned (t' := s.toks) (fun b o hb q => eb b o hb q) f0 f1 f3 f4 f5⟩
  self := fun A i s Q E st h => let ⟨⟨_, he⟩, _⟩ := st; wpAny_pyIter_enum he h
def iEnumT (K : PySem.W.Frag) (ta : TA) : TI := fun σ H R => ta σ H fun vs H1 => ∃ a xs, vs = [.ref a] ∧ SqT K H1 a xs ∧ R (IteT K a) H1
theorem pi_enumT {X : Cx} {e : Expr} {ta : TA} {p pos tpos : Pos} {elts : List Expr} {kk : Nat} (hg : Gl X "enumerate") (hm : X.mg "enumerate" = none) (ha : PA X [e] ta) (hs : starEach [e] X.env = [(false, eval e X.env)] := by rfl) :
    PI X (.Tuple elts kk tpos) (.Call (.Name "enumerate" p) [e] [] pos) (iEnumT X.K ta) := by
  refine ⟨fun pins s σ H R I h => ?_⟩
  refine Call_ (ld_blt I hg hm boot_enumerate (PyProof.Rows.callWith_type1 (thn (ha.run pos pins s σ H _ I h) fun us s1 ⟨vs, H1, I1, r1, a, xs, ex, hq, q⟩ => ?_) hs rfl))
  subst ex
  cases r1 with
  | cons r rr =>
    cases rr
    cases r
    obtain ⟨its, rv, p', hz⟩ := I1.tuple hq
    refine call_enum1 (begins_tuple a its.toArray) p' fun h' he hit hk => wpAny_pyIter_enum he ?_
    have I2 : Inv X pins σ H1 { s1 with heap := h' } := I1.kept (t' := s1.toks) hk
    refine ⟨s1.heap.objs.size + 1, [s1.heap.objs.size + 1, s1.heap.objs.size], _, _, H1, rfl, I2, turn_enumT a (s1.heap.objs.size + 1) s1.heap.objs.size, ⟨⟨.none, he⟩, ⟨_, hit, rfl, rfl⟩, Nat.succ_ne_self _⟩, fun b hb => ?_, q⟩
    have e' : b = s1.heap.objs.size + 1 ∨ b = s1.heap.objs.size := by simpa using hb
    have hle : s1.heap.objs.size ≤ b := by
      rcases e' with z | z
      · rw [z]; exact Nat.le_add_right _ _
      · rw [z]; exact Nat.le_refl _
    exact I1.fpOk hle (I1.hok.fresh hle)

/-! ### what is walked, by values -/
section
variable {X : Cx} {W : WX}
theorem goes_list {K : PySem.W.Frag} {mg : Str → Option Value} {G : Gh} {H : Hp} {a : Addr} {xs : List V} {ds : List PyData} (hF : G.F a) (hx : H a = some (.lst xs)) (r : RVs K G.F H xs ds) : Goes K mg G H (Itl K a) (ds.map .d) := by
  intro G' H' e
  have hs : SqL K H' a xs := SqL.of (by rw [(e.fix a hF).2]; exact hx)
  have r' := RVs.ext e _ _ r
  refine ⟨fun i hi => ?_, ⟨xs, hs, by rw [List.length_map, r.len]; exact Nat.le_refl _⟩, fun i v hv M' S' x H'' ⟨e1, hy⟩ => ?_⟩
  · have hi' : i < xs.length := by rw [r.len]; simpa using hi
    exact ⟨xs, xs[i], hs, List.getElem?_eq_getElem hi'⟩
  · subst e1
    obtain ⟨x', e2, e3⟩ := RWs.get (RVs.rws r') hv
    have := hy xs hs
    rw [this] at e2
    cases e2
    exact ⟨G', .refl, S', e3⟩
theorem goes_scr {K : PySem.W.Frag} {mg : Str → Option Value} {G : Gh} {H : Hp} {a : Addr} {ns : List Int} (h : Scr K H a (ns.map V.int)) : Goes K mg G H (Itl K a) (ns.map fun n => .d (.int n)) := by
  intro G' H' e
  have hs : SqL K H' a (ns.map V.int) := (Scr.ext e h).sql
  refine ⟨fun i hi => ?_, ⟨_, hs, by simp⟩, fun i v hv M' S' x H'' ⟨e1, hy⟩ => ?_⟩
  · have hi' : i < (ns.map V.int).length := by simpa using hi
    exact ⟨_, _, hs, List.getElem?_eq_getElem hi'⟩
  · subst e1
    have h1 := hy _ hs
    rw [List.getElem?_map] at h1 hv
    cases q : ns[i]? with
    | none => rw [q] at hv; cases hv
    | some n =>
      rw [q] at h1 hv
      cases h1; cases hv
      exact ⟨G', .refl, S', RV.int n⟩
theorem goes_tup {K : PySem.W.Frag} {mg : Str → Option Value} {G : Gh} {H : Hp} {a : Addr} {xs : List V} {ds : List PyData} (hx : SqT K H a xs) (r : RVs K G.F H xs ds) : Goes K mg G H (Itt K a) (ds.map .d) := by
  intro G' H' e
  have hs : SqT K H' a xs := SqT.ext e hx
  have r' := RVs.ext e _ _ r
  refine ⟨fun i hi => ?_, ⟨xs, hs, by rw [List.length_map, r.len]; exact Nat.le_refl _⟩, fun i v hv M' S' x H'' ⟨e1, hy⟩ => ?_⟩
  · have hi' : i < xs.length := by rw [r.len]; simpa using hi
    exact ⟨xs, xs[i], hs, List.getElem?_eq_getElem hi'⟩
  · subst e1
    obtain ⟨x', e2, e3⟩ := RWs.get (RVs.rws r') hv
    have := hy xs hs
    rw [this] at e2
    cases e2
    exact ⟨G', .refl, S', e3⟩
theorem si_seq {tg e : Expr} {m : EM} (h : SE X W e m) (hL : PI X tg e (iList X.K (TEm X.K X.mg W m))) (hT : PI X tg e (iTup X.K (TEm X.K X.mg W m))) : SI X W tg e (mIt m) := by
  refine ⟨piImp (piOr hL hT) fun σ H R ⟨G, s, M, S, N, p⟩ => ?_⟩
  unfold mIt at p
  cases q : m s M with
  | bad => rw [q] at p; exact p.elim
  | er y M' => rw [q] at p; exact .inl ⟨G, s, M, S, N, by rw [q]; exact p⟩
  | ok v M1 =>
    rw [q] at p
    replace p : Post X.K X.mg W G σ H (fun G' H' J vs => Goes X.K X.mg G' H' J vs) R (itK v M1) := p
    unfold itK at p
    split at p
    · rename_i ds
      refine .inl ⟨G, s, M, S, N, ?_⟩
      rw [q]
      intro G1 H1 x e1 S1 r1
      have r1 : RV X.K G1.F H1 x (.list ds) := r1
      cases r1 with
      | lst h0 h1 h2 => exact ⟨_, rfl, ⟨_, SqL.of h1⟩, p G1 H1 _ e1 S1 (goes_list h0 h1 h2)⟩
    · rename_i ds
      refine .inr ⟨G, s, M, S, N, ?_⟩
      rw [q]
      intro G1 H1 x e1 S1 r1
      have r1 : RV X.K G1.F H1 x (.tuple ds) := r1
      cases r1 with
      | tup h1 h2 => exact ⟨_, rfl, ⟨_, SqT.of h1⟩, p G1 H1 _ e1 S1 (goes_tup (SqT.of h1) h2)⟩
    · rename_i ns
      refine .inl ⟨G, s, M, S, N, ?_⟩
      rw [q]
      intro G1 H1 x e1 S1 ⟨a, ex, h1⟩
      exact ⟨a, ex, ⟨_, h1.sql⟩, p G1 H1 _ e1 S1 (goes_scr h1)⟩
    · exact p.elim
def pairs0 (ds : List PyData) : List Val := ds.zipIdx.map fun p => .d (.tuple [.int (p.2 : Nat), p.1])
def enumK (vs : List Val) (M1 : Mm) : Out (List Val) := match vs with
  | [.d (.list ds)] => .ok (pairs0 ds) M1
  | [.d (.tuple ds)] => .ok (pairs0 ds) M1
  | _ => .bad
def mEnum (ms : AM) : AM := fun s M => (ms s M).bind enumK
theorem goes_enum {K : PySem.W.Frag} {mg : Str → Option Value} {G : Gh} {H : Hp} {J : It} {xs : List V} {ds : List PyData} (r : RVs K G.F H xs ds)
    (hgo : ∀ G' H', Ext G H G' H' → ∀ i, i < xs.length → J.go i H') (hst : ∀ G' H', Ext G H G' H' → J.stop xs.length H')
    (hy : ∀ G' H', Ext G H G' H' → ∀ i v H'', J.yld i H' v H'' → ∃ T x, v = .ref T ∧ H' T = none ∧ H'' = upd H' T (.tup [.int (i : Nat), x]) ∧ xs[i]? = some x) : Goes K mg G H J (pairs0 ds) := by
  intro G' H' e
  have r' := RVs.ext e _ _ r
  have hl : (pairs0 ds).length = xs.length := by simp [pairs0, r.len]
  refine ⟨fun i hi => hgo G' H' e i (by rw [← hl]; exact hi), by rw [hl]; exact hst G' H' e, fun i v hv M' S' x H'' y => ?_⟩
  obtain ⟨T, z, rfl, hT, rfl, hz⟩ := hy G' H' e i x H'' y
  obtain ⟨S2, e2⟩ := S'.lay (o := .tup [.int (i : Nat), z]) hT
  refine ⟨G', e2, S2, ?_⟩
  unfold pairs0 at hv
  rw [List.getElem?_map, List.getElem?_zipIdx] at hv
  cases q : ds[i]? with
  | none => rw [q] at hv; cases hv
  | some d =>
    rw [q] at hv
    obtain ⟨x', e3, e4⟩ := RVs.get r' q
    rw [hz] at e3
    cases e3
    have : v = .d (.tuple [.int ((0 + i : Nat) : Int), d]) := by simpa using hv.symm
    subst this
    rw [Nat.zero_add]
    exact RV.tup upd_same (.cons (.int _) (.cons (RV.ext e2 _ _ e4) .nil))
theorem si_enum {tg e : Expr} {ms : AM} (h : SA X W [e] ms) (hL : PI X tg i_ (iEnum X.K (TAm X.K X.mg W ms))) (hT : PI X tg i_ (iEnumT X.K (TAm X.K X.mg W ms))) : SI X W tg i_ (mEnum ms) := by
  refine ⟨piImp (piOr hL hT) fun σ H R ⟨G, s, M, S, N, p⟩ => ?_⟩
  unfold mEnum at p
  cases q : ms s M with
  | bad => rw [q] at p; exact p.elim
  | er y M' => rw [q] at p; exact .inl ⟨G, s, M, S, N, by rw [q]; exact p⟩
  | ok vs M1 =>
    rw [q] at p
    replace p : Post X.K X.mg W G σ H (fun G' H' J vs => Goes X.K X.mg G' H' J vs) R (enumK vs M1) := p
    unfold enumK at p
    split at p
    · rename_i ds
      refine .inl ⟨G, s, M, S, N, ?_⟩
      rw [q]
      intro G1 H1 x e1 S1 r1
      cases r1 with
      | cons r1 r2 =>
        cases r2
        have r1 : RV X.K G1.F H1 _ (.list ds) := r1
        cases r1 with
        | @lst a xs _ h0 h1 h2 =>
          have hs : ∀ G' H', Ext G1 H1 G' H' → SqL X.K H' a xs := fun G' H' e => SqL.of (by rw [(e.fix a h0).2]; exact h1)
          refine ⟨_, _, rfl, SqL.of h1, p G1 H1 _ e1 S1 (goes_enum h2 (fun G' H' e i hi => ⟨xs, xs[i], hs G' H' e, List.getElem?_eq_getElem hi⟩) (fun G' H' e => ⟨xs, hs G' H' e, Nat.le_refl _⟩) fun G' H' e i v H'' ⟨T, z, e1, e2, e3, e4⟩ => ⟨T, z, e1, e2, e3, e4 _ (hs G' H' e)⟩)⟩
    · rename_i ds
      refine .inr ⟨G, s, M, S, N, ?_⟩
      rw [q]
      intro G1 H1 x e1 S1 r1
      cases r1 with
      | cons r1 r2 =>
        cases r2
        have r1 : RV X.K G1.F H1 _ (.tuple ds) := r1
        cases r1 with
        | @tup a xs _ h1 h2 =>
          have hs : ∀ G' H', Ext G1 H1 G' H' → SqT X.K H' a xs := fun G' H' e => SqT.ext e (SqT.of h1)
          refine ⟨_, _, rfl, SqT.of h1, p G1 H1 _ e1 S1 (goes_enum h2 (fun G' H' e i hi => ⟨xs, xs[i], hs G' H' e, List.getElem?_eq_getElem hi⟩) (fun G' H' e => ⟨xs, hs G' H' e, rfl⟩) fun G' H' e i v H'' ⟨T, z, e1, e2, e3, e4⟩ => ⟨T, z, e1, e2, e3, e4 _ (hs G' H' e)⟩)⟩
    · exact p.elim
/-- range -/
def rangeL (lo : Int) (n : Nat) : List Val := (List.range n).map fun i => .d (.int (lo + (i : Nat)))
def smallR (i : Int) : Bool := decide (-4611686018427387904 ≤ i) && decide (i < 4611686018427387904)
def range1 (vs : List Val) (M1 : Mm) : Out (List Val) := match vs with
  | [.d (.int j)] => if smallR j then .ok (rangeL 0 j.toNat) M1 else .bad
  | _ => .bad
def range2 (vs : List Val) (M1 : Mm) : Out (List Val) := match vs with
  | [.d (.int i), .d (.int j)] => if smallR i && smallR j then .ok (rangeL i (j - i).toNat) M1 else .bad
  | _ => .bad
def mRange1 (ms : AM) : AM := fun s M => (ms s M).bind range1
def mRange2 (ms : AM) : AM := fun s M => (ms s M).bind range2
theorem smallR_ok {i : Int} (h : smallR i = true) : -(2 ^ 62) ≤ i ∧ i < 2 ^ 62 := by
  unfold smallR at h
  rw [Bool.and_eq_true, decide_eq_true_eq, decide_eq_true_eq] at h
  exact ⟨by have := h.1; omega, by have := h.2; omega⟩
theorem goes_range {K : PySem.W.Frag} {mg : Str → Option Value} {G : Gh} {H : Hp} (lo : Int) (n : Nat) : Goes K mg G H (Itr lo n) (rangeL lo n) := by
  intro G' H' e
  refine ⟨fun i hi => by simpa [rangeL, Itr] using hi, by simp [rangeL, Itr], fun i v hv M' S' x H'' ⟨e1, e2⟩ => ?_⟩
  subst e1 e2
  unfold rangeL at hv
  rw [List.getElem?_map, List.getElem?_range] at hv
  · have : v = .d (.int (lo + (i : Nat))) := by simpa using hv.symm
    subst this
    exact ⟨G', .refl, S', RV.int _⟩
  · by_cases hi : i < n
    · exact hi
    · have : (List.range n)[i]? = none := List.getElem?_eq_none_iff.mpr (by simpa using Nat.le_of_not_lt hi)
      rw [this] at hv
      cases hv
theorem si_range1 {tg i_ : Expr} {ms : AM} (h : PI X tg i_ (iRng1 (TAm X.K X.mg W ms))) : SI X W tg i_ (mRange1 ms) := by
  refine ⟨piImp h fun σ H R ⟨G, s, M, S, N, p⟩ => ⟨G, s, M, S, N, Post.bind p fun vs M1 G1 H1 xs e1 S1 r1 p1 => ?_⟩⟩
  unfold range1 at p1
  split at p1
  · rename_i j
    cases r1 with
    | cons r1 r2 =>
      cases r2
      have r1 : RV X.K G1.F H1 _ (.int j) := r1
      cases r1
      split at p1
      · rename_i hj
        exact ⟨j, rfl, (smallR_ok hj).1, (smallR_ok hj).2, p1 G1 H1 _ .refl S1 (goes_range 0 _)⟩
      · exact p1.elim
  · exact p1.elim
theorem si_range2 {tg i_ : Expr} {ms : AM} (h : PI X tg i_ (iRng2 (TAm X.K X.mg W ms))) : SI X W tg i_ (mRange2 ms) := by
  refine ⟨piImp h fun σ H R ⟨G, s, M, S, N, p⟩ => ⟨G, s, M, S, N, Post.bind p fun vs M1 G1 H1 xs e1 S1 r1 p1 => ?_⟩⟩
  unfold range2 at p1
  split at p1
  · rename_i i j
    cases r1 with
    | cons r1 r2 =>
      cases r2 with
      | cons r2 r3 =>
        cases r3
        have r1 : RV X.K G1.F H1 _ (.int i) := r1
        have r2 : RV X.K G1.F H1 _ (.int j) := r2
        cases r1; cases r2
        split at p1
        · rename_i hj
          rw [Bool.and_eq_true] at hj
          exact ⟨i, j, rfl, ⟨(smallR_ok hj.1).1, (smallR_ok hj.1).2, (smallR_ok hj.2).1, (smallR_ok hj.2).2⟩, p1 G1 H1 _ .refl S1 (goes_range i _)⟩
        · exact p1.elim
  · exact p1.elim
/-- from one to a number, counted as a list of ints where it is read as a list -/
theorem se_glob {x : Str} {pos : Pos} {v : V} {u : Value} {y : PyData} (hg : Gl X x) (hm : X.mg x = some u) (r : RelV v u) (rv : ∀ F H, RV X.K F H v y) (h : PE X (.Name x pos) (tC v)) : SE X W (.Name x pos) (mC y) := se_c h rv
end
end Zm
namespace Zm
open PySem PySem.Spec PyProof.Rows L2

section
variable {K : PySem.W.Frag} {mg : Str → Option Value} {G G' : Gh} {H H' : Hp} {M : Mm}
theorem Ext.side (e : Ext G H G' H') {p : Addr} {o : HO} (hp : H p = none) (hF : ¬ G.F p) : Ext G H G' (upd H' p o) := by
  have ne : ∀ a, H a ≠ none → a ≠ p := fun a h z => h (z ▸ hp)
  refine ⟨⟨e.φ, fun a xs h => ?_, fun a q u h => ?_, fun a h => ?_⟩, fun a h h2 => ?_, e.φnew, e.Fnew⟩
  · rw [upd_ne (ne a (by rw [h]; simp))]; exact e.tup a xs h
  · rw [upd_ne (ne a (by rw [h]; simp))]; exact e.frz a q u h
  · have z : a ≠ p := fun z => hF (z ▸ h)
    rw [upd_ne z]; exact e.fix a h
  · rw [upd_ne (ne a h)]; exact e.keep a h h2
theorem ext0_side {p : Addr} {o : HO} (hF : ¬ G.F p) (ht : ∀ xs, H p ≠ some (.tup xs)) (hz : ∀ q u, H p ≠ some (.frz q u)) : Ext0 G H G (upd H p o) := by
  refine ⟨⟨[], by simp⟩, fun a xs h => ?_, fun a q u h => ?_, fun a h => ⟨h, ?_⟩⟩
  · rw [upd_ne (fun z => ht xs (by rw [← z]; exact h))]; exact h
  · rw [upd_ne (fun z => hz q u (by rw [← z]; exact h))]; exact h
  · exact upd_ne (fun z => hF (by rw [← z]; exact h))
theorem SimM.side (S : SimM K mg G M H) {p : Addr} {o : HO} (hp : p ∉ G.φ) (hF : ¬ G.F p) (ht : ∀ xs, H p ≠ some (.tup xs)) (hz : ∀ q u, H p ≠ some (.frz q u)) : SimM K mg G M (upd H p o) := by
  have e := ext0_side (o := o) hF ht hz
  refine S.grow e rfl (fun a h => upd_ne fun z => hp (z ▸ h)) (fun _ _ h => h) fun a h => ?_
  rw [(e.fix a h).2]
  exact S.fthere a h
end
def wipeS (s : Sl) : List Nat → Sl
  | [] => s
  | i :: is => (wipeS s is).set i none
theorem wipeS_len (s : Sl) : ∀ is, (wipeS s is).length = s.length
  | [] => rfl
  | i :: is => by unfold wipeS; rw [List.length_set, wipeS_len s is]
theorem simS_wipe {K : PySem.W.Frag} {G : Gh} {s : Sl} {σ : L2.St} {H : Hp} (N : SimS K G s σ H) : ∀ is, SimS K G (wipeS s is) (wipe σ is) H
  | [] => N
  | i :: is => by
    have ih := simS_wipe N is
    unfold wipeS wipe
    refine ⟨by simp [ih.len], fun j v q => ?_⟩
    by_cases hj : i = j
    · subst hj
      by_cases hl : i < (wipeS s is).length
      · rw [List.getElem?_set_self hl] at q; cases q
      · have : ((wipeS s is).set i none)[i]? = none := List.getElem?_eq_none_iff.mpr (by rw [List.length_set]; omega)
        rw [this] at q; cases q
    · rw [List.getElem?_set_ne hj] at q
      obtain ⟨x, a, b⟩ := ih.at_ j v q
      exact ⟨x, by rw [List.getElem?_set_ne hj]; exact a, b⟩
/-- no exception leaves -/
def Out.noer {α : Type} (o : Out α) : Out α := match o with
  | .er _ _ => .bad
  | o => o
/-- the turns of a comprehension -/
def compL (g : GM) (t : TM) (e : EM) (s0 : Sl) : List Val → Mm → Out (List Val)
  | [], M => .ok [] M
  | v :: vs, M => match g v s0 M with
    | some (s1, M1) => (t s1 M1).noer.bind fun b M2 => if b = true then (e s1 M2).noer.bind fun y M3 => (compL g t e s0 vs M3).bind fun r M4 => .ok (y :: r) M4 else compL g t e s0 vs M2
    | none => .bad
theorem compL_noer {g : GM} {t : TM} {e : EM} {s0 : Sl} : ∀ (vs : List Val) (M : Mm) (x : Exc) (M' : Mm), compL g t e s0 vs M ≠ .er x M'
  | [], M, x, M' => fun h => by cases h
  | v :: vs, M, x, M' => by
    unfold compL
    cases g v s0 M with
    | none => exact fun h => by cases h
    | some q =>
      obtain ⟨s1, M1⟩ := q
      dsimp only
      cases t s1 M1 with
      | bad => exact fun h => by cases h
      | er _ _ => exact fun h => by cases h
      | ok b M2 =>
        cases b with
        | false => exact compL_noer vs M2 x M'
        | true =>
          show ((e s1 M2).noer.bind fun y M3 => (compL g t e s0 vs M3).bind fun r M4 => Out.ok (y :: r) M4) ≠ _
          cases e s1 M2 with
          | bad => exact fun h => by cases h
          | er _ _ => exact fun h => by cases h
          | ok y M3 =>
            show ((compL g t e s0 vs M3).bind fun r M4 => Out.ok (y :: r) M4) ≠ _
            have ih := compL_noer (g := g) (t := t) (e := e) (s0 := s0) vs M3 x M'
            cases q : compL g t e s0 vs M3 with
            | bad => exact fun h => by cases h
            | er a b =>
              rw [q] at ih
              exact ih
            | ok r M4 => exact fun h => by cases h
/-- a comprehension; k: what becomes of the list (lcK: by value, lcN: at a place) -/
def mComp (k : List Val → Mm → Out Val) (it : AM) (g : GM) (t : TM) (e : EM) (own : List Nat) : EM := fun s M => (it s M).bind fun vs M1 => (compL g t e (wipeS s own) vs M1).bind k
/-- the target of a comprehension stores its own names alone -/
def OwnG (g : TG) (vs : List Nat) : Prop := ∀ x σ H Q, g x (wipe σ vs) H Q → g x (wipe σ vs) H fun σ2 H2 => wipe σ2 vs = wipe σ vs ∧ Q σ2 H2
abbrev W0 : WX := fun _ _ _ _ => False
theorem wipe_set {σ : L2.St} {i : Nat} {v : Option V} : ∀ {vs : List Nat}, i ∈ vs → wipe (σ.set i v) vs = wipe σ vs
  | [], h => by cases h
  | j :: vs, h => by
    unfold wipe
    by_cases hi : i ∈ vs
    · rw [wipe_set hi]
    · have hij : i = j := by
        rcases List.mem_cons.mp h with h | h
        · exact h
        · exact absurd h hi
      subst hij
      have comm : ∀ (ws : List Nat), i ∉ ws → wipe (σ.set i v) ws = (wipe σ ws).set i v := by
        intro ws
        induction ws with
        | nil => intro _; rfl
        | cons k ws ih =>
          intro hk
          unfold wipe
          rw [ih (fun z => hk (List.mem_cons_of_mem _ z)), List.set_comm _ _ (fun z => hk (by rw [← z]; exact List.mem_cons_self))]
      rw [comm vs hi, List.set_set]
theorem wipe_idem {σ : L2.St} {vs : List Nat} : wipe (wipe σ vs) vs = wipe σ vs := by
  have len : ∀ (τ : L2.St) (ws : List Nat), (wipe τ ws).length = τ.length := wipe_length
  have key : ∀ (ws us : List Nat) (τ : L2.St), (∀ i ∈ ws, i ∈ us) → wipe (wipe τ us) ws = wipe τ us := by
    intro ws
    induction ws with
    | nil => intro us τ _; rfl
    | cons i ws ih =>
      intro us τ h
      show (wipe (wipe τ us) ws).set i none = wipe τ us
      rw [ih us τ fun j hj => h j (List.mem_cons_of_mem _ hj)]
      have hi := h i List.mem_cons_self
      refine List.ext_getElem? fun j => ?_
      by_cases hj : i = j
      · subst hj
        by_cases hl : i < (wipe τ us).length
        · rw [List.getElem?_set_self hl]
          cases q : (wipe τ us)[i]? with
          | none => exact absurd (List.getElem?_eq_none_iff.mp q) (by omega)
          | some o =>
            cases o with
            | none => rfl
            | some x => exact absurd hi (wipe_some q).2
        · rw [List.getElem?_eq_none_iff.mpr (by rw [List.length_set]; omega), List.getElem?_eq_none_iff.mpr (by omega)]
      · rw [List.getElem?_set_ne hj]
  exact key vs vs σ fun _ h => h
/-- a target that stores own names alone -/
def TGo (K : PySem.W.Frag) (mg : Str → Option Value) (own : List Nat) (g : GM) : TG := fun x σ H Q => ∃ G s M v, SimM K mg G M H ∧ SimS K G s σ H ∧ RW K G H x v ∧ PostG K mg G H (fun σ' H' => wipe σ' own = wipe σ own → Q σ' H') (g v s M)
def TGos (K : PySem.W.Frag) (mg : Str → Option Value) (own : List Nat) (g : GMs) : TGs := fun xs σ H Q => ∃ G s M vs, SimM K mg G M H ∧ SimS K G s σ H ∧ RWs K G H xs vs ∧ PostG K mg G H (fun σ' H' => wipe σ' own = wipe σ own → Q σ' H') (g vs s M)
structure SGo (X : Cx) (own : List Nat) (e : Expr) (m : GM) : Prop where
  pg : PG X e (TGo X.K X.mg own m)
structure SGos (X : Cx) (own : List Nat) (e : List Expr) (m : GMs) : Prop where
  pgs : PGs X e (TGos X.K X.mg own m)
section
variable {X : Cx} {own : List Nat}
theorem sgo_name {i : Nat} {e : Expr} (hi : i ∈ own) (h : PG X e (gName i)) : SGo X own e (gN i) :=
  ⟨pgImp h fun x σ H Q ⟨G, s, M, v, S, N, r, p⟩ => p G H _ .refl S (N.set r) (wipe_set hi)⟩
theorem sgos_nil : SGos X own [] gsNil := by
  refine ⟨pgsImp pgs_nil fun xs σ H Q ⟨G, s, M, vs, S, N, r, p⟩ => ?_⟩
  cases r with
  | nil => exact ⟨rfl, p G H σ .refl S N rfl⟩
  | cons r1 r2 => exact p.elim
theorem sgos_cons {e : Expr} {es : List Expr} {g : GM} {gs : GMs} (h : SGo X own e g) (h2 : SGos X own es gs) (hs : (assignEach (e :: es) X.env).map (·.2) = assign e X.env :: (assignEach es X.env).map (·.2) := by rfl) : SGos X own (e :: es) (gsCons g gs) := by
  refine ⟨pgsImp (pgs_cons h.pg h2.pgs hs) fun xs σ H Q ⟨G, s, M, vs, S, N, r, p⟩ => ?_⟩
  cases r with
  | nil => exact p.elim
  | @cons x v xs vs r1 r2 =>
    refine ⟨x, xs, rfl, G, s, M, v, S, N, r1, ?_⟩
    have p : PostG X.K X.mg G H (fun σ' H' => wipe σ' own = wipe σ own → Q σ' H') ((g v s M).bind fun p => gs vs p.1 p.2) := p
    cases e : g v s M with
    | none => rw [e] at p; exact p.elim
    | some q =>
      rw [e] at p
      intro G' H' σ' e' S' N' hw
      refine ⟨G', q.1, q.2, vs, S', N', RWs.ext e' r2, ?_⟩
      have p2 := PostG.ext e' p
      cases e2 : gs vs q.1 q.2 with
      | none =>
        have p2 : PostG X.K X.mg G' H' _ (gs vs q.1 q.2) := p2
        rw [e2] at p2
        exact p2.elim
      | some q2 =>
        have p2 : PostG X.K X.mg G' H' (fun σ' H' => wipe σ' own = wipe σ own → Q σ' H') (gs vs q.1 q.2) := p2
        rw [e2] at p2
        exact fun G3 H3 σ3 e3 S3 N3 hw3 => p2 G3 H3 σ3 e3 S3 N3 (hw3.trans hw)
theorem sgo_tup {es : List Expr} {k : Nat} {pos : Pos} {g : GMs} {n : Nat} (hc : X.calm = true) (h : SGos X own es g) (hn : (assignEach es X.env).length = n := by rfl) (hst : (assignEach es X.env).findIdx? (·.1) = none := by rfl) : SGo X own (.Tuple es k pos) (gT n g) := by
  refine ⟨pgImp (pg_tup hc h.pgs hn hst) fun x σ H Q ⟨G, s, M, v, S, N, r, p⟩ => ?_⟩
  unfold gT at p
  split at p
  · rename_i ds
    split at p
    · rename_i hl
      have r : RV X.K G.F H x (.tuple ds) := r
      cases r with
      | tup h1 h2 => exact ⟨_, _, rfl, SqT.of h1, by rw [h2.len]; exact hl, G, s, M, _, S, N, RVs.rws h2, p⟩
    · exact p.elim
  · exact p.elim
end
structure STs (X : Cx) (W : WX) (e : List Expr) (m : TM) : Prop where
  pts : PTs X e (TTm X.K X.mg W m)
def mYes : TM := fun _ M => .ok true M
theorem sts_nil {X : Cx} {W : WX} : STs X W [] mYes := ⟨⟨fun pins s σ H Q I ⟨G, sl, M, S, N, p⟩ => pts_nil.run pins s σ H Q I (p G H true .refl S rfl)⟩⟩
theorem sts_one {X : Cx} {W : WX} {c : Expr} {m : TM} (h : ST X W c m) : STs X W [c] m := ⟨pts_one h.pt⟩
section
variable {X : Cx} {W : WX}
theorem lc_sound {wi : TI} {it : AM} {gt : TG} {g : GM} {tt : TT} {t : TM} {te : TE} {e : EM} {own : List Nat} {k : List Val → Mm → Out Val}
    (hg : ∀ x σ H Q, TGm X.K X.mg g x (wipe σ own) H Q → gt x (wipe σ own) H fun σ2 H2 => wipe σ2 own = wipe σ own ∧ Q σ2 H2)
    (ht : ∀ σ H Q, TTm X.K X.mg W0 t σ H Q → tt σ H Q) (he : ∀ σ H Q, TEm X.K X.mg W0 e σ H Q → te σ H Q) (hw : ∀ σ H R, TIm X.K X.mg W it σ H R → wi σ H R)
    (hk : ∀ (G : Gh) (us : List Val) (M : Mm) (σ : L2.St) (H0 H : Hp) (D : Addr) (xs : List V) (G0 : Gh) (Q : VK), Ext G0 H0 G H → H0 D = none → ¬ G0.F D → SimM X.K X.mg G M H → D ∉ G.φ → ¬ G.F D → H D = some (.lst xs) → RWs X.K G H xs us → us.length ≤ sizeLine →
      Post X.K X.mg W G0 σ H0 (fun G' H' x v => RW X.K G' H' x v) Q (k us M) → Q (.ref D) H)
    (hs : ∀ us M, us.length > sizeLine → k us M = .bad) {σ : L2.St} {H : Hp} {Q : VK}
    (h : TEm X.K X.mg W (fun s M => (it s M).bind fun vs M1 => (compL g t e (wipeS s own) vs M1).bind k) σ H Q) : tLc wi gt tt te own σ H Q := by
  obtain ⟨G, s, M, S, N, p⟩ := h
  refine hw _ _ _ ⟨G, s, M, S, N, Post.bind p fun vs M1 G1 H1 J e1 S1 g1 p1 => fun D hD => ?_⟩
  have N1 := N.ext e1
  have nF1 : ¬ G1.F D := fun z => S1.fthere D z hD
  -- the state between two turns: what is made, what is to come
  refine ⟨fun i m H' => i + m = vs.length ∧ ∃ G' M' us xs, Ext G1 H1 G' H' ∧ SimM X.K X.mg G' M' H' ∧ D ∉ G'.φ ∧ ¬ G'.F D ∧ H' D = some (.lst xs) ∧ RWs X.K G' H' xs us ∧
      Post X.K X.mg W G1 σ H1 (fun G' H' x v => RW X.K G' H' x v) Q ((compL g t e (wipeS s own) (vs.drop i) M').bind fun r M2 => k (us ++ r) M2), ⟨vs.length, by omega, G1, M1, [], [], ?_⟩, ?_⟩
  · obtain ⟨S2, e2⟩ := S1.lay (o := .lst []) hD
    exact ⟨e2, S2, S1.newne hD, nF1, upd_same, .nil, by simpa using p1⟩
  rintro i m H' ⟨hm, G', M', us, xs, e', S', nφ, nF, hx, rx, p'⟩
  obtain ⟨q1, q2, q3⟩ := g1 G' H' e'
  by_cases hl : i < vs.length
  · refine .inr ⟨q1 i hl, fun H'' => ∃ G'' M'' us'' xs'', Ext G1 H1 G'' H'' ∧ SimM X.K X.mg G'' M'' H'' ∧ D ∉ G''.φ ∧ ¬ G''.F D ∧ H'' D = some (.lst xs'') ∧ RWs X.K G'' H'' xs'' us'' ∧
      Post X.K X.mg W G1 σ H1 (fun G' H' x v => RW X.K G' H' x v) Q ((compL g t e (wipeS s own) (vs.drop (i + 1)) M'').bind fun r M2 => k (us'' ++ r) M2), fun H'' h => ⟨m - 1, by omega, by omega, h⟩, fun x H'' y => ?_⟩
    obtain ⟨G2, e2, S2, r2⟩ := q3 i _ (List.getElem?_eq_getElem hl) M' S' x H'' y
    rw [List.drop_eq_getElem_cons hl] at p'
    unfold compL at p'
    have keepD : ∀ {Ga Gb : Gh} {Ha Hb : Hp}, Ext Ga Ha Gb Hb → D ∉ Ga.φ → ¬ Ga.F D → Ha D = some (.lst xs) → D ∉ Gb.φ ∧ ¬ Gb.F D ∧ Hb D = some (.lst xs) := by
      intro Ga Gb Ha Hb e a b c
      have nn : Ha D ≠ none := by rw [c]; simp
      refine ⟨fun z => (e.φnew D z).elim a nn, fun z => ?_, by rw [e.keep D nn a]; exact c⟩
      rcases e.Fnew D z with z | z | z
      · exact b z
      · exact nn z
      · exact a z
    obtain ⟨nφ2, nF2, hx2⟩ := keepD e2 nφ nF hx
    have rx2 := RWs.ext e2 rx
    refine hg x σ H'' _ ⟨G2, wipeS s own, M', vs[i], S2, simS_wipe (N1.ext (e'.trans e2)) own, r2, ?_⟩
    cases eg : g vs[i] (wipeS s own) M' with
    | none => rw [eg] at p'; exact p'.elim
    | some q =>
      obtain ⟨s1, M1'⟩ := q
      rw [eg] at p'
      dsimp only at p'
      intro G3 H3 σ3 e3 S3 N3
      obtain ⟨nφ3, nF3, hx3⟩ := keepD e3 nφ2 nF2 hx2
      have rx3 := RWs.ext e3 rx2
      refine ht _ _ _ ⟨G3, s1, M1', S3, N3, ?_⟩
      cases et : t s1 M1' with
      | bad => rw [et] at p'; exact p'.elim
      | er z M2 => rw [et] at p'; exact p'.elim
      | ok b M2 =>
        rw [et] at p'
        intro G4 H4 b' e4 S4 rb
        subst rb
        obtain ⟨nφ4, nF4, hx4⟩ := keepD e4 nφ3 nF3 hx3
        have rx4 := RWs.ext e4 rx3
        have eA := ((e'.trans e2).trans e3).trans e4
        cases b' with
        | false => exact ⟨G4, M2, us, xs, eA, S4, nφ4, nF4, hx4, rx4, p'⟩
        | true =>
          rw [if_pos rfl]
          have p' : Post X.K X.mg W G1 σ H1 (fun G' H' x v => RW X.K G' H' x v) Q (((e s1 M2).noer.bind fun y M3 => (compL g t e (wipeS s own) (vs.drop (i + 1)) M3).bind fun r M4 => .ok (y :: r) M4).bind fun r M2 => k (us ++ r) M2) := p'
          refine he _ _ _ ⟨G4, s1, M2, S4, N3.ext e4, ?_⟩
          cases ee : e s1 M2 with
          | bad => rw [ee] at p'; exact p'.elim
          | er z M3 => rw [ee] at p'; exact p'.elim
          | ok y M3 =>
            rw [ee] at p'
            have p' : Post X.K X.mg W G1 σ H1 (fun G' H' x v => RW X.K G' H' x v) Q (((compL g t e (wipeS s own) (vs.drop (i + 1)) M3).bind fun r M4 => .ok (y :: r) M4).bind fun r M2 => k (us ++ r) M2) := p'
            intro G5 H5 z e5 S5 rz
            obtain ⟨nφ5, nF5, hx5⟩ := keepD e5 nφ4 nF4 hx4
            have rx5 := RWs.ext e5 rx4
            have e0 := ext0_side (G := G5) (H := H5) (p := D) (o := .lst (xs ++ [z])) nF5 (fun xs z => by rw [hx5] at z; cases z) (fun q u z => by rw [hx5] at z; cases z)
            have p2 : Post X.K X.mg W G1 σ H1 (fun G' H' x v => RW X.K G' H' x v) Q ((compL g t e (wipeS s own) (vs.drop (i + 1)) M3).bind fun r M2 => k ((us ++ [y]) ++ r) M2) := by
              cases ec : compL g t e (wipeS s own) (vs.drop (i + 1)) M3 with
              | bad => rw [ec] at p'; exact p'
              | er a b => rw [ec] at p'; exact p'
              | ok r M4 =>
                rw [ec] at p'
                show Post _ _ _ _ _ _ _ _ (k ((us ++ [y]) ++ r) M4)
                rw [List.append_assoc]
                exact p'
            refine ⟨xs, hx5, ?_, G5, M3, us ++ [y], xs ++ [z], (eA.trans e5).side hD nF1, S5.side nφ5 nF5 (fun xs z => by rw [hx5] at z; cases z) (fun q u z => by rw [hx5] at z; cases z), nφ5, nF5, upd_same, RWs.ext0 e0 (Paired.app rx5 (.cons rz .nil)), p2⟩
            rw [Paired.len rx5]
            cases ec : compL g t e (wipeS s own) (vs.drop (i + 1)) M3 with
            | bad => rw [ec] at p2; exact p2.elim
            | er a b => exact (compL_noer _ _ _ _ ec).elim
            | ok r M4 =>
              rw [ec] at p2
              have p2 : Post X.K X.mg W G1 σ H1 (fun G' H' x v => RW X.K G' H' x v) Q (k ((us ++ [y]) ++ r) M4) := p2
              by_cases hz : (us ++ [y] ++ r).length > sizeLine
              · rw [hs _ _ hz] at p2
                exact p2.elim
              · simp only [List.length_append, List.length_cons, List.length_nil] at hz
                omega
  · have hi' : i = vs.length := by omega
    rw [hi', List.drop_length] at p'
    have p'' : Post X.K X.mg W G1 σ H1 (fun G' H' x v => RW X.K G' H' x v) Q (k us M') := by simpa [compL, Out.bind] using p'
    refine .inl ⟨hi' ▸ q2, hk G' us M' σ H1 H' D xs G1 Q e' hD nF1 S' nφ nF hx rx ?_ p''⟩
    by_cases hz : us.length > sizeLine
    · rw [hs _ _ hz] at p''
      exact p''.elim
    · omega
theorem go_wipe {own : List Nat} {g : GM} : ∀ x σ H Q, TGm X.K X.mg g x (wipe σ own) H Q → TGo X.K X.mg own g x (wipe σ own) H fun σ2 H2 => wipe σ2 own = wipe σ own ∧ Q σ2 H2 := by
  intro x σ H Q ⟨G, s, M, v, S, N, r, p⟩
  refine ⟨G, s, M, v, S, N, r, ?_⟩
  cases e : g v s M with
  | none => rw [e] at p; exact p
  | some q => rw [e] at p; exact fun G' H' σ' e' S' N' hw => ⟨by rw [hw, wipe_idem], p G' H' σ' e' S' N'⟩
variable {elt tg iter : Expr} {ifs : List Expr} {scope : Scope} {own : List (Str × Nat)} {pos : Pos} {it : AM} {g : GM} {t : TM} {e : EM}
def lcK (us : List Val) (M2 : Mm) : Out Val := match allD us with
  | some ds => if fitsL us.length then .ok (.d (.list ds)) M2 else .bad
  | none => .bad
def lcN (us : List Val) (M2 : Mm) : Out Val := if fitsL us.length then .ok (.obj M2.length) (M2 ++ [.lst us]) else .bad
theorem fitsL_no {n : Nat} (h : n > sizeLine) : fitsL n = false := decide_eq_false (by have e : sizeLine = 16777216 := sizeLine_eq; omega)
theorem lc_read {k : List Val → Mm → Out Val} {σ : L2.St} {H : Hp} {Q : VK} (hk : k = lcK ∨ k = lcN)
    (h : TEm X.K X.mg W (fun s M => (it s M).bind fun vs M1 => (compL g t e (wipeS s (own.map (·.2))) vs M1).bind k) σ H Q) :
    tLc (TIm X.K X.mg W it) (TGo X.K X.mg (own.map (·.2)) g) (TTm X.K X.mg W0 t) (TEm X.K X.mg W0 e) (own.map (·.2)) σ H Q := by
  refine lc_sound (fun x σ H Q => go_wipe x σ H Q) (fun _ _ _ h => h) (fun _ _ _ h => h) (fun _ _ _ h => h) (fun G us M σ H0 H D xs G0 Q e hD nF0 S nφ nF hx rx hz p => ?_) (fun us M hz => ?_) h
  · rcases hk with rfl | rfl
    · unfold lcK at p
      split at p
      · rename_i ds ed
        split at p
        · have e2 : Ext0 G H (G.fix D) H := ⟨⟨[], by simp [Gh.fix]⟩, fun _ _ h => h, fun _ _ _ h => h, fun b h => ⟨.inr h, rfl⟩⟩
          have S2 : SimM X.K X.mg (G.fix D) M H := S.grow e2 rfl (fun _ _ => rfl) (fun a ha h z => z.elim (fun z => nφ (z ▸ ha)) h) (fun a h => h.elim (fun z => by rw [z, hx]; simp) (S.fthere a))
          have e3 : Ext G0 H0 (G.fix D) H := ⟨e.toExt0.trans e2, e.keep, e.φnew, fun a h => h.elim (fun z => .inr (.inl (z ▸ hD))) (e.Fnew a)⟩
          exact p _ H _ e3 S2 (RV.lst (.inl rfl) hx (RVs.ext0 e2 _ _ (allD_ok ed rx)))
        · exact p.elim
      · exact p.elim
    · unfold lcN at p
      split at p
      · have e2 : Ext0 G H (G.push D) H := ext_push0 .refl
        have S2 := S.push nφ (by rw [hx]; simp) (o := .lst us) ⟨nF, xs, hx, RWs.ext0 e2 rx⟩
        have e3 : Ext G0 H0 (G.push D) H := ⟨e.toExt0.trans e2, e.keep, fun a h => (List.mem_append.mp h).elim (e.φnew a) fun h => by
          have : a = D := by simpa using h
          rw [this]
          exact .inr hD, e.Fnew⟩
        refine p _ H _ e3 S2 ⟨D, rfl, ?_⟩
        show (G.φ ++ [D])[M.length]? = some D
        rw [← S.len]
        simp
      · exact p.elim
  · rcases hk with rfl | rfl
    · unfold lcK
      rw [fitsL_no hz]
      split <;> rfl
    · unfold lcN
      rw [fitsL_no hz]
      rfl
theorem se_lc {k : List Val → Mm → Out Val} (hk : k = lcK ∨ k = lcN) (hc : X.calm = true) (hN : X.N.Nodup) (hi : SI X W tg iter it) (ok : BlkOk X.N X.env.scope scope own)
    (hg : ∀ (s : Shared) (H : Hp) (C : Addr) (cl : List (Str × Addr)) (fp : List Addr), SGo (X.blk s H scope (compEnvC scope cl C X.env) fp) (own.map (·.2)) tg g)
    (ht : ∀ (s : Shared) (H : Hp) (C : Addr) (cl : List (Str × Addr)) (fp : List Addr), STs (X.blk s H scope (compEnvC scope cl C X.env) fp) W0 ifs t)
    (he : ∀ (s : Shared) (H : Hp) (C : Addr) (cl : List (Str × Addr)) (fp : List Addr), SE (X.blk s H scope (compEnvC scope cl C X.env) fp) W0 elt e) (hs : ∀ x, foldedSetIterable iter X.env x = pure x := by intro _; rfl) :
    SE X W (.ListComp elt [⟨tg, iter, ifs, 0⟩] scope pos) (mComp k it g t e (own.map (·.2))) :=
  ⟨peImp (pe_lc (te := TEm X.K X.mg W0 e) (tt := TTm X.K X.mg W0 t) (g := TGo X.K X.mg (own.map (·.2)) g) hc hN hi.pi ok (fun s H C cl fp => (hg s H C cl fp).pg) (fun s H C cl fp => (ht s H C cl fp).pts) (fun s H C cl fp => (he s H C cl fp).pe) hs) fun _ _ _ h => lc_read hk h⟩
theorem ss_setLc {k : List Val → Mm → Out Val} {i : Nat} {y : Str} {py spos : Pos} (hk : k = lcK ∨ k = lcN) (hc : X.calm = true) (hN : X.N.Nodup) (hy : X.N[i]? = some y) (hyl : X.env.scope.names.lookup y = some .local)
    (hsw : swapsWith (.ListComp elt [⟨tg, iter, ifs, 0⟩] scope pos) (some (.Name y py)) spos.line X.env = pure true) (hi : SI X W tg iter it) (ok : BlkOk X.N X.env.scope scope own)
    (hg : ∀ (s : Shared) (H : Hp) (C : Addr) (cl : List (Str × Addr)) (fp : List Addr), SGo (X.blk s H scope (compEnvC scope cl C X.env) fp) (own.map (·.2)) tg g)
    (ht : ∀ (s : Shared) (H : Hp) (C : Addr) (cl : List (Str × Addr)) (fp : List Addr), STs (X.blk s H scope (compEnvC scope cl C X.env) fp) W0 ifs t)
    (he : ∀ (s : Shared) (H : Hp) (C : Addr) (cl : List (Str × Addr)) (fp : List Addr), SE (X.blk s H scope (compEnvC scope cl C X.env) fp) W0 elt e) (hs : ∀ x, foldedSetIterable iter X.env x = pure x := by intro _; rfl) :
    SS X W (.Assign [.Name y py] (.ListComp elt [⟨tg, iter, ifs, 0⟩] scope pos) spos) (sAsg (mComp k it g t e (own.map (·.2))) (gN i)) := by
  refine ⟨psImp (ps_setLc (te := TEm X.K X.mg W0 e) (tt := TTm X.K X.mg W0 t) (g := TGo X.K X.mg (own.map (·.2)) g) hc hN hy hyl hsw hi.pi ok (fun s H C cl fp => (hg s H C cl fp).pg) (fun s H C cl fp => (ht s H C cl fp).pts) (fun s H C cl fp => (he s H C cl fp).pe) hs) fun D σ H h => ?_⟩
  obtain ⟨G, s, M, S, N, p⟩ := h
  refine lc_read hk ⟨G, s, M, S, N, PostS.bind N p fun v M1 G1 H1 x e1 S1 r1 p1 => ?_⟩
  exact p1 G1 H1 _ .refl S1 ((N.ext e1).set r1)
end
end Zm
namespace Zm
open PySem PySem.Spec PyProof.Rows L2

/-! ### repr -/
section
variable {X : Cx} {pins : List (Addr × Obj)} {σ : L2.St} {H : Hp} {s : Shared} {F : Addr → Prop}
mutual
theorem RV.reads (I : Inv X pins σ H s) (hs : ∃ o u, H sysModules = some (.frz o u)) : ∀ (d : PyData) (v : V) (u : Value), RV X.K F H v d → RelV v u → ∃ as, Reads s.heap u d as ∧ sysModules ∉ as
  | .none, _, _, h, r => by cases h; cases r; exact ⟨_, Reads.none, by simp⟩
  | .bool b, _, _, h, r => by cases h; cases r; exact ⟨_, Reads.bool b, by simp⟩
  | .int i, _, _, h, r => by cases h; obtain ⟨t, rfl⟩ := r; exact ⟨_, Reads.int i t, by simp⟩
  | .str x, _, _, h, r => by cases h; obtain ⟨t, rfl⟩ := r; exact ⟨_, Reads.str x t, by simp⟩
  | .tuple ds, _, _, h, r => by
    cases h with
    | tup h1 h2 =>
      cases r
      obtain ⟨its, rv, ⟨o, ho, hc, n, hd⟩, _⟩ := I.tuple (SqT.of h1)
      obtain ⟨as, hr, hn⟩ := RVs.reads I hs ds _ its h2 rv
      exact ⟨_, Reads.tuple ho hc hd hr, hn⟩
  | .list ds, _, _, h, r => by
    cases h with
    | @lst a _ _ h0 h1 h2 =>
      cases r
      obtain ⟨its, rv, ⟨o, n, ho, hc, _, hd⟩, _⟩ := I.list (SqL.of h1)
      obtain ⟨as, hr, hn⟩ := RVs.reads I hs ds _ its h2 rv
      refine ⟨_, Reads.list ho hc hd hr, fun z => ?_⟩
      rcases List.mem_cons.mp z with z | z
      · obtain ⟨o', u', hs⟩ := hs
        rw [z, h1] at hs
        cases hs
      · exact hn z
  | .dict ds, _, _, h, r => by
    cases h with
    | @dct a kvs _ h0 h1 h2 =>
      cases r
      obtain ⟨_, hne, vs, kv, o, es, ep, ho, hex, hd, _, hp, _⟩ := I.hok a _ h1
      obtain ⟨as, bs, hr1, hr2, hn1, hn2⟩ := RKs.reads I hs ds kvs vs es.toList h2 kv hp
      refine ⟨_, Reads.dict ho hex.1 hd hr1 hr2, fun z => ?_⟩
      rcases List.mem_append.mp z with z | z
      · rcases List.mem_cons.mp z with z | z
        · rw [z] at hne
          simp at hne
        · exact hn1 z
      · exact hn2 z
theorem RVs.reads (I : Inv X pins σ H s) (hs : ∃ o u, H sysModules = some (.frz o u)) : ∀ (ds : List PyData) (vs : List V) (us : List Value), RVs X.K F H vs ds → Vals vs us → ∃ as, ReadsAll s.heap us ds as ∧ sysModules ∉ as
  | [], _, _, h, r => by cases h; cases r; exact ⟨_, ReadsAll.nil, by simp⟩
  | d :: ds, _, _, h, r => by
    cases h with
    | cons h1 h2 =>
      cases r with
      | cons r1 r2 =>
        obtain ⟨as, q1, n1⟩ := RV.reads I hs d _ _ h1 r1
        obtain ⟨bs, q2, n2⟩ := RVs.reads I hs ds _ _ h2 r2
        exact ⟨_, ReadsAll.cons q1 q2, fun z => (List.mem_append.mp z).elim n1 n2⟩
theorem RKs.reads (I : Inv X pins σ H s) (hs : ∃ o u, H sysModules = some (.frz o u)) : ∀ (ds : List (PyData × PyData)) (kvs : List (Key × V)) (vs : List (Key × Value)) (es : List DictEntry), RKs X.K F H kvs ds → KV kvs vs → Pairs (mixKind X.prog X.w) es vs →
    ∃ as bs, ReadsAll s.heap (es.map (·.key)) (ds.map (·.1)) as ∧ ReadsAll s.heap (es.map (·.val)) (ds.map (·.2)) bs ∧ sysModules ∉ as ∧ sysModules ∉ bs
  | [], _, _, _, h, r, p => by cases h; cases r; cases p; exact ⟨_, _, ReadsAll.nil, ReadsAll.nil, by simp, by simp⟩
  | (kd, d) :: ds, _, _, _, h, r, p => by
    cases h with
    | @cons k v _ _ _ h1 h2 =>
      cases r with
      | cons r1 r2 =>
        cases p with
        | @cons e kvv es vs p1 p2 p3 =>
          obtain ⟨as, q1, n1⟩ := RV.reads I hs d _ _ h1 r1.2
          obtain ⟨bs, cs, q2, q3, n2, n3⟩ := RKs.reads I hs ds _ _ _ h2 r2 p3
          have hk : ∃ ks, Reads s.heap e.key (keyD k) ks ∧ sysModules ∉ ks := by
            have e1 := r1.1
            have p1' : keyIs k e.key = true := by
              rw [show k = _ from e1]
              exact p1
            rcases keyIs_shape p1' with ⟨i, t, rfl, e2⟩ | ⟨x, t, rfl, e2⟩
            · rw [e2]; exact ⟨_, Reads.int i t, by simp⟩
            · rw [e2]; exact ⟨_, Reads.str x t, by simp⟩
          obtain ⟨ks, qk, nk⟩ := hk
          rw [← p2] at q1
          exact ⟨_, _, ReadsAll.cons qk q2, ReadsAll.cons q1 q3, fun z => (List.mem_append.mp z).elim nk n2, fun z => (List.mem_append.mp z).elim n1 n3⟩
end
end
def vRepr (vs : List Val) (M : Mm) : Out Val := match vs with
  | [.d d] => if d.showable && fitsL d.shown.length && decide (d.depth ≤ 64) then .ok (.d (.str d.shown)) M else .bad
  | _ => .bad
section
variable {X : Cx} {W : WX}
def rReprZ (K : PySem.W.Frag) : List V → Hp → VK → Prop := fun xs H Q => ∃ (F : Addr → Prop) (x : V) (d : PyData), xs = [x] ∧ RV K F H x d ∧ (∃ o u, H sysModules = some (.frz o u)) ∧ d.showable = true ∧ d.shown.length ≤ sizeLine ∧ d.depth ≤ 64 ∧ Q (.str d.shown) H
theorem call_reprZ (hG : X.A.guards = some []) (hu : X.A.units + 70 < cLine) : CallR X (.builtin "repr") (rReprZ X.K) := by
  intro pins s σ H xs us Q I r ⟨F, x, d, ex, rx, hs, h1, h2, h3, q⟩
  subst ex
  obtain ⟨u, rfl, ru⟩ := vals1 r
  obtain ⟨as, rd, hn⟩ := RV.reads I hs d x u rx ru
  have fin : ∀ h' t tk, (∀ b o, s.heap.get? b = some o → h'.get? b = some o) → EP X pins σ Q (.str d.shown t) { s with heap := h', toks := tk } := fun h' t tk hk => ⟨.str d.shown, H, I.kept hk, ⟨_, rfl⟩, q⟩
  cases d with
  | none =>
    cases rx; cases ru
    refine PySem.P.repr_of_none (fin s.heap s.toks (s.toks + 1) fun _ _ e => e)
  | bool b =>
    cases rx; cases ru
    have q := fin s.heap s.toks (s.toks + 1) fun _ _ e => e
    simp only [PyData.shown] at q
    exact PySem.P.repr_of_bool q
  | int i =>
    cases rx
    obtain ⟨t, rfl⟩ := ru
    have q := fin s.heap s.toks (s.toks + 1) fun _ _ e => e
    simp only [PyData.shown] at q
    exact PySem.P.repr_of_int (by simpa [PyData.showable] using h1) q
  | str z =>
    cases rx
    obtain ⟨t, rfl⟩ := ru
    have q := fin s.heap s.toks (s.toks + 1) fun _ _ e => e
    simp only [PyData.shown] at q h2
    exact PySem.P.repr_of_str q h2
  | list ds =>
    cases rx with
    | lst _ _ _ =>
      cases ru
      exact repr_of_reads' rd h1 (fun _ => hn) hG (by omega) (fun _ _ e => e) (fun h' u tk hk => fin h' u tk hk) h2
  | tuple ds =>
    cases rx with
    | tup _ _ =>
      cases ru
      exact repr_of_reads' rd h1 (fun _ => hn) hG (by omega) (fun _ _ e => e) (fun h' u tk hk => fin h' u tk hk) h2
  | dict ds =>
    cases rx with
    | dct _ _ _ =>
      cases ru
      exact repr_of_reads' rd h1 (fun _ => hn) hG (by omega) (fun _ _ e => e) (fun h' u tk hk => fin h' u tk hk) h2
theorem cz_repr : CallZ X (rReprZ X.K) vRepr := by
  intro W G M σ H Q xs vs S r p
  unfold vRepr at p
  split at p
  · rename_i d
    cases r with
    | @cons x _ _ _ r1 r2 =>
      cases r2
      split at p
      · rename_i h
        rw [Bool.and_eq_true, Bool.and_eq_true] at h
        exact ⟨G.F, x, d, rfl, r1, S.sys, h.1.1, fitsL_ok h.1.2, of_decide_eq_true h.2, p G H _ .refl S (RV.str _)⟩
      · exact p.elim
  · exact p.elim

/-! ### isinstance -/
def tyNm (v : Val) (M : Mm) : Option String := match v with
  | .d .none => some "NoneType"
  | .d (.bool _) => some "bool"
  | .d (.int _) => some "int"
  | .d (.str _) => some "str"
  | .d (.list _) => some "list"
  | .d (.tuple _) => some "tuple"
  | .d (.dict _) => some "dict"
  | .scr _ => none
  | .obj j => match M[j]? with
    | some (.lst _) => some "list"
    | some (.dct _) => some "dict"
    | _ => none
def isT (n T : String) : Bool := n == T || (n == "bool" && T == "int")
def kinds : List String := ["int", "bool", "tuple", "str", "list", "dict"]
def names7 : List String := ["NoneType", "bool", "int", "str", "list", "tuple", "dict"]
theorem kit_tab : ∀ n ∈ names7, ∀ T ∈ kinds, kitB n T = some (isT n T) := by decide +kernel
theorem tyNm_ok {mg : Str → Option Value} {G : Gh} {H : Hp} {M : Mm} {K : PySem.W.Frag} {x : V} {v : Val} {n : String} (S : SimM K mg G M H) (r : RW K G H x v) (h : tyNm v M = some n) : TyX K H x (.type n) ∧ n ∈ names7 := by
  unfold tyNm at h
  split at h
  · cases h; have r : RV K G.F H x .none := r; cases r; exact ⟨.base .non, by decide⟩
  · rename_i b; cases h; have r : RV K G.F H x (.bool b) := r; cases r; exact ⟨.base (.bl b), by decide⟩
  · rename_i b; cases h; have r : RV K G.F H x (.int b) := r; cases r; exact ⟨.base (.int b), by decide⟩
  · rename_i b; cases h; have r : RV K G.F H x (.str b) := r; cases r; exact ⟨.base (.str b), by decide⟩
  · rename_i ds; cases h; have r : RV K G.F H x (.list ds) := r
    cases r with | lst h0 h1 h2 => exact ⟨.base (.lst h1), by decide⟩
  · rename_i ds; cases h; have r : RV K G.F H x (.tuple ds) := r
    cases r with | tup h1 h2 => exact ⟨.base (.tup h1), by decide⟩
  · rename_i ds; cases h; have r : RV K G.F H x (.dict ds) := r
    cases r with | dct h0 h1 h2 => exact ⟨.base (.dK h1), by decide⟩
  · cases h
  · rename_i j
    obtain ⟨a, rfl, hj⟩ := r
    split at h
    · rename_i vs ev
      cases h
      obtain ⟨nF, xs, hx, _⟩ := S.obj j a _ hj ev
      exact ⟨.base (.lst hx), by decide⟩
    · rename_i kvs ev
      cases h
      obtain ⟨nF, ys, h1, _⟩ := S.obj j a _ hj ev
      exact ⟨.base (.dK h1), by decide⟩
    · cases h
def mIsI (T : String) (m : EM) : EM := fun s M => (m s M).bind fun v M1 => match tyNm v M1 with
  | some n => .ok (.d (.bool (isT n T))) M1
  | none => .bad
theorem se_isinst {T : String} {e : Expr} {m : EM} {p p2 pos : Pos} {TS : Str} (hT : T ∈ kinds) (hg : Gl X "isinstance") (hm : X.mg "isinstance" = none) (hgT : Gl X TS) (hmT : X.mg TS = none) (hbT : bootBuiltins TS = some (.type T)) (he : SE X W e m)
    (hn : TS ≠ "__name__" := by decide) (hd : (TS == ("__debug__" : Str)) = false := by decide)
    (h1 : starEach [e, .Name TS p2] X.env = (false, eval e X.env) :: starEach [.Name TS p2] X.env := by rfl) (h2 : starEach [.Name TS p2] X.env = (false, eval (.Name TS p2) X.env) :: starEach [] X.env := by rfl) (hpl : (backTo pos (starEach [.Name TS p2] X.env)).any (·.1) = false := by rfl) :
    SE X W (.Call (.Name "isinstance" p) [e, .Name TS p2] [] pos) (mIsI T m) := by
  have hq : PE X (.Name TS p2) (tC (.ty T)) := pe_bltn hgT hmT hbT rfl hn hd
  refine ⟨peImp (pe_callB call_isi hg hm (by decide +kernel) (pa_cons he.pe (pa_cons hq pa_nil h2) h1) (by decide) (by decide) h1 hpl) fun σ H Q ⟨G, s, M, S, N, p⟩ => ⟨G, s, M, S, N, Post.bind p fun v M1 G1 H1 x e1 S1 r1 p1 => ?_⟩⟩
  split at p1
  · rename_i n hn
    obtain ⟨ty, hmem⟩ := tyNm_ok S1 r1 hn
    exact ⟨x, .ty T, .type n, .type T, isT n T, rfl, .ty T, ty, kit_ty (kit_tab n hmem T hT), p1 G1 H1 _ .refl S1 (RV.bl _)⟩
  · exact p1.elim

/-! ### sorted -/
def sortI (ns : List Int) : List Int := ns.mergeSort fun a b => decide (a ≤ b)
theorem sortI_perm (ns : List Int) : (sortI ns).Perm ns := List.mergeSort_perm _ _
theorem sortI_sorted (ns : List Int) : (sortI ns).Pairwise (· ≤ ·) := by
  have h := List.pairwise_mergeSort (le := fun a b : Int => decide (a ≤ b)) (fun a b c h1 h2 => by simp at *; omega) (fun a b => by simp; omega) ns
  exact h.imp fun {a b} h => of_decide_eq_true h
theorem sortI_eq {ns ms : List Int} (hp : ms.Perm ns) (hs : ms.Pairwise (· ≤ ·)) : ms = sortI ns :=
  (hp.trans (sortI_perm ns).symm).eq_of_pairwise (fun x y _ _ h1 h2 => Int.le_antisymm h1 h2) hs (sortI_sorted ns)
def leP (a b : Int × Int) : Bool := decide (a.1 < b.1) || (decide (a.1 = b.1) && decide (a.2 ≤ b.2))
theorem leP_iff {a b : Int × Int} : leP a b = true ↔ a.1 < b.1 ∨ (a.1 = b.1 ∧ a.2 ≤ b.2) := by
  unfold leP
  simp
def sortP (ps : List (Int × Int)) : List (Int × Int) := ps.mergeSort leP
theorem sortP_perm (ps : List (Int × Int)) : (sortP ps).Perm ps := List.mergeSort_perm _ _
theorem sortP_sorted (ps : List (Int × Int)) : (sortP ps).Pairwise fun a b => leP a b = true :=
  List.pairwise_mergeSort (fun a b c h1 h2 => by rw [leP_iff] at *; omega) (fun a b => by rw [Bool.or_eq_true, leP_iff, leP_iff]; omega) ps
theorem sortP_eq {ps qs : List (Int × Int)} (hp : qs.Perm ps) (hs : qs.Pairwise fun a b => leP a b = true) : qs = sortP ps := by
  refine (hp.trans (sortP_perm ps).symm).eq_of_pairwise (fun x y _ _ h1 h2 => ?_) hs (sortP_sorted ps)
  rw [leP_iff] at h1 h2
  exact Prod.ext (by omega) (by omega)
def pairD (p : Int × Int) : PyData := .tuple [.int p.1, .int p.2]
def toP : PyData → Option (Int × Int)
  | .tuple [.int a, .int b] => some (a, b)
  | _ => none
theorem toP_ok {d : PyData} {p : Int × Int} (h : toP d = some p) : d = pairD p := by
  unfold toP at h
  split at h
  · cases h; rfl
  · cases h
def allP : List PyData → Option (List (Int × Int))
  | [] => some []
  | d :: r => match toP d, allP r with
    | some p, some ps => some (p :: ps)
    | _, _ => none
theorem allP_map : ∀ (ps : List (Int × Int)), allP (ps.map pairD) = some ps
  | [] => rfl
  | p :: ps => by
    show (match toP (pairD p), allP (ps.map pairD) with | some p, some ps => some (p :: ps) | _, _ => none) = _
    rw [allP_map ps]
    rfl
theorem allP_ok : ∀ {ds : List PyData} {ps : List (Int × Int)}, allP ds = some ps → ds = ps.map pairD
  | [], _, h => by cases h; rfl
  | d :: r, ps, h => by
    unfold allP at h
    split at h
    · rename_i p qs e1 e2
      cases h
      rw [toP_ok e1, allP_ok e2]
      rfl
    · cases h
def kP (H : Hp) (v : V) : Int × Int := match v with
  | .ref t => match H t with
    | some (.tup [.int a, .int b]) => (a, b)
    | _ => (0, 0)
  | _ => (0, 0)
theorem rvs_pairs {K : PySem.W.Frag} {F : Addr → Prop} {H : Hp} : ∀ {ps : List (Int × Int)} {xs : List V}, RVs K F H xs (ps.map pairD) → xs.map (kP H) = ps ∧ ∀ x ∈ xs, ∃ t, x = V.ref t ∧ H t = some (.tup [.int (kP H x).1, .int (kP H x).2])
  | [], _, h => by cases h; exact ⟨rfl, fun _ h => by cases h⟩
  | (a, b) :: ps, _, h => by
    cases h with
    | @cons v vs _ _ h1 h2 =>
      obtain ⟨e1, e2⟩ := rvs_pairs h2
      have h1 : RV K F H v (.tuple [.int a, .int b]) := h1
      cases h1 with
      | @tup t ys _ g1 g2 =>
        cases g2 with
        | cons g2 g3 =>
          cases g3 with
          | cons g3 g4 =>
            cases g4; cases g2; cases g3
            have ek : kP H (.ref t) = (a, b) := by simp [kP, g1]
            refine ⟨by rw [List.map_cons, e1, ek], fun x hx => ?_⟩
            rcases List.mem_cons.mp hx with rfl | hx
            · exact ⟨t, rfl, by rw [ek]; exact g1⟩
            · exact e2 x hx
theorem rvs_of_kP {K : PySem.W.Frag} {F : Addr → Prop} {H : Hp} : ∀ {xs : List V}, (∀ x ∈ xs, ∃ t, x = V.ref t ∧ H t = some (.tup [.int (kP H x).1, .int (kP H x).2])) → RVs K F H xs ((xs.map (kP H)).map pairD)
  | [], _ => .nil
  | x :: xs, h => by
    obtain ⟨t, e, ht⟩ := h x List.mem_cons_self
    subst e
    exact .cons (.tup ht (.cons (.int _) (.cons (.int _) .nil))) (rvs_of_kP fun y hy => h y (List.mem_cons_of_mem _ hy))
def sortD (ds : List PyData) : Option (List PyData) := match allI ds with
  | some ns => some ((sortI ns).map .int)
  | none => match allP ds with
    | some ps => some ((sortP ps).map pairD)
    | none => none
def vSorted (vs : List Val) (M : Mm) : Out Val := match vs with
  | [v] => match listD v M with
    | some ds => match sortD ds with
      | some es => .ok (.d (.list es)) M
      | none => .bad
    | none => .bad
  | _ => .bad
theorem cz_sorted : CallZ X (fun xs H Q => rSortedI X.K xs H Q ∨ rSortedPO X.K xs H Q) vSorted := by
  intro W G M σ H Q xs vs S r p
  unfold vSorted at p
  split at p
  · cases r with
    | cons r1 r2 =>
      cases r2
      split at p
      · rename_i ds hd
        obtain ⟨a, ys, rfl, h, hr⟩ := listD_ok S r1 hd
        split at p
        · rename_i es he
          unfold sortD at he
          split at he
          · rename_i ns hn
            cases he
            have e := allI_ok hn
            subst e
            have e := RVs.ints hr
            subst e
            refine .inl ⟨a, ns, rfl, h, fun ns' q hp hs hq => ?_⟩
            have e := sortI_eq hp hs
            subst e
            obtain ⟨S2, e2⟩ := S.layF (o := .lst ((sortI ns).map V.int)) hq
            exact p _ _ _ e2 S2 (RV.lst (.inl rfl) upd_same (rvs_ints (G := G.fix q) _))
          · split at he
            · rename_i ps hp
              cases he
              have e := allP_ok hp
              subst e
              obtain ⟨e1, e2⟩ := rvs_pairs hr
              refine .inr ⟨a, ys, kP H, rfl, h, e2, fun zs q hs hb hq => ?_⟩
              have hz : ∀ x ∈ zs, ∃ t, x = V.ref t ∧ H t = some (.tup [.int (kP H x).1, .int (kP H x).2]) := fun x hx => e2 x (hb.perm.mem_iff.mp hx)
              have e3 : zs.map (kP H) = sortP ps := by
                refine sortP_eq (by rw [← e1]; exact hb.perm.map _) ?_
                refine List.pairwise_map.mpr (List.Pairwise.imp (fun {x y} h => ?_) hs)
                have h : SrtO.lexB (kP H y) (kP H x) = false := h
                rw [leP_iff]
                have := SrtO.lexB_no.mp h
                omega
              obtain ⟨S2, e4⟩ := S.layF (o := .lst zs) hq
              refine p _ _ _ e4 S2 (RV.lst (.inl rfl) upd_same ?_)
              have := rvs_of_kP (K := X.K) (F := G.F) hz
              rw [e3] at this
              exact RVs.ext e4 _ _ this
            · cases he
        · exact p.elim
      · exact p.elim
  · exact p.elim
end
end Zm
namespace Zm
open PySem PySem.Spec PyProof.Rows L2

theorem law_callZ {P : Program} {w : World} {K : PySem.W.Frag} {mg mb : Str → Option Value} {k : Nat} {fa a : Addr} {fd : FuncData} {x : Str} {den : Den} {s₁ : Shared} {vs : List Value} {ns : List Int}
    (KX : K.In s₁.heap) (hns : s₁.heap.Ns mainGlobals mg) (hb : s₁.heap.Ns builtinsNs mb) (hbb : ∀ x : Str, x ≠ "__name__" → mb x = bootBuiltins x) (hlim : s₁.heap.NoLimit) (hg : s₁.gens = #[])
    (ha : s₁.heap.get? a = some { cls := .type "list", data := .seq vs.toArray }) (hi : IntsAre vs ns) (hl : ns.length ≤ sizeLine) (hr : Room k callerA)
    (hsm : ∃ mm, s₁.heap.Ns sysModules mm) (hsk : K.lookup sysModules = none)
    (F : ∀ base : Heap, K.In base → base.Ns mainGlobals mg → FnZ P w K mg base k fa fd [x] den) (hbind : ∀ (s : Shared) (u : Value), BindsTo s fd ⟨[u], []⟩ [(x, u)])
    (hden : ∃ M', den [.scr ns] [] = .ok (.d (.bool true)) M') :
    codeAny (model P w) callerA (.call (.ref fa) ⟨[.ref a], []⟩) (fun r s' => r = .ok (.ret (.bool true)) ∧ OldK s₁.heap s'.heap ∧ s'.os = s₁.os ∧ AllBare s'.gens) s₁ := by
  have rv := vals_ints hi
  have lenV := hi.length
  obtain ⟨mm, om, esm, epm, hom, hdm, _⟩ := hsm
  have hne : a ≠ sysModules := by
    intro z
    rw [z, hom] at ha
    cases ha
    cases hdm
  obtain ⟨H, hH⟩ : ∃ H : Hp, H = fun b => if b = sysModules then some (.frz om (.ext fun _ => True)) else if b = a ∧ K.lookup a = none then some (.frz { cls := .type "list", data := .seq vs.toArray } (.lst (ns.map V.int))) else none := ⟨_, rfl⟩
  have H1 : H sysModules = some (.frz om (.ext fun _ => True)) := by rw [hH]; exact if_pos rfl
  have H2 : K.lookup a = none → H a = some (.frz { cls := .type "list", data := .seq vs.toArray } (.lst (ns.map V.int))) := fun z => by
    rw [hH]
    show (if a = sysModules then _ else if a = a ∧ K.lookup a = none then _ else _) = _
    rw [if_neg hne, if_pos ⟨rfl, z⟩]
  have H3 : ∀ b, b ≠ sysModules → ¬ (b = a ∧ K.lookup a = none) → H b = none := fun b z1 z2 => by
    rw [hH]
    show (if b = sysModules then _ else if b = a ∧ K.lookup a = none then _ else _) = _
    rw [if_neg z1, if_neg z2]
  have HK : ∀ b o, K.lookup b = some o → H b = none := fun b o e => H3 b (fun z => by rw [z, hsk] at e; cases e) fun z => by rw [z.1, z.2] at e; cases e
  have HD : ∀ {b : Addr} {o : Obj} {es : Array DictEntry} {ep : Nat}, b ≠ sysModules → s₁.heap.get? b = some o → o.data = .dict es ep → H b = none := fun {b o es ep} z e d => H3 b z fun q => by
    rw [q.1, ha] at e
    cases e
    cases d
  have hok : HOk P w H s₁.heap := by
    intro b u e
    by_cases h1 : b = sysModules
    · subst h1
      rw [H1] at e
      cases e
      exact ⟨hom, trivial, ⟨_, hom⟩, fun _ _ _ _ => trivial⟩
    · by_cases h2 : b = a ∧ K.lookup a = none
      · obtain ⟨rfl, h2⟩ := h2
        rw [H2 h2] at e
        cases e
        exact ⟨ha, by rw [List.length_map]; exact hl, vs, _, rv, ha⟩
      · rw [H3 b h1 h2] at e
        cases e
  have hfrz : ∀ b u, H b = some u → ∃ o v, u = .frz o v := by
    intro b u e
    by_cases h1 : b = sysModules
    · subst h1
      rw [H1] at e
      cases e
      exact ⟨_, _, rfl⟩
    · by_cases h2 : b = a ∧ K.lookup a = none
      · obtain ⟨rfl, h2⟩ := h2
        rw [H2 h2] at e
        cases e
        exact ⟨_, _, rfl⟩
      · rw [H3 b h1 h2] at e
        cases e
  have nsK : ∀ {b : Addr} {m : Str → Option Value}, b ≠ sysModules → s₁.heap.Ns b m → (hidT s₁.heap H).Ns b m := by
    rintro b m z ⟨o, es, ep, e, d, r⟩
    exact ⟨o, es, ep, hidT_get e (HD z e d), d, r⟩
  have hKb : K.In (hidT s₁.heap H) := fun b o e => hidT_get (KX b o e) (HK b o e)
  have hM : Mod K mg (hidT s₁.heap H) := by
    obtain ⟨mc, h1, h2⟩ := hlim
    exact ⟨hKb, nsK (by decide) hns, ⟨mb, nsK (by decide) hb, hbb⟩, ⟨mc, nsK (by decide) h1, h2⟩⟩
  have e0 : Env0 P w K mg (hidT s₁.heap H) callerA [] s₁ H :=
    { frames := rfl, mod := hM, bs := fun b o e => of_hidT e, bsz := Nat.le_of_eq (hidT_size _ _), funs := trivial, frf := fun b hb => absurd (show b ∈ ([] : List Addr) from hb) (by simp), hok := hok, bare := .of_eq hg }
  have scr : Scr K H a (ns.map V.int) := by
    cases hk : K.lookup a with
    | none => exact .inl ⟨_, H2 hk⟩
    | some o =>
      have e := KX a o hk
      rw [ha] at e
      cases e
      exact .inr ⟨_, vs.toArray, _, hk, rfl, rfl, rfl, by rw [List.size_toArray, lenV]; exact hl, by simpa using rv⟩
  obtain ⟨M', hd⟩ := hden
  have sim : SimM K mg ⟨[], fun _ => False⟩ [] H := ⟨rfl, List.nodup_nil, fun i a o h => by simp at h, fun a h => by simp at h, fun a h => h.elim, ⟨_, _, H1⟩⟩
  have sp : SpZ K mg den [.ref a] H (fun v _ => v = .bl true) (fun _ _ _ => False) := by
    refine ⟨⟨[], fun _ => False⟩, [.scr ns], [], sim, .cons ⟨a, rfl, scr⟩ .nil, ?_⟩
    rw [hd]
    intro G' H' v _ _ r
    have r : RV K G'.F H' v (.bool true) := r
    cases r
    rfl
  refine codeAny_mono ((F _ hKb (nsK (by decide) hns)).run callerA [] s₁ H ⟨[.ref a], []⟩ [.ref a] [.ref a] _ _ hr rfl e0 (hbind s₁ (.ref a)) (.cons rfl .nil) rfl sp) fun r s' h => ?_
  cases r with
  | error e =>
    obtain ⟨_, _, _, _, _, _, _, _, _, _, _, _, z⟩ := h
    exact z.elim
  | ok fl =>
    cases fl with
    | next => exact False.elim h
    | brk => exact False.elim h
    | cont => exact False.elim h
    | ret u =>
      obtain ⟨v, H', os, bare, un, hok', r', q⟩ := h
      have q : v = .bl true := q
      subst q
      obtain rfl : u = Value.bool true := r'
      refine ⟨rfl, OldK.of_keep fun b o e => ?_, os, bare⟩
      cases q : H b with
      | none => exact un.keep b o e q (fun z => absurd (show b ∈ ([] : List Addr) from z) (by simp)) (by simp)
      | some u =>
        obtain ⟨ob, v, rfl⟩ := hfrz b u q
        obtain ⟨e1, _⟩ := hok b _ q
        obtain ⟨e2, _⟩ := hok' b _ (un.frzs b ob _ q)
        rw [e] at e1
        cases e1
        exact e2
/-- the goal that the head leaves -/
theorem walkZ {l : PySem.W.OpenLaw} {n k : Nat} {q : Program} {loose : List Str} {XP : (Str → Option Value) → Heap → Prop} {YP : World → Heap → Prop} {d : DefRec} {K : Params → PySem.W.Frag} {den : Den} {x : Str}
    (hn : l.most = some n) (hn2 : n ≤ sizeLine) (hdf : d.params.defaults = []) (hr : Room k callerA) (himp : importsNone q = true) (hsk : ∀ w : World, (K w.params).lookup sysModules = none)
    (hY : ∀ (w : World) (h : Heap), YP w h → (K w.params).In h)
    (F : ∀ (w : World) (mg : Str → Option Value) (fa : Addr) (h : Heap), (K w.params).In h → h.Ns mainGlobals mg → mg d.name = some (.ref fa) →
      ∃ fd : FuncData, (∀ (s : Shared) (u : Value), BindsTo s fd ⟨[u], []⟩ [(x, u)]) ∧
        ∀ base : Heap, (K w.params).In base → base.Ns mainGlobals mg → FnZ l.prog w (K w.params) mg base k fa fd [x] den)
    (hden : ∀ ns : List Int, ns.length ≤ n → ∃ M', den [.scr ns] [] = .ok (.d (.bool true)) M') :
    PySem.W.WalkO q loose XP YP l.row.toRowW d [] (fun f vs => PySem.call f vs) := by
  refine Att.attach_call hn hdf fun w s₀ s₁ mg mb fa o pm cd doc a vs ns G Y ho hd hcd hmg hobj hints hlen hg => ?_
  obtain ⟨fd, hb, hF⟩ := F w mg fa _ (hY w _ Y) G.T.g hmg
  obtain ⟨mm, hmm, _⟩ := (G.T.seer himp).mods
  exact law_callZ (hY w _ Y) G.T.g G.T.b G.T.builtins G.T.nolimit hg hobj hints (Nat.le_trans hlen hn2) hr ⟨mm, hmm⟩ (hsk w) hF hb (hden ns hlen)
end Zm
namespace Zm
open PySem PySem.Spec PyProof.Rows L2

/-! ### tests that are comparisons -/
section
variable {X : Cx} {W : WX} {a b : Expr} {ma mb : EM} {pos : Pos}
theorem st_lt (ha : SE X W a ma) (hb : SE X W b mb) (hm : behindInMarks .Lt b = false := by rfl) : ST X W (.Compare a [.Lt] [b] pos) (mT (mOp vLt ma mb)) := st_cmp op_lt oz_bool ha hb hm
theorem st_gt (ha : SE X W a ma) (hb : SE X W b mb) (hm : behindInMarks .Gt b = false := by rfl) : ST X W (.Compare a [.Gt] [b] pos) (mT (mOp vGt ma mb)) := st_cmp op_gt oz_bool ha hb hm
theorem st_ge (ha : SE X W a ma) (hb : SE X W b mb) (hm : behindInMarks .GtE b = false := by rfl) : ST X W (.Compare a [.GtE] [b] pos) (mT (mOp vGe ma mb)) := st_cmp op_ge oz_bool ha hb hm
theorem st_le (hu : X.A.units < cLine) (ha : SE X W a ma) (hb : SE X W b mb) (hm : behindInMarks .LtE b = false := by rfl) : ST X W (.Compare a [.LtE] [b] pos) (mT (mOp vLe ma mb)) := st_cmp (OpR.or op_le (op_leT hu)) oz_le ha hb hm
theorem st_eq (hu : X.A.units + 64 < cLine) (ha : SE X W a ma) (hb : SE X W b mb) (hm : behindInMarks .Eq b = false := by rfl) : ST X W (.Compare a [.Eq] [b] pos) (mT (mOp vEq ma mb)) := st_cmp (OpR.or op_eq (op_eqD hu)) oz_eq ha hb hm
theorem st_ne (hu : X.A.units + 64 < cLine) (ha : SE X W a ma) (hb : SE X W b mb) (hm : behindInMarks .NotEq b = false := by rfl) : ST X W (.Compare a [.NotEq] [b] pos) (mT (mOp vNe ma mb)) := st_cmp (OpR.or op_ne (op_neD hu)) oz_ne ha hb hm
theorem st_isN (ha : SE X W a ma) (hb : SE X W b mb) (hm : behindInMarks .Is b = false := by rfl) : ST X W (.Compare a [.Is] [b] pos) (mT (mOp vIsN ma mb)) := st_cmp op_isN oz_isN ha hb hm
theorem st_notN (ha : SE X W a ma) (hb : SE X W b mb) (hm : behindInMarks .IsNot b = false := by rfl) : ST X W (.Compare a [.IsNot] [b] pos) (mT (mOp vNotN ma mb)) := st_cmp op_notN oz_notN ha hb hm
theorem st_in (hu : X.A.units + 65 < cLine) (ha : SE X W a ma) (hb : SE X W b mb) (hm : behindInMarks .In b = false := by rfl) : ST X W (.Compare a [.In] [b] pos) (mT (mOp (vIn false) ma mb)) := st_cmp (op_inA hu) oz_in ha hb hm
theorem st_notIn (hu : X.A.units + 65 < cLine) (ha : SE X W a ma) (hb : SE X W b mb) (hm : behindInMarks .NotIn b = false := by rfl) : ST X W (.Compare a [.NotIn] [b] pos) (mT (mOp (vIn true) ma mb)) := st_cmp (op_notInA hu) oz_in ha hb hm
theorem room_u {k : Nat} {A : Around} (r : Room k A) : A.units < cLine := r.units0
theorem room_u64 {k : Nat} {A : Around} (r : Room k A) : A.units + 64 < cLine := r.units
theorem room_u65 {k : Nat} {A : Around} (r : Room k A) : A.units + 65 < cLine := by have := r.un; omega
theorem room_u70 {k : Nat} {A : Around} (r : Room k A) : A.units + 70 < cLine := by have := r.un; omega
/-- names of what the module holds -/
theorem se_gint {x : Str} {i : Int} {pos : Pos} (hg : Gl X x) (hm : ∃ t, X.mg x = some (.int i t)) (hd : (x == ("__debug__" : Str)) = false := by decide) : SE X W (.Name x pos) (mC (.int i)) := by
  obtain ⟨t, hm⟩ := hm
  exact se_c (pe_glob (v := V.int i) hg hm ⟨t, rfl⟩ hd) fun _ _ => .int i
theorem se_gstr {x z : Str} {pos : Pos} (hg : Gl X x) (hm : ∃ t, X.mg x = some (.str z t)) (hd : (x == ("__debug__" : Str)) = false := by decide) : SE X W (.Name x pos) (mC (.str z)) := by
  obtain ⟨t, hm⟩ := hm
  exact se_c (pe_glob (v := V.str z) hg hm ⟨t, rfl⟩ hd) fun _ _ => .str z
end

/-! ### x[::-1] -/
section
variable {prog : Program} {w : World} {A : Around} {E : Value → Shared → Prop} {s : Shared}
theorem filterMap_same {α β : Type} {f g : α → Option β} : ∀ {l : List α}, (∀ x ∈ l, f x = g x) → l.filterMap f = l.filterMap g
  | [], _ => rfl
  | x :: l, h => by
    rw [List.filterMap_cons, List.filterMap_cons, h x List.mem_cons_self, filterMap_same fun y hy => h y (List.mem_cons_of_mem _ hy)]
theorem adjust_rev (n : Nat) : Builtin.Slice.sliceAdjust none none (-1) (n : Int) = ((n : Int) - 1, -1) := by
  unfold Builtin.Slice.sliceAdjust
  simp
theorem places_rev (n : Nat) : Builtin.Slice.slicePlaces ((n : Int) - 1) (-1) (-1) = n := by
  unfold Builtin.Slice.slicePlaces
  have h : ¬ ((-1 : Int) > 0) := by decide
  simp only [h, if_false]
  rw [show (- -1 : Int) = 1 by decide, Int.ediv_one]
  split <;> omega
theorem getItem_tuple_rev {t sl : Addr} {items : Array Value} {u : Tok} {Q : Value → Shared → Prop} (ht : IsTup s.heap t items) (hs : s.heap.IsSliceOf sl .none .none (.int (-1) u))
    (h : Q (.ref s.heap.objs.size) { s with heap := s.heap.push { cls := .type "tuple", data := .seq items.toList.reverse.toArray } }) (hsz : items.size ≤ sizeLine) : wpAny (model prog w) A (getItem (.ref t) (.ref sl)) Q E s := by
  have hfit : sizeOk (.seq items.toList.reverse.toArray) := by
    show items.toList.reverse.toArray.size ≤ sizeLine
    simpa using hsz
  obtain ⟨os, hos, hcs, hds⟩ := id hs
  have hTs : s.TypeIs (.ref sl) "slice" := ⟨os, hos, hcs⟩
  unfold getItem
  try with_reducible refine wpAny_holding ?_
  first | refine wpAny_bind (wpAny_pure ?_) | skip
  refine wpAny_bind (wpAny_sequenceKey ht.typeIs (by decide) (wpAny_bind (wpAny_callSpecial?_slot (name := Str.ofString "__getitem__") ht.typeIs PyProof.Rows.slot_tuple_getitem
    (wpAny_call_entry PyProof.Rows.slot_tuple_getitem ht.typeIs entry_tuple_getitem ?_ (args_tuple_getitem _ _)))))
  show wpAny _ _ (Builtin.Tuple.tupleItemsOf (.ref t) >>= _) _ _ s
  refine wpAny_bind (tupleItemsOf_ ht (wpAny_bind (wpAny_typeOf hTs ?_)))
  rw [if_pos (by decide)]
  have app : ∀ {Q' : Int × Int × Nat → Shared → Prop} {E' : Value → Shared → Prop} {A' : Around}, Q' ((items.size : Int) - 1, -1, items.size) s → wpAny (model prog w) A' (Builtin.Slice.sliceApplied (.ref sl) (pure (items.size : Int))) Q' E' s := by
    intro Q' E' A' q
    unfold Builtin.Slice.sliceApplied Builtin.Slice.sliceFields
    refine wpAny_bind (wpAny_bind (wpAny_field hos hds (x := .none) rfl (wpAny_bind (wpAny_field hos hds (x := .none) rfl (wpAny_bind (wpAny_field hos hds (x := .int (-1) u) rfl (wpAny_pure ?_)))))))
    refine wpAny_bind (slicePart_int ?_)
    show wpAny _ _ (if ((-1 : Int) == 0) = true then _ else _) _ _ s
    rw [if_neg (by decide)]
    refine wpAny_bind (slicePart_none (wpAny_bind (slicePart_none (wpAny_bind (wpAny_pure ?_)))))
    show wpAny _ _ (match Builtin.Slice.sliceAdjust none none (-1) (items.size : Int) with | (lo, hi) => pure (lo, (-1 : Int), Builtin.Slice.slicePlaces lo hi (-1))) _ _ s
    rw [adjust_rev]
    show wpAny _ _ (pure ((items.size : Int) - 1, (-1 : Int), Builtin.Slice.slicePlaces ((items.size : Int) - 1) (-1) (-1))) _ _ s
    rw [places_rev]
    exact wpAny_pure q
  refine wpAny_bind (app ?_)
  show wpAny _ _ (if (((items.size : Int) - 1) == 0 && (-1 : Int) == 1 && items.size == items.size) = true then _ else _) _ _ s
  rw [if_neg (by intro q; rw [Bool.and_eq_true, Bool.and_eq_true] at q; exact absurd q.1.2 (by decide))]
  have pick : ((List.range items.size).filterMap fun (k : Nat) => items[((items.size : Int) - 1 + (k : Int) * (-1)).toNat]?).toArray = items.toList.reverse.toArray := by
    have e1 : (List.range items.size).filterMap (fun (k : Nat) => items[((items.size : Int) - 1 + (k : Int) * (-1)).toNat]?) = (List.range items.size).filterMap (fun k => items[items.size - 1 - k]?) := by
      refine filterMap_same fun k hk => ?_
      have hk := List.mem_range.mp hk
      have : ((items.size : Int) - 1 + (k : Int) * (-1)).toNat = items.size - 1 - k := by omega
      rw [this]
    rw [e1]
    have e2 : (List.range items.size).filterMap (fun k => items[items.size - 1 - k]?) = ((List.range items.size).map fun k => items.size - 1 - k).filterMap (items[·]?) := by
      rw [List.filterMap_map]
      rfl
    rw [e2, PySem.W.krv_range, List.filterMap_reverse, PySem.W.krv_all]
  rw [pick]
  first
    | exact wpAny_bind (m := Builtin.Tuple.tupleExact _) (wpAny_newObj_type (wpAny_pure ⟨_, rfl, wpAny_pure h⟩) hfit)
    | exact wpAny_bind (m := Builtin.Tuple.tupleExact _) (wpAny_newObj_type (wpAny_bind (wpAny_pure (wpAny_pure ⟨_, rfl, wpAny_pure h⟩))) hfit)
    | exact wpAny_bind (wpAny_bind (m := Builtin.Tuple.tupleExact _) (wpAny_newObj_type (wpAny_pure (wpAny_pure ⟨_, rfl, wpAny_pure h⟩)) hfit))
    | exact wpAny_bind (wpAny_bind (m := Builtin.Tuple.tupleExact _) (wpAny_newObj_type (wpAny_pure ⟨_, rfl, wpAny_pure h⟩) hfit))
end
section
variable {X : Cx} {W : WX} {pos : Pos}
def tRevT (K : PySem.W.Frag) (te : TE) : TE := fun σ H Q => te σ H fun x H1 => ∃ a xs, x = .ref a ∧ SqT K H1 a xs ∧ ∀ p, H1 p = none → Q (.ref p) (upd H1 p (.tup xs.reverse))
theorem pe_revT {e : Expr} {te : TE} {k : Nat} {p1 p2 p3 : Pos} (he : PE X e te) : PE X (.Subscript e (.Slice none none (some (.UnaryOp .USub (.Constant (.int 1) k p1) p2)) p3) pos) (tRevT X.K te) := by
  refine ⟨fun pins s σ H Q I h => Subscript_ (thn (he.run pins s σ H _ I h) fun v s1 ⟨x, H1, I1, r1, a, xs, ex, hx, q⟩ => ?_)⟩
  subst ex
  cases r1
  have hst : PO X (some (.UnaryOp .USub (.Constant (.int 1) k p1) p2)) (tPart (tUn (rU fun i => .int (-i)) (tC (.int 1)))) := po_some (pe_un un_neg pe_int)
  refine wpAny_Slice (thn (po_none.run pins s1 σ H1 (fun o H2 => o = none ∧ H2 = H1) I1 ⟨rfl, rfl⟩) fun vl s2 ⟨l, H2, I2, pl, el, e2⟩ => ?_)
  subst el e2
  refine thn (po_none.run pins s2 σ H2 (fun o H3 => o = none ∧ H3 = H2) I2 ⟨rfl, rfl⟩) fun vu s3 ⟨u, H3, I3, pu, eu, e3⟩ => ?_
  subst eu e3
  refine thn (hst.run pins s3 σ H3 (fun o H4 => o = some (-1) ∧ H4 = H3) I3 ⟨1, rfl, -1, rfl, rfl, rfl⟩) fun vs s4 ⟨o, H4, I4, ps, eo, e4⟩ => ?_
  subst eo e4
  cases pl
  cases pu
  cases ps with
  | int i tk =>
    have I5 : Inv X pins σ H4 { s4 with heap := s4.heap.push { cls := .type "slice", data := .fields #[.none, .none, .int (-1) tk] } } := I4.kept (t' := s4.toks) fun b ob q => Heap.get?_push_of_some _ q
    obtain ⟨its, r, ht, hz⟩ := I5.tuple hx
    have hlen := r.length
    show wpAny (model X.prog X.w) X.A (subscriptTail e (.Slice none none (some (.UnaryOp .USub (.Constant (.int 1) k p1) p2)) p3) (.ref a) (.ref s4.heap.objs.size)) (EP X pins σ Q) X.xe { s4 with heap := s4.heap.push { cls := .type "slice", data := .fields #[.none, .none, .int (-1) tk] } }
    refine tail_any (ops := [.ref a, .ref s4.heap.objs.size]) ht.typeIs (PyProof.Rows.slot_tuple_getitem.lookup) ?_ (by with_unfolding_all rfl)
    refine getItem_tuple_rev (u := tk) ht (Heap.IsSliceOf.new _ _ _ _) ?_ (by rw [List.size_toArray]; omega)
    refine ⟨.ref _, _, I5.laid (t' := s4.toks) (o := .tup xs.reverse) (fun b ob q => Heap.get?_push_of_some _ q) (Nat.le_refl _) ?_, rfl, q _ (I5.hok.fresh (Nat.le_refl _))⟩
    exact ⟨by rw [List.length_reverse]; exact hz, its.reverse, r.reverse, ⟨_, Heap.get?_push_size _ rfl, rfl, 0, by simp⟩⟩
theorem RVs.reverse {K : PySem.W.Frag} {F : Addr → Prop} {H : Hp} : ∀ {xs : List V} {ds : List PyData}, RVs K F H xs ds → RVs K F H xs.reverse ds.reverse
  | _, [], h => by cases h; exact .nil
  | _, d :: ds, h => by
    cases h with
    | cons h1 h2 =>
      rw [List.reverse_cons, List.reverse_cons]
      exact RVs.append (RVs.reverse h2) (.cons h1 .nil)
def vRev (v : Val) (M : Mm) : Out Val := match v with
  | .d (.tuple ds) => .ok (.d (.tuple ds.reverse)) M
  | v => match listD v M with
    | some ds => .ok (.d (.list ds.reverse)) M
    | none => .bad
def mRev (m : EM) : EM := fun s M => (m s M).bind vRev
theorem se_rev {e : Expr} {m : EM} {k : Nat} {p1 p2 p3 : Pos} (he : SE X W e m) : SE X W (.Subscript e (.Slice none none (some (.UnaryOp .USub (.Constant (.int 1) k p1) p2)) p3) pos) (mRev m) := by
  refine ⟨⟨fun pins s σ H Q I h => ?_⟩⟩
  obtain ⟨G, sl, M, S, N, p⟩ := h
  cases q : m sl M with
  | bad => unfold mRev at p; rw [q] at p; exact p.elim
  | er x M' => exact (pe_revT he.pe).run pins s σ H Q I ⟨G, sl, M, S, N, by unfold mRev at p; rw [q] at p ⊢; exact p⟩
  | ok v M1 =>
    unfold mRev at p
    rw [q] at p
    replace p : Post X.K X.mg W G σ H (fun G' H' x v => RW X.K G' H' x v) Q (vRev v M1) := p
    unfold vRev at p
    split at p
    · rename_i ds
      refine (pe_revT he.pe).run pins s σ H Q I ⟨G, sl, M, S, N, ?_⟩
      rw [q]
      intro G1 H1 x e1 S1 r1
      have r1 : RV X.K G1.F H1 x (.tuple ds) := r1
      cases r1 with
      | @tup a xs _ h1 h2 =>
        refine ⟨a, xs, rfl, SqT.of h1, fun p' hp' => ?_⟩
        obtain ⟨S2, e2⟩ := S1.lay (o := .tup xs.reverse) hp'
        exact p G1 _ _ (e1.trans e2) S2 (RV.tup upd_same (RVs.reverse (RVs.ext e2 _ _ h2)))
    · split at p
      · rename_i ds ed
        refine (pe_revL he.pe).run pins s σ H Q I ⟨G, sl, M, S, N, ?_⟩
        rw [q]
        intro G1 H1 x e1 S1 r1
        obtain ⟨a, xs, rfl, h1, h2⟩ := listD_ok S1 r1 ed
        refine ⟨a, xs, rfl, h1, fun p' hp' => ?_⟩
        obtain ⟨S2, e2⟩ := S1.layF (o := .lst xs.reverse) hp'
        exact p _ _ _ (e1.trans e2) S2 (RV.lst (.inl rfl) upd_same (RVs.reverse (RVs.ext e2 _ _ h2)))
      · exact p.elim

/-! ### dict displays with written keys -/
def mDct0 : EM := fun _ M => .ok (.d (.dict [])) M
theorem se_dct0 : SE X W (.Dict [] [] pos) mDct0 := by
  refine ⟨peImp pe_dnewK fun σ H Q ⟨G, s, M, S, N, p⟩ q hq => ?_⟩
  obtain ⟨S2, e2⟩ := S.layF (o := .dK []) hq
  exact p _ _ _ e2 S2 (RV.dct (.inl rfl) upd_same .nil)
/-- {} at a place of its own -/
def mDctN : EM := fun _ M => .ok (.obj M.length) (M ++ [.dct []])
theorem pushD {K : PySem.W.Frag} {mg : Str → Option Value} {G : Gh} {M : Mm} {H : Hp} {o : HO} {u : MO} (S : SimM K mg G M H) {p : Addr} (hp : H p = none) (r : Ext G H (G.push p) (upd H p o) → RO K mg (G.push p) (upd H p o) p u) :
    SimM K mg (G.push p) (M ++ [u]) (upd H p o) ∧ Ext G H (G.push p) (upd H p o) ∧ RW K (G.push p) (upd H p o) (.ref p) (.obj M.length) := by
  obtain ⟨S1, e1⟩ := S.lay (o := o) hp
  have e2 : Ext G H (G.push p) (upd H p o) := ext_push hp e1
  refine ⟨S1.push (S.newne hp) (by rw [upd_same]; simp) (r e2), e2, p, rfl, ?_⟩
  show (G.φ ++ [p])[M.length]? = some p
  rw [← S.len]
  simp
theorem se_dctN : SE X W (.Dict [] [] pos) mDctN := by
  refine ⟨peImp pe_dnewK fun σ H Q ⟨G, s, M, S, N, p⟩ q hq => ?_⟩
  obtain ⟨S2, e2, r2⟩ := pushD S (o := .dK []) (u := .dct []) hq fun e => ⟨fun z => S.fthere q z hq, [], upd_same, .nil⟩
  exact p _ _ _ e2 S2 r2
theorem putK_new {κ : Type} [DecidableEq κ] {kvs : List (κ × V)} {k : κ} {v : V} (h : k ∉ kvs.map (·.1)) : putK kvs k v = kvs ++ [(k, v)] := by
  unfold putK
  rw [if_neg]
  intro z
  obtain ⟨p, hp, e⟩ := List.any_eq_true.mp z
  exact h (List.mem_map.mpr ⟨p, hp, of_decide_eq_true e⟩)
theorem mergeK_new : ∀ (more kvs : List (Key × V)), ((kvs ++ more).map (·.1)).Nodup → mergeK kvs more = kvs ++ more
  | [], kvs, _ => by simp [mergeK]
  | p :: more, kvs, h => by
    have h' : (((kvs ++ [p]) ++ more).map (·.1)).Nodup := by simpa using h
    have hn : p.1 ∉ kvs.map (·.1) := by
      rw [List.map_append, List.nodup_append] at h
      exact fun z => h.2.2 _ z _ (by simp) rfl
    show mergeK (putK kvs p.1 p.2) more = _
    rw [putK_new hn]
    have := mergeK_new more (kvs ++ [(p.1, p.2)]) h'
    rw [this]
    simp
/-- the values of a display, from the left -/
structure SPs (X : Cx) (W : WX) (pos : Pos) (keys : List (Option Expr)) (values : List Expr) (ks : List Key) (ms : AM) : Prop where
  ex : ∃ trs, PPs X pos keys values trs ∧ ∀ σ H Q, TAm X.K X.mg W ms σ H (fun ys H' => ys.length = ks.length ∧ Q ((ks.zip ys).map fun p => (kV p.1, p.2)) H') → tPairs trs σ H Q
theorem sps_nil {pos : Pos} : SPs X W pos [] [] [] mNil := ⟨[], pps_nil, fun σ H Q ⟨G, s, M, S, N, p⟩ => (p G H [] .refl S .nil).2⟩
theorem sps_cons {pos : Pos} {k v : Expr} {ks : List (Option Expr)} {vs : List Expr} {key : Key} {keys : List Key} {m : EM} {ms : AM} (hk : PE X k (tC (kV key))) (hv : SE X W v m) (hr : SPs X W pos ks vs keys ms) : SPs X W pos (some k :: ks) (v :: vs) (key :: keys) (mCons m ms) := by
  obtain ⟨trs, h1, h2⟩ := hr.ex
  refine ⟨_, pps_cons hk hv.pe h1, fun σ H Q ⟨G, s, M, S, N, p⟩ => ?_⟩
  refine ⟨G, s, M, S, N, Post.bind p fun u M1 G1 H1 y e1 S1 r1 p1 => h2 _ _ _ ⟨G1, s, M1, S1, N.ext e1, Post.bind p1 fun us M2 G2 H2 ys e2 S2 r2 p2 => ?_⟩⟩
  have q := p2 G2 H2 (y :: ys) .refl S2 (.cons (RW.ext e2 r1) r2)
  exact ⟨by simpa using q.1, by simpa using q.2⟩
def dispK (ks : List Key) (vs : List Val) (M : Mm) : Out Val := match allD vs with
  | some ds => if vs.length = ks.length ∧ ks.Nodup ∧ ks.length ≤ 15 then .ok (.d (.dict ((ks.zip ds).map fun p => (keyD p.1, p.2)))) M else .bad
  | none => .bad
def dispN (ks : List Key) (vs : List Val) (M : Mm) : Out Val := if vs.length = ks.length ∧ ks.Nodup ∧ ks.length ≤ 15 then .ok (.obj M.length) (M ++ [.dct ((ks.zip vs).map fun p => (keyD p.1, p.2))]) else .bad
def mDisp (k : List Val → Mm → Out Val) (ms : AM) : EM := fun s M => (ms s M).bind k
theorem rks_zip {K : PySem.W.Frag} {F : Addr → Prop} {H : Hp} : ∀ {ks : List Key} {ys : List V} {ds : List PyData}, RVs K F H ys ds → RKs K F H (ks.zip ys) ((ks.zip ds).map fun p => (keyD p.1, p.2))
  | [], _, _, _ => by simpa using RKs.nil
  | k :: ks, _, [], h => by cases h; simpa using RKs.nil
  | k :: ks, _, d :: ds, h => by
    cases h with
    | cons h1 h2 => exact .cons h1 (rks_zip h2)
theorem rws_zip {K : PySem.W.Frag} {G : Gh} {H : Hp} : ∀ {ks : List Key} {ys : List V} {vs : List Val}, RWs K G H ys vs → Paired (fun (y : Key × V) (k : PyData × Val) => k.1 = keyD y.1 ∧ RW K G H y.2 k.2) (ks.zip ys) ((ks.zip vs).map fun p => (keyD p.1, p.2))
  | [], _, _, _ => by simpa using Paired.nil
  | k :: ks, _, _, .nil => by simpa using Paired.nil
  | k :: ks, _, _, .cons h t => .cons ⟨rfl, h⟩ (rws_zip t)
theorem zip_keys {ks : List Key} {ys : List V} (h : ys.length = ks.length) : (ks.zip ys).map (·.1) = ks := by
  rw [List.map_fst_zip]
  omega
theorem se_disp {keys : List (Option Expr)} {values : List Expr} {ks : List Key} {ms : AM} {k : List Val → Mm → Out Val} (hk : k = dispK ks ∨ k = dispN ks) (h : SPs X W pos keys values ks ms) (hall : keys.all (·.isSome) = true := by rfl) (hl : keys.length = values.length := by rfl) (h0 : keys ≠ [] := by intro z; cases z)
    (h15 : keys.length ≤ 15 := by decide) : SE X W (.Dict keys values pos) (mDisp k ms) := by
  obtain ⟨trs, hp, hr⟩ := h.ex
  refine ⟨peImp (pe_disp hp hall hl h0 h15) fun σ H Q ⟨G, s, M, S, N, p⟩ q hq => ?_⟩
  obtain ⟨S1, e1⟩ := S.lay (o := .dK []) hq
  have nF : ¬ G.F q := fun z => S.fthere q z hq
  have nφ := S.newne hq
  have p : Post X.K X.mg W G σ H (fun G' H' x v => RW X.K G' H' x v) Q ((ms s M).bind k) := p
  refine hr _ _ _ ⟨G, s, M, S1, N.ext e1, ?_⟩
  cases em : ms s M with
  | bad => rw [em] at p; exact p.elim
  | er x M1 => rw [em] at p; exact fun G' H' c d e => p G' H' c d (e1.trans e)
  | ok vs M1 =>
    rw [em] at p
    replace p : Post X.K X.mg W G σ H (fun G' H' x v => RW X.K G' H' x v) Q (k vs M1) := p
    intro G2 H2 ys e2 S2 r2
    have hx : (upd H q (.dK [])) q = some (.dK []) := upd_same
    have nn : (upd H q (.dK [])) q ≠ none := by rw [hx]; simp
    have hx2 : H2 q = some (.dK []) := by rw [e2.keep q nn nφ]; exact hx
    have nφ2 : q ∉ G2.φ := fun z => (e2.φnew q z).elim nφ nn
    have nF2 : ¬ G2.F q := fun z => (e2.Fnew q z).elim nF fun z => z.elim nn nφ
    have eA : Ext G H G2 H2 := e1.trans e2
    have hlen := Paired.len r2
    have common : ∀ (hc : vs.length = ks.length ∧ ks.Nodup ∧ ks.length ≤ 15), ys.length = ks.length ∧ mergeK [] (ks.zip ys) = ks.zip ys := fun hc => by
      have hy : ys.length = ks.length := by rw [hlen]; exact hc.1
      refine ⟨hy, ?_⟩
      have := mergeK_new (ks.zip ys) [] (by rw [List.nil_append, zip_keys hy]; exact hc.2.1)
      simpa using this
    have e0 : ∀ o, Ext0 G2 H2 G2 (upd H2 q o) := fun o => ext0_side nF2 (fun xs z => by rw [hx2] at z; cases z) (fun a b z => by rw [hx2] at z; cases z)
    have S3 : ∀ o, SimM X.K X.mg G2 M1 (upd H2 q o) := fun o => S2.side nφ2 nF2 (fun xs z => by rw [hx2] at z; cases z) (fun a b z => by rw [hx2] at z; cases z)
    have eB : ∀ o, Ext G H G2 (upd H2 q o) := fun o => eA.side hq nF
    rcases hk with rfl | rfl
    · unfold dispK at p
      split at p
      · rename_i ds ed
        split at p
        · rename_i hc
          obtain ⟨c1, c2⟩ := common hc
          refine ⟨c1, hx2, ks.zip ys, rfl, by rw [List.length_zip]; have := hc.2.2; omega, ?_⟩
          rw [c2]
          have e4 : Ext0 G2 (upd H2 q (.dK (ks.zip ys))) (G2.fix q) (upd H2 q (.dK (ks.zip ys))) := ⟨⟨[], by simp [Gh.fix]⟩, fun _ _ h => h, fun _ _ _ h => h, fun b h => ⟨.inr h, rfl⟩⟩
          have S4 := (S3 (.dK (ks.zip ys))).grow e4 rfl (fun _ _ => rfl) (fun a ha h z => z.elim (fun z => nφ2 (z ▸ ha)) h) (fun a h => h.elim (fun z => by rw [z, upd_same]; simp) ((S3 _).fthere a))
          refine p (G2.fix q) _ _ ⟨(eB _).toExt0.trans e4, (eB _).keep, (eB (.dK [])).φnew, fun a h => h.elim (fun z => .inr (.inl (z ▸ hq))) ((eB (.dK [])).Fnew a)⟩ S4 (RV.dct (.inl rfl) upd_same ?_)
          exact rks_zip (RVs.ext0 ((e0 _).trans e4) _ _ (allD_ok ed r2))
        · exact p.elim
      · exact p.elim
    · unfold dispN at p
      split at p
      · rename_i hc
        obtain ⟨c1, c2⟩ := common hc
        refine ⟨c1, hx2, ks.zip ys, rfl, by rw [List.length_zip]; have := hc.2.2; omega, ?_⟩
        rw [c2]
        have e4 : Ext0 G2 (upd H2 q (.dK (ks.zip ys))) (G2.push q) (upd H2 q (.dK (ks.zip ys))) := ext_push0 .refl
        have S4 := (S3 (.dK (ks.zip ys))).push nφ2 (by rw [upd_same]; simp) (o := .dct ((ks.zip vs).map fun p => (keyD p.1, p.2))) ⟨nF2, _, upd_same, rws_zip (RWs.ext0 ((e0 _).trans e4) r2)⟩
        refine p (G2.push q) _ _ ⟨(eB _).toExt0.trans e4, (eB _).keep, fun a h => (List.mem_append.mp h).elim ((eB (.dK [])).φnew a) fun h => by
          have : a = q := by simpa using h
          rw [this]
          exact .inr hq, (eB (.dK [])).Fnew⟩ S4 ⟨q, rfl, ?_⟩
        show (G2.φ ++ [q])[M1.length]? = some q
        rw [← S2.len]
        simp
      · exact p.elim

/-! ### (a, b, ..) = (x, y, ..): through a tuple -/
def sTup (n : Nat) (a : AM) (g : GMs) : SM := fun s M => (a s M).bindS s fun vs M1 => if vs.length = n ∧ n ≤ 1000 then match g vs s M1 with
  | some (s', M') => .nx s' M'
  | none => .bad else .bad
theorem ss_tup {es ts : List Expr} {k k2 : Nat} {p1 p2 : Pos} {ma : AM} {g : GMs} {n : Nat} (hc : X.calm = true) (ha : SA X W es ma) (hg : SGs X ts g) (hn : (assignEach ts X.env).length = n := by rfl) (hst : (assignEach ts X.env).findIdx? (·.1) = none := by rfl)
    (hs : swapsWithSole [.Tuple ts k p1] (.Tuple es k2 p2) pos.line X.env = pure false := by rfl) (hw : swappedStores [.Tuple ts k p1] (.Tuple es k2 p2) X.env = pure none := by rfl)
    (h1 : (assignEach [.Tuple ts k p1] X.env).map (·.2) = [assign (.Tuple ts k p1) X.env] := by rfl) : SS X W (.Assign [.Tuple ts k p1] (.Tuple es k2 p2) pos) (sTup n ma g) := by
  refine ⟨psImp (ps_asg (pe_tup ha.pa) (pg_tup hc hg.pgs hn hst) hs hw h1) fun D σ H ⟨G, s, M, S, N, p⟩ => ⟨G, s, M, S, N, PostS.bind N p fun vs M1 G1 H1 xs e1 S1 r1 p1 => ?_⟩⟩
  split at p1
  · rename_i hl
    have hlen := Paired.len r1
    refine ⟨by rw [hlen, hl.1]; exact Nat.le_trans hl.2 (by decide), fun q hq => ?_⟩
    obtain ⟨S2, e2⟩ := S1.lay (o := .tup xs) hq
    refine ⟨q, xs, rfl, .inl (.inl upd_same), by rw [hlen]; exact hl.1, G1, s, M1, vs, S2, (N.ext e1).ext e2, RWs.ext e2 r1, ?_⟩
    exact PostG.ext e2 (PostG.of p1)
  · exact p1.elim
end
end Zm
namespace Zm
open PySem PySem.Spec PyProof.Rows L2

/-- where a def of the text stands -/
structure DefAt (K : PySem.W.Frag) (mg : Str → Option Value) (x : Str) (st : Stmt) : Prop where
  ex : ∃ f fd, Fun K x x st f fd ∧ mg x = some (.ref f)
/-- what a def does -/
structure DefZ (P : Program) (w : World) (K : PySem.W.Frag) (mg : Str → Option Value) (base : Heap) (k : Nat) (x : Str) (st : Stmt) (ps : List Str) (den : Den) : Prop where
  ex : ∃ f fd, Fun K x x st f fd ∧ mg x = some (.ref f) ∧ FnZ P w K mg base k f fd ps den
/-- how the arguments of a def of the text bind -/
def BindZ (x : Str) (st : Stmt) (ps : List Str) : Prop := ∀ (kV doc pm : Value) (an : Option Addr) (cdv ct : Value) (us : List Value), us.length = ps.length →
  bindArgs (PySem.W.fnOf x x (defArgs st) (defBody st) (defScope st) .none kV doc pm an cdv ct) ⟨us, []⟩ = pure (ps.zip us)
def KBindZ (x : Str) (st : Stmt) (ps ks : List Str) (np nk : Nat) (ix : List Nat) : Prop := ∀ (kV doc pm : Value) (an : Option Addr) (cdv ct : Value) (us ws : List Value), us.length = np → ws.length = nk →
  bindArgs (PySem.W.fnOf x x (defArgs st) (defBody st) (defScope st) .none kV doc pm an cdv ct) ⟨us, ks.zip ws⟩ = pure (ps.zip (pickBy ix (us ++ ws))) ∧ (pickBy ix (us ++ ws)).length = ps.length
theorem defZ {P : Program} {w : World} {K : PySem.W.Frag} {mg : Str → Option Value} {base : Heap} {x : Str} {st : Stmt} {N ps : List Str} {k : Nat} {b : SM} (D : DefAt K mg x st) (S : FnScope N ps (defScope st)) (hps : ps.length ≤ N.length)
    (hbody : ∀ (f : Addr) (cdv : Value) (A : Around) (outer : List Env) (s : Shared) (H : Hp) (E : XK), Room k (A.deeper (envOfC x (defScope st) s.heap.objs.size f cdv)) → (CxZ P w K mg base N x (defScope st) f cdv A outer s H E).A.guards = some [] →
      SSs (CxZ P w K mg base N x (defScope st) f cdv A outer s H E) (fun c d _ H' => E c d H') (defBody st) b) : DefZ P w K mg base (k + 1) x st ps (trim (body N.length b)) := by
  obtain ⟨f, fd, F, g⟩ := D.ex
  exact ⟨f, fd, F, g, (Fun.fnz F S hps fun cdv A outer s H E hr hG => hbody f cdv A outer s H E hr hG).trim⟩
theorem defAt {K : PySem.W.Frag} {h : Heap} {mg : Str → Option Value} {x : Str} {st : Stmt} {f : Addr} {oc : Value} {od an : Option Addr} {osl : Array (Option Value)} {kV doc pm cdv ct : Value} (X : K.In h) (G : h.Ns mainGlobals mg) (a : PySem.W.nsIn K mainGlobals x = some (some (.ref f)))
    (l : K.lookup f = some ⟨oc, od, .func (PySem.W.fnOf x x (defArgs st) (defBody st) (defScope st) .none kV doc pm an cdv ct), osl⟩) (c : PySem.W.codeIn K cdv x = true) (k : PySem.W.keepIn K (.ref f) = true) : DefAt K mg x st :=
  ⟨f, _, fun_mk l c k, PySem.W.mg_of X G a⟩
/-- the law's own def, for the end -/
theorem defZ_law {P : Program} {w : World} {K : PySem.W.Frag} {mg : Str → Option Value} {k : Nat} {st : Stmt} {den : Den} {fa : Addr} (hfa : mg "law" = some (.ref fa)) (hb : BindZ "law" st ["script"])
    (D : ∀ base : Heap, DefZ P w K mg base k "law" st ["script"] den) (D0 : DefAt K mg "law" st) : ∃ fd : FuncData, (∀ (s : Shared) (u : Value), BindsTo s fd ⟨[u], []⟩ [("script", u)]) ∧ ∀ base : Heap, FnZ P w K mg base k fa fd ["script"] den := by
  obtain ⟨f, fd, F, g⟩ := D0.ex
  have e := hfa.symm.trans g
  cases e
  refine ⟨fd, fun s u => ?_, fun base => ?_⟩
  · obtain ⟨oc, od, kV, doc, pm, an, cdv, ct, osl, rfl, lk, hcd⟩ := F.ex
    exact .of_eq (hb kV doc pm an cdv ct [u] rfl)
  · obtain ⟨f', fd', F', g', Z⟩ := (D base).ex
    have e := g.symm.trans g'
    cases e
    obtain ⟨_, _, _, _, _, _, _, _, _, _, l1, _⟩ := F.ex
    obtain ⟨_, _, _, _, _, _, _, _, _, _, l2, _⟩ := F'.ex
    rw [l1] at l2
    cases l2
    exact Z
section
variable {X : Cx} {W : WX} {k : Nat} {ps : List Str} {den : Den} {x : Str} {st : Stmt} {p pos : Pos} {e : Expr} {es : List Expr} {ms mk : AM}
theorem se_callD {n : Nat} (D : DefZ X.prog X.w X.K X.mg X.base k x st ps den) (hb : BindZ x st ps) (hr : Room k X.A) (hG : X.A.guards = some []) (tk : Takes X W) (hg : Gl X x)
    (ha : SA X W (e :: es) ms) (hn : ps.length = n := by rfl) (hdb : (x == ("__debug__" : Str)) = false := by decide) (he : starEach (e :: es) X.env = (false, eval e X.env) :: starEach es X.env := by rfl)
    (hpl : (backTo pos (starEach es X.env)).any (·.1) = false := by rfl) : SE X W (.Call (.Name x p) (e :: es) [] pos) (mCall n den ms) := by
  obtain ⟨f, fd, F, g, Z⟩ := D.ex
  exact se_call Z hr hG tk hg g F.kp (F.binds hb) ha hn hdb he hpl
theorem se_callD0 (D : DefZ X.prog X.w X.K X.mg X.base k x st [] den) (hb : BindZ x st []) (hr : Room k X.A) (hG : X.A.guards = some []) (tk : Takes X W) (hg : Gl X x)
    (hdb : (x == ("__debug__" : Str)) = false := by decide) : SE X W (.Call (.Name x p) [] [] pos) (mCall 0 den mNil) := by
  obtain ⟨f, fd, F, g, Z⟩ := D.ex
  exact se_call0 Z hr hG tk hg g F.kp (F.binds hb) hdb
theorem se_callDK {np nk : Nat} {ks : List Str} {ix : List Nat} {kws : List Keyword} (D : DefZ X.prog X.w X.K X.mg X.base k x st ps den) (hb : KBindZ x st ps ks np nk ix) (hr : Room k X.A) (hG : X.A.guards = some []) (tk : Takes X W) (hg : Gl X x)
    (ha : SA X W (e :: es) ms) (hkw : SK X W kws mk)
    (hall : (backToKw pos (keywordEach kws X.env)).all (·.1.isSome) = true := by rfl) (hks : (backToKw pos (keywordEach kws X.env)).filterMap (·.1) = ks := by rfl)
    (hdb : (x == ("__debug__" : Str)) = false := by decide) (he : starEach (e :: es) X.env = (false, eval e X.env) :: starEach es X.env := by rfl)
    (hpl : ((backTo pos (starEach (e :: es) X.env)).any (·.1) || (backToKw pos (keywordEach kws X.env)).any (·.1.isNone)) = false := by rfl) : SE X W (.Call (.Name x p) (e :: es) kws pos) (mCallK np nk den ix ms mk) := by
  obtain ⟨f, fd, F, g, Z⟩ := D.ex
  exact se_callK Z hr hG tk hg g F.kp (kbz F hb) ha hkw hall hks hdb he hpl
theorem se_callDK0 {nk : Nat} {ks : List Str} {ix : List Nat} {kws : List Keyword} (D : DefZ X.prog X.w X.K X.mg X.base k x st ps den) (hb : KBindZ x st ps ks 0 nk ix) (hr : Room k X.A) (hG : X.A.guards = some []) (tk : Takes X W) (hg : Gl X x)
    (hkw : SK X W kws mk)
    (hall : (backToKw pos (keywordEach kws X.env)).all (·.1.isSome) = true := by rfl) (hks : (backToKw pos (keywordEach kws X.env)).filterMap (·.1) = ks := by rfl)
    (hdb : (x == ("__debug__" : Str)) = false := by decide)
    (hpl : ((backTo pos (starEach [] X.env)).any (·.1) || (backToKw pos (keywordEach kws X.env)).any (·.1.isNone)) = false := by rfl) : SE X W (.Call (.Name x p) [] kws pos) (mCallK 0 nk den ix mNil mk) := by
  obtain ⟨f, fd, F, g, Z⟩ := D.ex
  exact se_callK0 Z hr hG tk hg g F.kp (kbz F hb) hkw hall hks hdb hpl
/-! ### what is walked, in short -/
theorem si_seqE {tg e : Expr} {m : EM} (h : SE X W e m) : SI X W tg e (mIt m) := si_seq h (pi_list h.pe) (pi_tup h.pe)
theorem si_enumE {ts : List Expr} {kk : Nat} {tpos : Pos} (hg : Gl X "enumerate") (hm : X.mg "enumerate" = none) (ha : SA X W [e] ms) (hs : starEach [e] X.env = [(false, eval e X.env)] := by rfl) : SI X W (.Tuple ts kk tpos) (.Call (.Name "enumerate" p) [e] [] pos) (mEnum ms) :=
  si_enum ha (pi_enum hg hm ha.pa hs) (pi_enumT hg hm ha.pa hs)
theorem si_range1E {tg : Expr} (hg : Gl X "range") (hm : X.mg "range" = none) (ha : SA X W [e] ms) (hs : starEach [e] X.env = [(false, eval e X.env)] := by rfl) : SI X W tg (.Call (.Name "range" p) [e] [] pos) (mRange1 ms) :=
  si_range1 (pi_range1 hg hm ha.pa hs)
theorem si_range2E {tg a b : Expr} (hg : Gl X "range") (hm : X.mg "range" = none) (ha : SA X W [a, b] ms) (hs : starEach [a, b] X.env = [(false, eval a X.env), (false, eval b X.env)] := by rfl) (hs2 : starEach [b] X.env = [(false, eval b X.env)] := by rfl) : SI X W tg (.Call (.Name "range" p) [a, b] [] pos) (mRange2 ms) :=
  si_range2 (pi_range2 hg hm ha.pa hs hs2)
end
end Zm
namespace Zm
open PySem PySem.Spec PyProof.Rows L2
variable {X : Cx} {W : WX}
/-! ### a range, laid out as a list -/
def ranD (lo hi : Int) : List PyData := (List.range (hi - lo).toNat).map fun i => .int (lo + (i : Nat))
def okR (i : Int) : Bool := decide (0 ≤ i) && decide (i ≤ 16777216)
theorem okR_rg {a b : Int} (h1 : okR a = true) (h2 : okR b = true) : RgOk a b := by
  unfold okR at h1 h2
  rw [Bool.and_eq_true, decide_eq_true_eq, decide_eq_true_eq] at h1 h2
  exact .of_le h1.1 h2.2 h1.2 h2.1
theorem rvs_rgV {K : PySem.W.Frag} {F : Addr → Prop} {H : Hp} (a b : Int) : RVs K F H (rgV a b) (ranD a b) := by
  unfold rgV ranD
  induction List.range (b - a).toNat with
  | nil => exact .nil
  | cons n ns ih => exact .cons (.int _) ih
theorem rws_rgV {K : PySem.W.Frag} {G : Gh} {H : Hp} (a b : Int) : RWs K G H (rgV a b) ((ranD a b).map .d) := RVs.rws (rvs_rgV a b)
def mLR1 (m : EM) : EM := fun s M => (m s M).bind fun v M1 => match v with
  | .d (.int j) => if okR j then .ok (.d (.list (ranD 0 j))) M1 else .bad
  | _ => .bad
def mLR1N (m : EM) : EM := fun s M => (m s M).bind fun v M1 => match v with
  | .d (.int j) => if okR j then .ok (.obj M1.length) (M1 ++ [.lst ((ranD 0 j).map .d)]) else .bad
  | _ => .bad
theorem se_lr1 {a : Expr} {m : EM} {p p2 pos pos2 : Pos} (hc : X.calm = true) (hgl : Gl X "list") (hml : X.mg "list" = none) (hg : Gl X "range") (hm : X.mg "range" = none) (ha : SE X W a m)
    (na : starEach [a] X.env = (false, eval a X.env) :: starEach [] X.env := by rfl)
    (nb : starEach [.Call (.Name "range" p2) [a] [] pos2] X.env = (false, eval (.Call (.Name "range" p2) [a] [] pos2) X.env) :: starEach [] X.env := by rfl) : SE X W (.Call (.Name "list" p) [.Call (.Name "range" p2) [a] [] pos2] [] pos) (mLR1 m) := by
  refine ⟨peImp (pe_listRg hc hgl hml (prg_1 hg hm ha.pe na) nb) fun σ H Q ⟨G, s, M, S, N, p⟩ => ⟨G, s, M, S, N, Post.bind p fun v M1 G1 H1 x e1 S1 r1 p1 => ?_⟩⟩
  split at p1
  · rename_i j
    have r1 : RV X.K G1.F H1 x (.int j) := r1
    cases r1
    split at p1
    · rename_i hj
      refine ⟨j, rfl, okR_rg (by decide) hj, fun q hq => ?_⟩
      obtain ⟨S2, e2⟩ := S1.layF (o := .lst (rgV 0 j)) hq
      exact p1 _ _ _ e2 S2 (RV.lst (.inl rfl) upd_same (rvs_rgV 0 j))
    · exact p1.elim
  · exact p1.elim
theorem se_lr1N {a : Expr} {m : EM} {p p2 pos pos2 : Pos} (hc : X.calm = true) (hgl : Gl X "list") (hml : X.mg "list" = none) (hg : Gl X "range") (hm : X.mg "range" = none) (ha : SE X W a m)
    (na : starEach [a] X.env = (false, eval a X.env) :: starEach [] X.env := by rfl)
    (nb : starEach [.Call (.Name "range" p2) [a] [] pos2] X.env = (false, eval (.Call (.Name "range" p2) [a] [] pos2) X.env) :: starEach [] X.env := by rfl) : SE X W (.Call (.Name "list" p) [.Call (.Name "range" p2) [a] [] pos2] [] pos) (mLR1N m) := by
  refine ⟨peImp (pe_listRg hc hgl hml (prg_1 hg hm ha.pe na) nb) fun σ H Q ⟨G, s, M, S, N, p⟩ => ⟨G, s, M, S, N, Post.bind p fun v M1 G1 H1 x e1 S1 r1 p1 => ?_⟩⟩
  split at p1
  · rename_i j
    have r1 : RV X.K G1.F H1 x (.int j) := r1
    cases r1
    split at p1
    · rename_i hj
      refine ⟨j, rfl, okR_rg (by decide) hj, fun q hq => ?_⟩
      obtain ⟨S2, e2, r3⟩ := S1.pushL hq (rws_rgV 0 j)
      exact p1 _ _ _ e2 S2 r3
    · exact p1.elim
  · exact p1.elim
def rg2 (vs : List Val) : Option (List PyData) := match vs with
  | [.d (.int i), .d (.int j)] => if okR i && okR j then some (ranD i j) else none
  | _ => none
/-! ### a tuple times a number -/
theorem tuple_mul1 (l : Addr) (items : Array Value) (n : Nat) (dd : Option Addr) (sl : Array (Option Value)) (x : Int) (u : Tok) (c0 : (decide (x < -(2 ^ 63)) || decide (x ≥ 2 ^ 63)) = false) (c1 : (items.isEmpty || x == 1) = true) :
    Meets (Builtin.«tuple.__mul__» ⟨[.ref l, .int x u], []⟩) (fun _ R s => s.heap.get? l = some { cls := .type "tuple", dict := dd, data := .seq items n, slots := sl } ∧ R (.ok (.ret (Value.ref l))) s) :=
  .of_wp fun prog w A R s h => by
    obtain ⟨hp, g, d, tk, os⟩ := s
    obtain ⟨hl, h⟩ := h
    have f1 := AutoSeq1.idx_int
    wp_walk using wpAny_loadPart' hl
    repeat (first
      | (refine wpAny_ite_false (decide_eq_false (by rw [c0]; exact Bool.false_ne_true)) ?_; wp_walk using wpAny_loadPart' hl)
      | (refine wpAny_ite_true (decide_eq_true (by rw [c1])) ?_; wp_walk using wpAny_loadPart' hl))
    exact ⟨_, rfl, h⟩
def rRepT1 (K : PySem.W.Frag) : R2 := fun x y H Q => ∃ l k xs, x = .ref l ∧ y = .int k ∧ SqT K H l xs ∧ (xs = [] ∨ k = 1) ∧ k.natAbs ≤ 1000 ∧ Q x H
theorem op_repT1 : OpR X (binaryOp .Mult) (rRepT1 X.K) := by
  intro pins s σ H x y v u Q I rx ry h
  obtain ⟨l, k, xs, rfl, rfl, hT, hk, hz, q⟩ := h
  cases rx
  obtain ⟨t, rfl⟩ := ry
  obtain ⟨its, r, ⟨⟨cls, dd, data, sl⟩, ho, hc, n, hd⟩, hs⟩ := I.tuple hT
  simp only at hc hd
  subst hc hd
  have hle : its.length = xs.length := r.length.symm
  have c0 : (decide (k < -(2 ^ 63)) || decide (k ≥ 2 ^ 63)) = false := by
    rw [decide_eq_false (by omega), decide_eq_false (by omega)] <;> rfl
  have c1 : (its.toArray.isEmpty || k == 1) = true := by
    rcases hk with rfl | rfl
    · have : its = [] := List.eq_nil_of_length_eq_zero hle
      subst this
      rfl
    · rw [Bool.or_eq_true]
      exact .inr rfl
  refine wpAny_binaryOp_repeat_ref (T := "tuple") (U := "int") (by decide) ⟨_, ho, rfl⟩ (fun s' => typeIs_int s' k t) noFill_tuple_mul F.fills_int_mul F.slot_int_rmul repeat_tuple F.slot_int_index.lookup
    (call_meets F.slot_int_rmul (typeIs_int s k t) F.entry_int_rmul (F.args_int_rmul_2 _ _) (int_rmul_tuple k t l its.toArray n dd sl)
      ⟨ho, rfl, ⟨_, ho, rfl⟩, call_meets F.slot_tuple_mul ⟨_, ho, rfl⟩ F.entry_tuple_mul (F.args_tuple_mul_2 _ _) (tuple_mul1 l its.toArray n dd sl k t c0 c1) ⟨ho, ?_⟩⟩)
  exact ⟨.ref l, _, I, rfl, q⟩
theorem tuple_mul0 (l : Addr) (items : Array Value) (n : Nat) (dd : Option Addr) (sl : Array (Option Value)) (x : Int) (u : Tok) (c0 : (decide (x < -(2 ^ 63)) || decide (x ≥ 2 ^ 63)) = false) (c1 : (items.isEmpty || x == 1) = false) (c2 : (decide (x ≤ 0) || items.isEmpty) = true) :
    Meets (Builtin.«tuple.__mul__» ⟨[.ref l, .int x u], []⟩) (fun _ R s => s.heap.get? l = some { cls := .type "tuple", dict := dd, data := .seq items n, slots := sl } ∧
      R (.ok (.ret (Value.ref s.heap.objs.size))) { s with heap := s.heap.push { cls := Value.type "tuple", data := Data.seq #[] }, toks := s.toks }) :=
  .of_wp fun prog w A R s h => by
    obtain ⟨hp, g, d, tk, os⟩ := s
    obtain ⟨hl, h⟩ := h
    have f1 := AutoSeq1.idx_int
    wp_walk using wpAny_loadPart' hl
    repeat (first
      | (refine wpAny_ite_false (decide_eq_false (by rw [c0]; exact Bool.false_ne_true)) ?_; wp_walk using wpAny_loadPart' hl)
      | (refine wpAny_ite_false (decide_eq_false (by rw [c1]; exact Bool.false_ne_true)) ?_; wp_walk using wpAny_loadPart' hl)
      | (refine wpAny_ite_true (decide_eq_true (by rw [c2])) ?_; wp_walk using wpAny_loadPart' hl))
    exact ⟨_, rfl, h⟩
def rRepT0 (K : PySem.W.Frag) : R2 := fun x y H Q => ∃ l k xs, x = .ref l ∧ y = .int k ∧ SqT K H l xs ∧ xs ≠ [] ∧ k ≤ 0 ∧ -1000 ≤ k ∧ ∀ p, H p = none → Q (.ref p) (upd H p (.tup []))
theorem op_repT0 : OpR X (binaryOp .Mult) (rRepT0 X.K) := by
  intro pins s σ H x y v u Q I rx ry h
  obtain ⟨l, k, xs, rfl, rfl, hT, hne, h1, h2, q⟩ := h
  cases rx
  obtain ⟨t, rfl⟩ := ry
  obtain ⟨its, r, ⟨⟨cls, dd, data, sl⟩, ho, hc, n, hd⟩, hs⟩ := I.tuple hT
  simp only at hc hd
  subst hc hd
  have hle : its.length = xs.length := r.length.symm
  have hi : its.toArray.isEmpty = false := by
    cases its with
    | nil => exact absurd (List.eq_nil_of_length_eq_zero hle.symm) hne
    | cons a b => rfl
  have c0 : (decide (k < -(2 ^ 63)) || decide (k ≥ 2 ^ 63)) = false := by
    rw [decide_eq_false (by omega), decide_eq_false (by omega)] <;> rfl
  have c1 : (its.toArray.isEmpty || k == 1) = false := by
    rw [hi, Bool.false_or]
    exact beq_eq_false_iff_ne.mpr (by omega)
  have c2 : (decide (k ≤ 0) || its.toArray.isEmpty) = true := by
    rw [decide_eq_true h1]
    rfl
  refine wpAny_binaryOp_repeat_ref (T := "tuple") (U := "int") (by decide) ⟨_, ho, rfl⟩ (fun s' => typeIs_int s' k t) noFill_tuple_mul F.fills_int_mul F.slot_int_rmul repeat_tuple F.slot_int_index.lookup
    (call_meets F.slot_int_rmul (typeIs_int s k t) F.entry_int_rmul (F.args_int_rmul_2 _ _) (int_rmul_tuple k t l its.toArray n dd sl)
      ⟨ho, rfl, ⟨_, ho, rfl⟩, call_meets F.slot_tuple_mul ⟨_, ho, rfl⟩ F.entry_tuple_mul (F.args_tuple_mul_2 _ _) (tuple_mul0 l its.toArray n dd sl k t c0 c1 c2) ⟨ho, ?_⟩⟩)
  refine ⟨.ref s.heap.objs.size, _, I.laid (t' := s.toks) (o := .tup []) (fun b ob q => Heap.get?_push_of_some _ q) (Nat.le_refl _) ?_, rfl, q _ (I.hok.fresh (Nat.le_refl _))⟩
  exact ⟨Nat.zero_le _, [], .nil, IsTup.new _ _⟩
/-- a product of ints, or so many times a tuple or a list -/
def vMulX (v w : Val) (M : Mm) : Out Val := match v, w with
  | .d (.int a), .d (.int b) => if smallI a || smallI b then .ok (.d (.int (a * b))) M else .bad
  | .d (.tuple ds), .d (.int k) => if ds.isEmpty || decide (k = 1) then (if k.natAbs ≤ 1000 then .ok (.d (.tuple ds)) M else .bad)
    else if 2 ≤ k ∧ k ≤ 1000 ∧ ds.length ≤ 1000 then .ok (.d (.tuple (List.replicate k.toNat ds).flatten)) M else if k ≤ 0 ∧ -1000 ≤ k then .ok (.d (.tuple [])) M else .bad
  | v, .d (.int k) => match trackD v M with
    | some ds => if k.natAbs ≤ 1000000000 ∧ ds.length * k.toNat ≤ 16777216 then .ok (.d (.list (List.replicate k.toNat ds).flatten)) M else .bad
    | none => .bad
  | _, _ => .bad
theorem RVs.rep {K : PySem.W.Frag} {F : Addr → Prop} {H : Hp} {xs : List V} {ds : List PyData} (h : RVs K F H xs ds) : ∀ n : Nat, RVs K F H (List.replicate n xs).flatten (List.replicate n ds).flatten
  | 0 => .nil
  | n + 1 => by
    rw [List.replicate_succ, List.replicate_succ, List.flatten_cons, List.flatten_cons]
    exact RVs.append h (RVs.rep h n)
theorem oz_mulx : OpZ X (fun x y H Q => (rI CMul fun i j => .int (i * j)) x y H Q ∨ rRepT1 X.K x y H Q ∨ rRepT X.K x y H Q ∨ rRep x y H Q ∨ rRepT0 X.K x y H Q) vMulX := by
  intro W G M σ H Q x y v w S r1 r2 p
  unfold vMulX at p
  split at p
  · rename_i a b
    have r1 : RV X.K G.F H x (.int a) := r1
    have r2 : RV X.K G.F H y (.int b) := r2
    cases r1; cases r2
    split at p
    · rename_i hc
      rw [Bool.or_eq_true] at hc
      exact .inl ⟨a, b, rfl, rfl, hc.imp smallI_ok smallI_ok, p G H _ .refl S (RV.int _)⟩
    · exact p.elim
  · rename_i ds k
    have q1 := r1
    have r1 : RV X.K G.F H x (.tuple ds) := r1
    have r2 : RV X.K G.F H y (.int k) := r2
    cases r2
    cases r1 with
    | @tup pa xs _ h1 h2 =>
      split at p
      · rename_i hc
        split at p
        · rename_i hz
          refine .inr (.inl ⟨pa, k, xs, rfl, rfl, SqT.of h1, ?_, hz, p G H _ .refl S q1⟩)
          rw [Bool.or_eq_true, decide_eq_true_eq] at hc
          refine hc.imp (fun e => ?_) id
          cases ds with
          | nil => cases h2; rfl
          | cons _ _ => cases e
        · exact p.elim
      · rename_i hc
        split at p
        · rename_i hz
          refine .inr (.inr (.inl ⟨pa, k, xs, rfl, rfl, SqT.of h1, fun e => ?_, hz.1, hz.2.1, by rw [h2.len]; exact hz.2.2, fun q hq => ?_⟩))
          · subst e
            cases h2
            exact hc rfl
          · obtain ⟨S2, e2⟩ := S.lay (o := .tup (List.replicate k.toNat xs).flatten) hq
            exact p _ _ _ e2 S2 (RV.tup upd_same (RVs.rep (RVs.ext e2 _ _ h2) _))
        · split at p
          · rename_i hz
            refine .inr (.inr (.inr (.inr ⟨pa, k, xs, rfl, rfl, SqT.of h1, fun e => ?_, hz.1, hz.2, fun q hq => ?_⟩)))
            · subst e
              cases h2
              exact hc rfl
            · obtain ⟨S2, e2⟩ := S.lay (o := .tup []) hq
              exact p _ _ _ e2 S2 (RV.tup upd_same .nil)
          · exact p.elim
  · rename_i k n1 n2
    split at p
    · rename_i ds hd
      split at p
      · rename_i hz
        obtain ⟨pa, xs, rfl, h1, h2⟩ := trackD_ok S r1 hd
        have r2 : RV X.K G.F H y (.int k) := r2
        cases r2
        refine .inr (.inr (.inr (.inl ⟨pa, k, xs, rfl, rfl, h1, by omega, by omega, by rw [h2.len]; exact hz.2, fun q hq => ?_⟩)))
        obtain ⟨S2, e2⟩ := S.layF (o := .lst (List.replicate k.toNat xs).flatten) hq
        exact p _ _ _ e2 S2 (RV.lst (.inl rfl) upd_same (RVs.rep (RVs.ext e2 _ _ h2) _))
      · exact p.elim
    · exact p.elim
  · exact p.elim
theorem se_mulx {a b : Expr} {ma mb : EM} {pos : Pos} (ha : SE X W a ma) (hb : SE X W b mb) : SE X W (.BinOp a .Mult b pos) (mOp vMulX ma mb) :=
  se_op (OpR.or op_mul (OpR.or op_repT1 (OpR.or op_repT (OpR.or op_rep op_repT0)))) oz_mulx ha hb
end Zm
namespace Zt
open PySem PySem.Spec PyProof.Rows L2 SrtO Srt
variable {prog : Program} {w : World} {A : Around} {s : Shared} {E : Value → Shared → Prop}
/-- a tuple of one word and two numbers -/
def IsTri (h : Heap) (z : Str) (v : Value) (x y : Int) : Prop := ∃ a o r t u n, v = .ref a ∧ h.get? a = some o ∧ o.cls = .type "tuple" ∧ o.data = .seq #[.str z r, .int x t, .int y u] n
theorem IsTri.keeps {h h' : Heap} {z : Str} {v : Value} {x y : Int} (p : IsTri h z v x y) (k : ∀ b o, h.get? b = some o → o.cls = .type "tuple" → h'.get? b = some o) : IsTri h' z v x y := by
  obtain ⟨a, o, r, t, u, n, e, ho, hc, hd⟩ := p
  exact ⟨a, o, r, t, u, n, e, k _ _ ho hc, hc, hd⟩
theorem tri_firsts {h : Heap} {z : Str} : ∀ {its : List Value}, (∀ v ∈ its, ∃ x y, IsTri h z v x y) → ∃ heads : List Value, PySem.W.KatTups h its heads ∧ heads.length = its.length ∧ ∀ f ∈ heads, ∃ t, f = Value.str z t
  | [], _ => ⟨[], PySem.W.KatTups.nil, rfl, fun _ mp => by simp at mp⟩
  | v :: its, trs => by
    obtain ⟨heads, g1, g2, g3⟩ := tri_firsts (its := its) fun v' mp => trs v' (List.mem_cons_of_mem _ mp)
    obtain ⟨x, y, a, o, r, t, u, n, e, go1, gc, gd⟩ := trs v (List.mem_cons_self ..)
    subst e
    refine ⟨.str z r :: heads, PySem.W.KatTups.cons go1 gc gd rfl g1, by rw [List.length_cons, List.length_cons, g2], fun f mp => ?_⟩
    rcases List.mem_cons.mp mp with rfl | mp
    · exact ⟨_, rfl⟩
    · exact g3 f mp
theorem tri_cmp {z : Str} {its : List Value} {k : Value → Int × Int} (trs : ∀ v ∈ its, IsTri s.heap z v (k v).1 (k v).2) : Cmp prog w A s (tuples' true) (fun p => p.1 ∈ its) (lt2 fun v u => lexB (k v) (k u)) := by
  intro p q mp mq
  have g1 := trs _ mp
  have g2 := trs _ mq
  show wpAny (model prog w) A (keyLt' (tuples' true) p.1 q.1) (fun r s' => s' = s ∧ r = lexB (k p.1) (k q.1)) (fun _ _ => False) s
  unfold lexB
  generalize (k p.1).1 = x at g1 ⊢
  generalize (k p.1).2 = y at g1 ⊢
  generalize (k q.1).1 = x' at g2 ⊢
  generalize (k q.1).2 = y' at g2 ⊢
  obtain ⟨a, o, r0, t, u, n, e, go1, gc, gd⟩ := g1
  obtain ⟨a', o', r1, t', u', n', e', go2, gc2, gd2⟩ := g2
  rw [e, e']
  refine PySem.W.kat_lt go1 gd go2 gd2 ?_
  show PySem.W.KatLex prog w A true (decide (3 < 3)) _ [(.str z r0, .str z r1), (.int x t, .int x' t'), (.int y u, .int y' u')] 0 s
  refine PySem.W.kat_cons (SeqAt.EqAt.str_str z r0 z r1 prog w _ _ ?_)
  refine PySem.W.kat_go (fun _ => ?_) (fun e0 => absurd e0 (by simp))
  refine PySem.W.kat_yes (PySem.W.kat_cons (SeqAt.EqAt.int_int x t x' t' prog w _ _ ?_))
  refine PySem.W.kat_go (fun c1 => ?_) (fun c1 => ?_)
  · have same1 : x = x' := by simpa using c1
    refine PySem.W.kat_yes (PySem.W.kat_cons (SeqAt.EqAt.int_int y u y' u' prog w _ _ ?_))
    refine PySem.W.kat_go (fun c2 => ?_) (fun c2 => ?_)
    · have same2 : y = y' := by simpa using c2
      have both : (if x = x' then decide (y < y') else decide (x < x')) = false := by
        rw [if_pos same1, same2]
        exact decide_eq_false (Int.lt_irrefl _)
      exact PySem.W.kat_yes (PySem.W.kat_nil ⟨rfl, both.symm⟩)
    · have both : (if x = x' then decide (y < y') else decide (x < x')) = decide (y < y') := if_pos same1
      refine PySem.W.kat_no (PySem.W.kat_one _ _ (PyProof.Rows.lt_int ?_))
      exact (show s = s ∧ decide (y < y') = (if x = x' then decide (y < y') else decide (x < x')) from ⟨rfl, both.symm⟩)
  · have same1 : ¬ x = x' := by simpa using c1
    have both : (if x = x' then decide (y < y') else decide (x < x')) = decide (x < x') := if_neg same1
    refine PySem.W.kat_no (PySem.W.kat_one _ _ (PyProof.Rows.lt_int ?_))
    exact (show s = s ∧ decide (x < x') = (if x = x' then decide (y < y') else decide (x < x')) from ⟨rfl, both.symm⟩)
theorem tris_sortable {z : Str} {a : Addr} {its : List Value} {k : Value → Int × Int} (some1 : 0 < its.length) (trs : ∀ v ∈ its, IsTri s.heap z v (k v).1 (k v).2) (tops : ∀ o, s.heap.get? a = some o → o.cls ≠ .type "tuple") : SortableO prog w A s a its fun v u => lexB (k v) (k u) := by
  intro h' stay
  have held : ∀ v ∈ its, IsTri h' z v (k v).1 (k v).2 := fun v mp => (trs v mp).keeps fun b o e c => stay b o (fun z => by subst z; exact tops o e c) e
  obtain ⟨heads, g1, g2, g3⟩ := tri_firsts fun v mp => ⟨_, _, held v mp⟩
  refine ⟨tuples' true, fun Q E fin => ?_, tri_cmp held⟩
  refine PySem.W.kat_kind (T := .type "str") g1 (by omega) (fun f mp => ?_) (by rfl) ?_
  · obtain ⟨t, rfl⟩ := g3 f mp
    exact PySem.W.Looks.now
  · have e : (Value.type "str" != Value.type "tuple") = true := by first | decide +kernel | rfl | decide
    rw [e]
    exact fin
theorem sorted_tris {z : Str} {l : Addr} {its : List Value} {k : Value → Int × Int} {Q : Value → Shared → Prop} (lst : s.heap.IsList l its.toArray) (short : its.length ≤ sizeLine) (trs : ∀ v ∈ its, IsTri s.heap z v (k v).1 (k v).2)
    (h : ∀ (h' : Heap) (d : Addr) (res : List Value), Srtd (fun v u => lexB (k v) (k u)) res → Stb (fun v u => lexB (k v) (k u)) res its → (∀ b o, s.heap.get? b = some o → h'.get? b = some o) → s.heap.objs.size ≤ d → (∃ n, h'.get? d = some (seqObj "list" res.toArray n)) → Q (.ref d) { s with heap := h' }) :
    wpAny (model prog w) A (call (.builtin "sorted") [.ref l]) Q E s := by
  refine sorted_ord (swo_lex k) lst short (fun g2 hN a tops old => ?_) fun res srt stb => ?_
  · refine tris_sortable (z := z) (s := { s with heap := hN }) (by omega) (fun v mp => (trs v mp).keeps fun b o e _ => (old b o e).2) fun o e => ?_
    have e' : some o = some (seqObj "list" its.toArray 0) := e.symm.trans tops
    cases e'
    intro c
    exact absurd (Value.type.inj c) (by decide)
  · exact h _ _ res srt stb (fun b o e => sortedAll_old e) (Nat.le_succ _) (sortedAll_at s.heap its res.toArray)
end Zt
namespace Zm
open PySem PySem.Spec PyProof.Rows L2
/-- a tuple of one word and two numbers -/
def triD (z : Str) (p : Int × Int) : PyData := .tuple [.str z, .int p.1, .int p.2]
def toT (z : Str) : PyData → Option (Int × Int)
  | .tuple [.str y, .int a, .int b] => if y = z then some (a, b) else none
  | _ => none
theorem toT_ok {z : Str} {d : PyData} {p : Int × Int} (h : toT z d = some p) : d = triD z p := by
  unfold toT at h
  split at h
  · split at h
    · rename_i e; cases h; subst e; rfl
    · cases h
  · cases h
def allT (z : Str) : List PyData → Option (List (Int × Int))
  | [] => some []
  | d :: r => match toT z d, allT z r with
    | some p, some ps => some (p :: ps)
    | _, _ => none
theorem toT_at (z : Str) (p : Int × Int) : toT z (triD z p) = some p := by
  show (if z = z then some (p.1, p.2) else none) = _
  rw [if_pos rfl]
theorem allT_map (z : Str) : ∀ (ps : List (Int × Int)), allT z (ps.map (triD z)) = some ps
  | [] => rfl
  | p :: ps => by
    show (match toT z (triD z p), allT z (ps.map (triD z)) with | some p, some ps => some (p :: ps) | _, _ => none) = _
    rw [allT_map z ps, toT_at]
theorem allT_ok {z : Str} : ∀ {ds : List PyData} {ps : List (Int × Int)}, allT z ds = some ps → ds = ps.map (triD z)
  | [], _, h => by cases h; rfl
  | d :: r, ps, h => by
    unfold allT at h
    split at h
    · rename_i p qs e1 e2
      cases h
      rw [toT_ok e1, allT_ok e2]
      rfl
    · cases h
/-- the word ahead -/
def headW : List PyData → Option Str
  | .tuple (.str z :: _) :: _ => some z
  | _ => none
def kT (H : Hp) (v : V) : Int × Int := match v with
  | .ref t => match H t with
    | some (.tup [_, .int a, .int b]) => (a, b)
    | _ => (0, 0)
  | _ => (0, 0)
theorem rvs_tris {K : PySem.W.Frag} {F : Addr → Prop} {H : Hp} {z : Str} : ∀ {ps : List (Int × Int)} {xs : List V}, RVs K F H xs (ps.map (triD z)) → xs.map (kT H) = ps ∧ ∀ x ∈ xs, ∃ t, x = V.ref t ∧ H t = some (.tup [.str z, .int (kT H x).1, .int (kT H x).2])
  | [], _, h => by cases h; exact ⟨rfl, fun _ h => by cases h⟩
  | (a, b) :: ps, _, h => by
    cases h with
    | @cons v vs _ _ h1 h2 =>
      obtain ⟨e1, e2⟩ := rvs_tris h2
      have h1 : RV K F H v (.tuple [.str z, .int a, .int b]) := h1
      cases h1 with
      | @tup t ys _ g1 g2 =>
        cases g2 with
        | cons g2 g3 =>
          cases g3 with
          | cons g3 g4 =>
            cases g4 with
            | cons g4 g5 =>
              cases g5; cases g2; cases g3; cases g4
              have ek : kT H (.ref t) = (a, b) := by simp [kT, g1]
              refine ⟨by rw [List.map_cons, e1, ek], fun x hx => ?_⟩
              rcases List.mem_cons.mp hx with rfl | hx
              · exact ⟨t, rfl, by rw [ek]; exact g1⟩
              · exact e2 x hx
theorem rvs_of_kT {K : PySem.W.Frag} {F : Addr → Prop} {H : Hp} {z : Str} : ∀ {xs : List V}, (∀ x ∈ xs, ∃ t, x = V.ref t ∧ H t = some (.tup [.str z, .int (kT H x).1, .int (kT H x).2])) → RVs K F H xs ((xs.map (kT H)).map (triD z))
  | [], _ => .nil
  | x :: xs, h => by
    obtain ⟨t, e, ht⟩ := h x List.mem_cons_self
    subst e
    exact .cons (.tup ht (.cons (.str _) (.cons (.int _) (.cons (.int _) .nil)))) (rvs_of_kT fun y hy => h y (List.mem_cons_of_mem _ hy))
def rSortT (K : PySem.W.Frag) : List V → Hp → VK → Prop := fun vs H Q => ∃ (a : Addr) (xs : List V) (z : Str) (k : V → Int × Int), vs = [V.ref a] ∧ SqL K H a xs ∧ (∀ x ∈ xs, ∃ t, x = V.ref t ∧ H t = some (.tup [.str z, .int (k x).1, .int (k x).2])) ∧
  ∀ ys p, SrtO.Srtd (ltP k) ys → SrtO.Stb (ltP k) ys xs → H p = none → Q (.ref p) (upd H p (.lst ys))
section
variable {X : Cx}
theorem vals3 {x y z : V} {us : List Value} (r : Vals [x, y, z] us) : ∃ u v w, us = [u, v, w] ∧ RelV x u ∧ RelV y v ∧ RelV z w := by
  cases r with
  | cons a r => cases r with
    | cons b r => cases r with
      | cons c r => cases r; exact ⟨_, _, _, rfl, a, b, c⟩
theorem cr_sortT3 : CallR X (.builtin "sorted") (rSortT X.K) := by
  intro pins s σ H vs us Q I r h
  obtain ⟨a, xs, z, k, rfl, hs, hx, q⟩ := h
  obtain ⟨ivs, rv, isl, big⟩ := I.list hs
  obtain ⟨u, rfl, ru⟩ := vals1 r
  obtain rfl : u = Value.ref a := ru
  obtain ⟨b1, b2⟩ := refs_back rv fun x m => by
    obtain ⟨t, e, _⟩ := hx x m
    exact ⟨t, e⟩
  refine Zt.sorted_tris (z := z) (k := fun u => k (backV u)) isl.isList (by rw [← rv.length]; exact big) (fun v hv => ?_) fun h' d res h1 h2 kp hd hn => ?_
  · obtain ⟨t, rfl⟩ := b2 v hv
    have hm : V.ref t ∈ xs := by rw [b1]; exact List.mem_map.mpr ⟨_, hv, rfl⟩
    obtain ⟨t', e, ht⟩ := hx _ hm
    cases e
    obtain ⟨_, jts, r2, o, ho, hc, n, hd⟩ := I.hok _ _ ht
    obtain ⟨u0, u1, u2, rfl, rz, ri, rj⟩ := vals3 r2
    obtain ⟨t0, rfl⟩ := rz
    obtain ⟨t1, rfl⟩ := ri
    obtain ⟨t2, rfl⟩ := rj
    exact ⟨t, o, t0, t1, t2, n, rfl, ho, hc, hd⟩
  · have back : ∀ u ∈ res, ∃ a, u = Value.ref a := fun u hu => b2 u (h2.perm.mem_iff.mp hu)
    obtain ⟨n, hn⟩ := hn
    have stb : SrtO.Stb (ltP k) (res.map backV) xs := by
      rw [b1]
      exact SrtO.Stb.map (ltP_swo k) backV h2
    refine ⟨.ref d, upd H d (.lst (res.map backV)), I.laid (t' := s.toks) kp hd ⟨?_, res, n, vals_back back, hn⟩, rfl, q _ d (SrtO.srtd_map h1) stb (I.hok.fresh hd)⟩
    rw [stb.len]
    exact big
/-- sorted of ints, of pairs, of words with two numbers -/
def vSortX (vs : List Val) (M : Mm) : Out Val := match vs with
  | [v] => match listD v M with
    | some ds => match sortD ds with
      | some es => .ok (.d (.list es)) M
      | none => match headW ds with
        | some z => match allT z ds with
          | some ps => .ok (.d (.list ((sortP ps).map (triD z)))) M
          | none => .bad
        | none => .bad
    | none => .bad
  | _ => .bad
theorem cz_sortX : CallZ X (fun xs H Q => (rSortedI X.K xs H Q ∨ rSortedPO X.K xs H Q) ∨ rSortT X.K xs H Q) vSortX := by
  intro W G M σ H Q xs vs S r p
  unfold vSortX at p
  split at p
  · rename_i v
    split at p
    · rename_i ds hd
      split at p
      · rename_i es he
        refine .inl (cz_sorted W G M σ H Q xs [v] S r ?_)
        have e : vSorted [v] M = .ok (.d (.list es)) M := by
          show (match listD v M with
            | some ds => match sortD ds with
              | some es => Out.ok (Val.d (.list es)) M
              | none => .bad
            | none => .bad) = _
          rw [hd]
          show (match sortD ds with
              | some es => Out.ok (Val.d (.list es)) M
              | none => .bad) = _
          rw [he]
        rw [e]
        exact p
      · split at p
        · rename_i z hz
          split at p
          · rename_i ps hp
            cases r with
            | cons r1 r2 =>
              cases r2
              obtain ⟨a, ys, rfl, h, hr⟩ := listD_ok S r1 hd
              have e := allT_ok hp
              subst e
              obtain ⟨e1, e2⟩ := rvs_tris hr
              refine .inr ⟨a, ys, z, kT H, rfl, h, e2, fun zs q hs hb hq => ?_⟩
              have hz : ∀ x ∈ zs, ∃ t, x = V.ref t ∧ H t = some (.tup [.str z, .int (kT H x).1, .int (kT H x).2]) := fun x hx => e2 x (hb.perm.mem_iff.mp hx)
              have e3 : zs.map (kT H) = sortP ps := by
                refine sortP_eq (by rw [← e1]; exact hb.perm.map _) ?_
                refine List.pairwise_map.mpr (List.Pairwise.imp (fun {x y} h => ?_) hs)
                have h : SrtO.lexB (kT H y) (kT H x) = false := h
                rw [leP_iff]
                have := SrtO.lexB_no.mp h
                omega
              obtain ⟨S2, e4⟩ := S.layF (o := .lst zs) hq
              refine p _ _ _ e4 S2 (RV.lst (.inl rfl) upd_same ?_)
              have := rvs_of_kT (K := X.K) (F := G.F) hz
              rw [e3] at this
              exact RVs.ext e4 _ _ this
          · exact p.elim
        · exact p.elim
    · exact p.elim
  · exact p.elim
end
end Zm
namespace Zm
open PySem PySem.Spec PyProof.Rows L2
variable {X : Cx} {W : WX}
/-! ### a star in a display -/
def mStar (a : EM) (r : AM) : AM := fun s M => (a s M).bind fun v M1 => match seqD v M1 with
  | some ds => (r s M1).bind fun ys M2 => .ok (ds.map .d ++ ys) M2
  | none => .bad
theorem sa_star {e : Expr} {es : List Expr} {p : Pos} {ma : EM} {mr : AM} (ha : SE X W e ma) (hr : SA X W es mr) (hs : starEach (.Starred e p :: es) X.env = (true, eval e X.env) :: starEach es X.env := by rfl) : SA X W (.Starred e p :: es) (mStar ma mr) := by
  refine ⟨paImp (StX.pa_star ha.pe hr.pa) fun σ H Q ⟨G, s, M, S, N, p⟩ => ?_⟩
  refine ⟨G, s, M, S, N, Post.bind p fun v M1 G1 H1 x e1 S1 r1 p1 => ?_⟩
  split at p1
  · rename_i ds hd
    obtain ⟨a, xs, rfl, h, hr⟩ := seqD_ok S1 r1 hd
    refine ⟨a, xs, rfl, ?_, ⟨G1, s, M1, S1, N.ext e1, Post.bind p1 fun ys M2 G2 H2 zs e2 S2 r2 p2 => ?_⟩⟩
    · exact h.symm.imp SqT.of id
    · exact p2 G2 H2 _ .refl S2 (Paired.app (RVs.rws (RVs.ext e2 _ _ hr)) r2)
  · exact p1.elim
/-! ### list(range(a, b)) -/
def mLR2 (a b : EM) : EM := fun s M => (a s M).bind fun v M1 => (b s M1).bind fun w M2 => match v, w with
  | .d (.int i), .d (.int j) => if decide (-1000 ≤ i) && decide (i ≤ 1000000) && decide (-1000 ≤ j) && decide (j ≤ 1000000) then .ok (.d (.list (ranD i j))) M2 else .bad
  | _, _ => .bad
theorem se_lr2 {a b : Expr} {m n : EM} {p p2 pos pos2 : Pos} (hc : X.calm = true) (hgl : Gl X "list") (hml : X.mg "list" = none) (hg : Gl X "range") (hm : X.mg "range" = none) (ha : SE X W a m) (hb : SE X W b n)
    (na : starEach [a, b] X.env = (false, eval a X.env) :: starEach [b] X.env := by rfl) (nb : starEach [b] X.env = (false, eval b X.env) :: starEach [] X.env := by rfl) (hp : (backTo pos2 (starEach [b] X.env)).any (·.1) = false := by rfl)
    (nc : starEach [.Call (.Name "range" p2) [a, b] [] pos2] X.env = (false, eval (.Call (.Name "range" p2) [a, b] [] pos2) X.env) :: starEach [] X.env := by rfl) : SE X W (.Call (.Name "list" p) [.Call (.Name "range" p2) [a, b] [] pos2] [] pos) (mLR2 m n) := by
  refine ⟨peImp (pe_listRg hc hgl hml (prg_2 hg hm ha.pe hb.pe na nb hp) nc) fun σ H Q ⟨G, s, M, S, N, p⟩ => ⟨G, s, M, S, N, Post.bind p fun v M1 G1 H1 x e1 S1 r1 p1 => ⟨G1, s, M1, S1, N.ext e1, Post.bind p1 fun w M2 G2 H2 y e2 S2 r2 p2 => ?_⟩⟩⟩
  have r3 := RW.ext e2 r1
  clear r1
  split at p2
  · rename_i i j
    have r1 : RV X.K G2.F H2 x (.int i) := r3
    have r2 : RV X.K G2.F H2 y (.int j) := r2
    cases r1; cases r2
    split at p2
    · rename_i hj
      rw [Bool.and_eq_true, Bool.and_eq_true, Bool.and_eq_true, decide_eq_true_eq, decide_eq_true_eq, decide_eq_true_eq, decide_eq_true_eq] at hj
      refine ⟨i, j, rfl, rfl, ⟨by omega, by omega, by omega, by omega, by omega⟩, fun q hq => ?_⟩
      obtain ⟨S3, e3⟩ := S2.layF (o := .lst (rgV i j)) hq
      exact p2 _ _ _ e3 S3 (RV.lst (.inl rfl) upd_same (rvs_rgV i j))
    · exact p2.elim
  · exact p2.elim
end Zm
namespace Zm
open PySem PySem.Spec PyProof.Rows L2
variable {X : Cx} {W : WX}
/-! ### one of two readings -/
theorem se_either {e : Expr} {m m1 m2 : EM} (h1 : SE X W e m1) (h2 : SE X W e m2) (h : ∀ s M, m s M = m1 s M ∨ m s M = m2 s M) : SE X W e m := by
  refine ⟨⟨fun pins s σ H Q I ⟨G, sl, M, S, N, p⟩ => ?_⟩⟩
  rcases h sl M with q | q
  · exact h1.pe.run pins s σ H Q I ⟨G, sl, M, S, N, by rw [← q]; exact p⟩
  · exact h2.pe.run pins s σ H Q I ⟨G, sl, M, S, N, by rw [← q]; exact p⟩
theorem st_either {e : Expr} {m m1 m2 : TM} (h1 : ST X W e m1) (h2 : ST X W e m2) (h : ∀ s M, m s M = m1 s M ∨ m s M = m2 s M) : ST X W e m := by
  refine ⟨⟨fun pins s σ H Q I ⟨G, sl, M, S, N, p⟩ => ?_⟩⟩
  rcases h sl M with q | q
  · exact h1.pt.run pins s σ H Q I ⟨G, sl, M, S, N, by rw [← q]; exact p⟩
  · exact h2.pt.run pins s σ H Q I ⟨G, sl, M, S, N, by rw [← q]; exact p⟩
/-- an operation that is one of two, by its values -/
theorem mOp_either {f f1 f2 : Val → Val → Mm → Out Val} {a b : EM} (h : ∀ v w M, f v w M = f1 v w M ∨ f v w M = f2 v w M) (s : Sl) (M : Mm) : mOp f a b s M = mOp f1 a b s M ∨ mOp f a b s M = mOp f2 a b s M := by
  unfold mOp Out.bind
  cases a s M with
  | bad => exact .inl rfl
  | er _ _ => exact .inl rfl
  | ok v M1 =>
    dsimp only
    cases b s M1 with
    | bad => exact .inl rfl
    | er _ _ => exact .inl rfl
    | ok w M2 => exact h v w M2
/-! ### dicts with plain keys (ints and texts) -/
/-- what a dict holds -/
def dctV (v : Val) (M : Mm) : Option (List (PyData × Val)) := match v with
  | .d (.dict kvs) => some (kvs.map fun p => (p.1, .d p.2))
  | .obj i => match M[i]? with
    | some (.dct kvs) => some kvs
    | _ => none
  | _ => none
def eqK : PyData → PyData → Bool
  | .int a, .int b => decide (a = b)
  | .str a, .str b => decide (a = b)
  | _, _ => false
/-- a plain key -/
def keyV : Val → Option PyData
  | .d (.int i) => some (.int i)
  | .d (.str x) => some (.str x)
  | _ => none
def findD {α : Type} (k : PyData) (kvs : List (PyData × α)) : Option α := (kvs.find? fun p => eqK p.1 k).map (·.2)
def putD {α : Type} (kvs : List (PyData × α)) (k : PyData) (v : α) : List (PyData × α) :=
  if (kvs.any fun p => eqK p.1 k) = true then kvs.map (fun p => if eqK p.1 k = true then (p.1, v) else p) else kvs ++ [(k, v)]
theorem eqK_keyD (a b : Key) : eqK (keyD a) (keyD b) = decide (a = b) := by
  cases a <;> cases b <;> simp [keyD, eqK]
section
variable {K : PySem.W.Frag} {mg : Str → Option Value} {G : Gh} {H : Hp} {M : Mm} {x : V} {v : Val} {kvs : List (PyData × Val)}
abbrev PKs (K : PySem.W.Frag) (G : Gh) (H : Hp) : List (Key × V) → List (PyData × Val) → Prop := Paired (fun (y : Key × V) (k : PyData × Val) => k.1 = keyD y.1 ∧ RW K G H y.2 k.2)
theorem keyV_ok {k : PyData} (h : keyV v = some k) (r : RW K G H x v) : ∃ y : Key, k = keyD y ∧ x = kV y := by
  unfold keyV at h
  split at h
  · rename_i i
    cases h
    have r : RV K G.F H x (.int i) := r
    cases r
    exact ⟨.inl i, rfl, rfl⟩
  · rename_i z
    cases h
    have r : RV K G.F H x (.str z) := r
    cases r
    exact ⟨.inr z, rfl, rfl⟩
  · cases h
theorem rks_pks : ∀ {ys : List (Key × V)} {ds : List (PyData × PyData)}, RKs K G.F H ys ds → PKs K G H ys (ds.map fun p => (p.1, .d p.2))
  | _, _, .nil => .nil
  | _, _, .cons h t => .cons ⟨rfl, h⟩ (rks_pks t)
theorem dctV_ok (S : SimM K mg G M H) (r : RW K G H x v) (h : dctV v M = some kvs) : ∃ a ys, x = .ref a ∧ Rd H a (.dK ys) ∧ PKs K G H ys kvs := by
  unfold dctV at h
  split at h
  · rename_i ds
    cases h
    have r : RV K G.F H x (.dict ds) := r
    cases r with
    | dct h1 h2 h3 => exact ⟨_, _, rfl, .inl h2, rks_pks h3⟩
  · rename_i i
    obtain ⟨a, rfl, hi⟩ := r
    split at h
    · rename_i us e
      cases h
      obtain ⟨_, ys, h2, h3⟩ := S.obj i a _ hi e
      exact ⟨a, ys, rfl, .inl h2, h3⟩
    · cases h
  · cases h
theorem findD_ok (y : Key) : ∀ {ys : List (Key × V)} {kvs : List (PyData × Val)}, PKs K G H ys kvs →
    (findD (keyD y) kvs = none ∧ valV ys y = none) ∨ ∃ v x, findD (keyD y) kvs = some v ∧ valV ys y = some x ∧ RW K G H x v
  | _, _, .nil => .inl ⟨rfl, rfl⟩
  | z :: ys, k :: kvs, .cons h t => by
    unfold findD valV
    rw [List.find?_cons, List.find?_cons, h.1, eqK_keyD]
    by_cases e : z.1 = y
    · rw [decide_eq_true e]
      exact .inr ⟨_, _, rfl, rfl, h.2⟩
    · rw [decide_eq_false e]
      exact findD_ok y t
theorem any_ok (y : Key) : ∀ {ys : List (Key × V)} {kvs : List (PyData × Val)}, PKs K G H ys kvs → (kvs.any fun p => eqK p.1 (keyD y)) = ys.any fun p => decide (p.1 = y)
  | _, _, .nil => rfl
  | z :: ys, k :: kvs, .cons h t => by rw [List.any_cons, List.any_cons, h.1, eqK_keyD, any_ok y t]
theorem putD_ok (y : Key) {u : V} {w : Val} (r : RW K G H u w) {ys : List (Key × V)} {kvs : List (PyData × Val)} (p : PKs K G H ys kvs) : PKs K G H (putK ys y u) (putD kvs (keyD y) w) := by
  unfold putK putD
  rw [any_ok y p]
  split
  · rename_i hq
    clear hq
    induction p with
    | nil => exact .nil
    | @cons z k ys kvs h t ih =>
      rw [List.map_cons, List.map_cons]
      refine .cons ?_ ih
      rw [h.1, eqK_keyD]
      by_cases e : z.1 = y
      · rw [decide_eq_true e, if_pos e, if_pos rfl]
        exact ⟨rfl, r⟩
      · rw [decide_eq_false e, if_neg e, if_neg (by decide)]
        exact h
  · exact Paired.app p (.cons ⟨rfl, r⟩ .nil)
end
/-! ### in, [], get -/
def vDIn (neg : Bool) (y v : Val) (M : Mm) : Out Val := match keyV y, dctV v M with
  | some k, some kvs => .ok (.d (.bool (xor neg (findD k kvs).isSome))) M
  | _, _ => .bad
def vDIx (v y : Val) (M : Mm) : Out Val := match dctV v M, keyV y with
  | some kvs, some k => match findD k kvs with
    | some u => .ok (rd u M) M
    | none => .bad
  | _, _ => .bad
section
variable {a b c : Expr} {ma mb mc : EM} {pos apos : Pos}
theorem PS2 {f : Val → Val → Mm → Out Val} {r : R2} {σ : L2.St} {H : Hp} {Q : VK} (z : OpZ X r f) (h : TEm X.K X.mg W (mOp f ma mb) σ H Q) : tOp r (TEm X.K X.mg W ma) (TEm X.K X.mg W mb) σ H Q := TEm.op z h
theorem oz_din {neg : Bool} : OpZ X (fun y x H Q => ∃ a o, x = .ref a ∧ DGet H a y o ∧ Q (.bl (xor neg o.isSome)) H) (vDIn neg) := by
  intro W G M σ H Q y x w v S r1 r2 p
  unfold vDIn at p
  split at p
  · rename_i k kvs hk hd
    obtain ⟨y', rfl, rfl⟩ := keyV_ok hk r1
    obtain ⟨a, ys, rfl, h1, h2⟩ := dctV_ok S r2 hd
    refine ⟨a, valV ys y', rfl, .inl ⟨ys, y', h1, rfl, rfl⟩, ?_⟩
    rcases findD_ok y' h2 with ⟨e1, e2⟩ | ⟨v, x, e1, e2, _⟩
    · rw [e1] at p
      rw [e2]
      exact p G H _ .refl S (RV.bl _)
    · rw [e1] at p
      rw [e2]
      exact p G H _ .refl S (RV.bl _)
  · exact p.elim
theorem oz_dix : OpZ X (fun x y H Q => ∃ a v, x = .ref a ∧ DGet H a y (some v) ∧ Q v H) vDIx := by
  intro W G M σ H Q x y v w S r1 r2 p
  unfold vDIx at p
  split at p
  · rename_i kvs k hd hk
    obtain ⟨y', rfl, rfl⟩ := keyV_ok hk r2
    obtain ⟨a, ys, rfl, h1, h2⟩ := dctV_ok S r1 hd
    rcases findD_ok y' h2 with ⟨e1, e2⟩ | ⟨v, x, e1, e2, e3⟩
    · rw [e1] at p
      exact p.elim
    · rw [e1] at p
      exact ⟨a, x, rfl, .inl ⟨ys, y', h1, rfl, e2.symm⟩, p G H x .refl S (rd_ok S e3)⟩
  · exact p.elim
theorem se_dix (hu : X.A.units + 1 < cLine) (ha : SE X W a ma) (hb : SE X W b mb) (hs : NoSl b := by intro _ _; rfl) : SE X W (.Subscript a b pos) (mOp vDIx ma mb) :=
  ⟨peImp (pe_dget hu ha.pe hb.pe hs) fun _ _ _ h => TEm.op oz_dix h⟩
theorem pc_dinZ (hu : X.A.units + 1 < cLine) (ha : SE X W a ma) (hb : SE X W b mb) : PC X .In a b (TEm X.K X.mg W (mOp (vDIn false) ma mb)) :=
  ⟨fun pins s σ H Q I h => (pc_din hu ha.pe hb.pe).run pins s σ H Q I (by
    have := TEm.op oz_din h
    simp only [Bool.false_xor] at this
    exact this)⟩
theorem pc_dnotinZ (hu : X.A.units + 1 < cLine) (ha : SE X W a ma) (hb : SE X W b mb) : PC X .NotIn a b (TEm X.K X.mg W (mOp (vDIn true) ma mb)) :=
  ⟨fun pins s σ H Q I h => (pc_dnotin hu ha.pe hb.pe).run pins s σ H Q I (by
    have := TEm.op oz_din h
    simp only [Bool.true_xor] at this
    exact this)⟩
/-- v is a dict -/
def isDct (v : Val) (M : Mm) : Bool := (dctV v M).isSome
def vIxX (v y : Val) (M : Mm) : Out Val := if isDct v M = true then vDIx v y M else vIx v y M
def vInX (neg : Bool) (y v : Val) (M : Mm) : Out Val := if isDct v M = true then vDIn neg y v M else vIn neg y v M
theorem ixX_either (v w : Val) (M : Mm) : vIxX v w M = vIx v w M ∨ vIxX v w M = vDIx v w M := by
  unfold vIxX
  split
  · exact .inr rfl
  · exact .inl rfl
theorem inX_either {neg : Bool} (v w : Val) (M : Mm) : vInX neg v w M = vIn neg v w M ∨ vInX neg v w M = vDIn neg v w M := by
  unfold vInX
  split
  · exact .inr rfl
  · exact .inl rfl
theorem se_ixX (hu : X.A.units + 65 < cLine) (ha : SE X W a ma) (hb : SE X W b mb) (hs : PlainIx b := by intro _ _; rfl) (hs2 : NoSl b := by intro _ _; rfl) : SE X W (.Subscript a b pos) (mOp vIxX ma mb) :=
  se_either (se_ix ha hb hs) (se_dix (by omega) ha hb hs2) (mOp_either ixX_either)
theorem se_inX (hu : X.A.units + 65 < cLine) (ha : SE X W a ma) (hb : SE X W b mb) (hm : behindInMarks .In b = false := by rfl) : SE X W (.Compare a [.In] [b] pos) (mOp (vInX false) ma mb) :=
  se_either (se_in hu ha hb hm) ⟨pe_cmp (pc_dinZ (by omega) ha hb) hm⟩ (mOp_either inX_either)
theorem se_notInX (hu : X.A.units + 65 < cLine) (ha : SE X W a ma) (hb : SE X W b mb) (hm : behindInMarks .NotIn b = false := by rfl) : SE X W (.Compare a [.NotIn] [b] pos) (mOp (vInX true) ma mb) :=
  se_either (se_notIn hu ha hb hm) ⟨pe_cmp (pc_dnotinZ (by omega) ha hb) hm⟩ (mOp_either inX_either)
theorem mT_either {m m1 m2 : EM} (h : ∀ s M, m s M = m1 s M ∨ m s M = m2 s M) (s : Sl) (M : Mm) : mT m s M = mT m1 s M ∨ mT m s M = mT m2 s M := by
  unfold mT
  rcases h s M with q | q
  · rw [q]; exact .inl rfl
  · rw [q]; exact .inr rfl
theorem st_inX (hu : X.A.units + 65 < cLine) (ha : SE X W a ma) (hb : SE X W b mb) (hm : behindInMarks .In b = false := by rfl) : ST X W (.Compare a [.In] [b] pos) (mT (mOp (vInX false) ma mb)) :=
  st_either (st_in hu ha hb hm) ⟨ptImp (pt_cmp (pc_dinZ (by omega) ha hb) hm) fun _ _ _ h => TTm.of h⟩ (mT_either (mOp_either inX_either))
theorem st_notInX (hu : X.A.units + 65 < cLine) (ha : SE X W a ma) (hb : SE X W b mb) (hm : behindInMarks .NotIn b = false := by rfl) : ST X W (.Compare a [.NotIn] [b] pos) (mT (mOp (vInX true) ma mb)) :=
  st_either (st_notIn hu ha hb hm) ⟨ptImp (pt_cmp (pc_dnotinZ (by omega) ha hb) hm) fun _ _ _ h => TTm.of h⟩ (mT_either (mOp_either inX_either))
/-- d.get(k), d.get(k, x) -/
def vGet (v : Val) (vs : List Val) (M : Mm) : Out Val := match vs with
  | [y] => match dctV v M, keyV y with
    | some kvs, some k => .ok (match findD k kvs with | some u => rd u M | none => .d .none) M
    | _, _ => .bad
  | [y, z] => match dctV v M, keyV y with
    | some kvs, some k => .ok (match findD k kvs with | some u => rd u M | none => rd z M) M
    | _, _ => .bad
  | _ => .bad
def mGet (o : EM) (ms : AM) : EM := fun s M => (o s M).bind fun v M1 => if isDct v M1 = true then (ms s M1).bind fun vs M2 => vGet v vs M2 else .bad
theorem isDct_ok {K : PySem.W.Frag} {mg : Str → Option Value} {G : Gh} {H : Hp} {M : Mm} {x : V} {v : Val} (S : SimM K mg G M H) (r : RW K G H x v) (h : isDct v M = true) : ∃ a, x = .ref a ∧ IsD H a := by
  unfold isDct at h
  cases q : dctV v M with
  | none => rw [q] at h; cases h
  | some kvs =>
    obtain ⟨a, ys, rfl, h1, _⟩ := dctV_ok S r q
    exact ⟨a, rfl, .inl ⟨ys, h1⟩⟩
theorem se_get1 (hu : X.A.units + 65 < cLine) (ha : SE X W a ma) (hb : SE X W b mb) (m : M1 X a "get" apos b pos := by exact ⟨rfl, rfl, rfl, rfl⟩) : SE X W (.Call (.Attribute a "get" apos) [b] [] pos) (mGet ma (mCons mb mNil)) := by
  refine ⟨peImp (pe_dget1 (by omega) ha.pe hb.pe m) fun σ H Q ⟨G, s, M, S, N, p⟩ => ?_⟩
  refine ⟨G, s, M, S, N, Post.bind p fun v M1 G1 H1 x e1 S1 r1 p1 => ?_⟩
  split at p1
  · rename_i hd
    obtain ⟨c, rfl, hc⟩ := isDct_ok S1 r1 hd
    refine ⟨c, rfl, hc, G1, s, M1, S1, N.ext e1, ?_⟩
    have p1 : Post X.K X.mg W G1 σ H1 (fun G' H' x v => RW X.K G' H' x v) Q ((mb s M1).bind fun y M2 => vGet v [y] M2) := by
      have e : ((mb s M1).bind fun y M2 => vGet v [y] M2) = ((mCons mb mNil s M1).bind fun vs M2 => vGet v vs M2) := by
        unfold mCons mNil
        cases mb s M1 <;> rfl
      rw [e]
      exact p1
    refine Post.bind p1 fun w M2 G2 H2 y e2 S2 r2 p2 => ?_
    unfold vGet at p2
    dsimp only at p2
    split at p2
    · rename_i kvs k hd2 hk
      obtain ⟨y', rfl, rfl⟩ := keyV_ok hk r2
      obtain ⟨c', ys, hcc, h1, h2⟩ := dctV_ok S2 (RW.ext e2 r1) hd2
      cases hcc
      rcases findD_ok y' h2 with ⟨e3, e4⟩ | ⟨v, x, e3, e4, e5⟩
      · rw [e3] at p2
        exact ⟨none, .inl ⟨ys, y', h1, rfl, e4.symm⟩, p2 G2 H2 _ .refl S2 RV.non⟩
      · rw [e3] at p2
        exact ⟨some x, .inl ⟨ys, y', h1, rfl, e4.symm⟩, p2 G2 H2 _ .refl S2 (rd_ok S2 e5)⟩
    · exact p2.elim
  · exact p1.elim
theorem se_get2 (hu : X.A.units + 65 < cLine) (ha : SE X W a ma) (hb : SE X W b mb) (hc : SE X W c mc) (m : M2 X a "get" apos b c pos := by exact ⟨rfl, rfl, rfl, rfl⟩) : SE X W (.Call (.Attribute a "get" apos) [b, c] [] pos) (mGet ma (mCons mb (mCons mc mNil))) := by
  refine ⟨peImp (pe_dget2 (by omega) ha.pe hb.pe hc.pe m) fun σ H Q ⟨G, s, M, S, N, p⟩ => ?_⟩
  refine ⟨G, s, M, S, N, Post.bind p fun v M1 G1 H1 x e1 S1 r1 p1 => ?_⟩
  split at p1
  · rename_i hd
    obtain ⟨c0, rfl, hc0⟩ := isDct_ok S1 r1 hd
    refine ⟨c0, rfl, hc0, G1, s, M1, S1, N.ext e1, ?_⟩
    have p1 : Post X.K X.mg W G1 σ H1 (fun G' H' x v => RW X.K G' H' x v) Q ((mb s M1).bind fun y M2 => (mc s M2).bind fun z M3 => vGet v [y, z] M3) := by
      have e : ((mb s M1).bind fun y M2 => (mc s M2).bind fun z M3 => vGet v [y, z] M3) = ((mCons mb (mCons mc mNil) s M1).bind fun vs M2 => vGet v vs M2) := by
        unfold mCons mNil
        cases mb s M1 with
        | bad => rfl
        | er _ _ => rfl
        | ok y M2 =>
          show (mc s M2).bind _ = Out.bind (((mc s M2).bind _).bind _) _
          cases mc s M2 <;> rfl
      rw [e]
      exact p1
    refine Post.bind p1 fun w M2 G2 H2 y e2 S2 r2 p2 => ⟨G2, s, M2, S2, (N.ext e1).ext e2, Post.bind p2 fun u M3 G3 H3 z e3 S3 r3 p3 => ?_⟩
    unfold vGet at p3
    dsimp only at p3
    split at p3
    · rename_i kvs k hd2 hk
      obtain ⟨y', rfl, rfl⟩ := keyV_ok hk (RW.ext e3 r2)
      obtain ⟨c', ys, hcc, h1, h2⟩ := dctV_ok S3 (RW.ext (e2.trans e3) r1) hd2
      cases hcc
      rcases findD_ok y' h2 with ⟨e4, e5⟩ | ⟨v, x, e4, e5, e6⟩
      · rw [e4] at p3
        exact ⟨none, .inl ⟨ys, y', h1, rfl, e5.symm⟩, p3 G3 H3 _ .refl S3 (rd_ok S3 r3)⟩
      · rw [e4] at p3
        exact ⟨some x, .inl ⟨ys, y', h1, rfl, e5.symm⟩, p3 G3 H3 _ .refl S3 (rd_ok S3 e6)⟩
    · exact p3.elim
  · exact p1.elim
end
/-! ### d[k] = v -/
def rSetD : V → V → V → Hp → (Hp → Prop) → Prop := fun o i v H Q => ∃ a H4, o = .ref a ∧ DPut H a i v H4 ∧ Q H4
theorem set_dictZ (hu : X.A.units + 65 < cLine) : PSet X rSetD := by
  intro pins s σ H o i v ov iv u Q I ro ri rv h
  obtain ⟨a, H4, rfl, g, q⟩ := h
  obtain rfl : ov = Value.ref a := ro
  exact d_setItem (by omega) I g ri rv fun s4 I4 => ⟨H4, I4, q⟩
theorem PSet.or {t t' : TSet} (h : PSet X t) (h' : PSet X t') : PSet X (fun o i v H Q => t o i v H Q ∨ t' o i v H Q) :=
  fun pins s σ H o i v ov iv u Q I ro ri rv q => q.elim (h pins s σ H o i v ov iv u Q I ro ri rv) (h' pins s σ H o i v ov iv u Q I ro ri rv)
def vSetD : SetF := fun o i v M => match o, keyV i with
  | .obj j, some k => match M[j]? with
    | some (.dct kvs) => if kvs.length < 16777216 then some (M.set j (.dct (putD kvs k v))) else none
    | _ => none
  | _, _ => none
theorem sz_dict : SetZ X rSetD vSetD := by
  intro G M H Q o i x vo vi v S r1 r2 r3 p
  unfold vSetD at p
  split at p
  · rename_i M' e
    split at e
    · rename_i j k hk
      obtain ⟨a, rfl, hj⟩ := r1
      obtain ⟨y, rfl, rfl⟩ := keyV_ok hk r2
      split at e
      · rename_i kvs ho
        obtain ⟨nF, ys, hx, rx⟩ := S.obj j a _ hj ho
        split at e
        · rename_i hl
          cases e
          obtain ⟨S2, e3⟩ := S.write (u := .dK (putK ys y x)) (o := .dct (putD kvs (keyD y) v)) hj nF (fun xs z => by rw [hx] at z; cases z) (fun q v z => by rw [hx] at z; cases z)
            (fun e3 => ⟨nF, _, upd_same, putD_ok y (RW.ext e3 r3) (Paired.mapP rx fun _ _ q => ⟨q.1, RW.ext e3 q.2⟩)⟩)
          exact ⟨a, _, rfl, DPut.k hx (by rw [Paired.len rx]; exact hl), p G _ e3 S2⟩
        · cases e
      · cases e
    · cases e
  · exact p.elim
def vSetX : SetF := fun o i v M => if isDct o M = true then vSetD o i v M else vSetL o i v M
theorem sz_X : SetZ X (fun o i v H Q => rSetL o i v H Q ∨ rSetD o i v H Q) vSetX := by
  intro G M H Q o i x vo vi v S r1 r2 r3 p
  unfold vSetX at p
  split at p
  · rename_i M' e
    split at e
    · exact .inr (sz_dict G M H Q o i x vo vi v S r1 r2 r3 (by rw [e]; exact p))
    · exact .inl (sz_list G M H Q o i x vo vi v S r1 r2 r3 (by rw [e]; exact p))
  · exact p.elim
theorem set_X (hu : X.A.units + 65 < cLine) : PSet X (fun o i v H Q => rSetL o i v H Q ∨ rSetD o i v H Q) := PSet.or set_list (set_dictZ hu)
/-! ### a dict at a place is fixed -/
def fzD : List (PyData × Val) → Mm → Option (List (PyData × PyData))
  | [], _ => some []
  | (k, v) :: r, M => match rd v M, fzD r M with
    | .d x, some ds => some ((k, x) :: ds)
    | _, _ => none
theorem fzD_ok {K : PySem.W.Frag} {mg : Str → Option Value} {G : Gh} {H : Hp} {M : Mm} (S : SimM K mg G M H) : ∀ {ys : List (Key × V)} {kvs : List (PyData × Val)} {ds : List (PyData × PyData)}, PKs K G H ys kvs → fzD kvs M = some ds → RKs K G.F H ys ds
  | _, _, ds, .nil, h => by cases h; exact .nil
  | z :: ys, (k, v) :: kvs, ds, .cons h t, e => by
    unfold fzD at e
    split at e
    · rename_i x es e1 e2
      cases e
      have hk : k = keyD z.1 := h.1
      rw [hk]
      have r := rd_ok S h.2
      dsimp only at r
      rw [e1] at r
      exact .cons r (fzD_ok S t e2)
    · cases e
def mFrzX (m : EM) : EM := fun s M => (m s M).bind fun v M1 => match v with
  | .d x => .ok (.d x) M1
  | .scr ns => .ok (.scr ns) M1
  | .obj i => match M1[i]? with
    | some (.frz x) => .ok (.d x) M1
    | some (.lst vs) => match fzL vs M1 with
      | some ds => .ok (.d (.list ds)) (M1.set i (.frz (.list ds)))
      | none => .bad
    | some (.dct kvs) => match fzD kvs M1 with
      | some ds => .ok (.d (.dict ds)) (M1.set i (.frz (.dict ds)))
      | none => .bad
    | _ => .bad
theorem se_frzX {e : Expr} {m : EM} (h : SE X W e m) : SE X W e (mFrzX m) := by
  refine ⟨peImp h.pe fun σ H Q ⟨G, s, M, S, N, p⟩ => ⟨G, s, M, S, N, Post.bind p fun v M1 G1 H1 x e1 S1 r1 p1 => ?_⟩⟩
  cases v with
  | d y => exact p1 G1 H1 x .refl S1 r1
  | scr ns => exact p1 G1 H1 x .refl S1 r1
  | obj i =>
    obtain ⟨a, rfl, hi⟩ := r1
    dsimp only at p1
    split at p1
    · rename_i y ey
      exact p1 G1 H1 _ .refl S1 (S1.obj i a _ hi ey)
    · rename_i vs ev
      split at p1
      · rename_i ds ed
        exact frz_ok S1 hi ev ed p1
      · exact p1.elim
    · rename_i kvs ev
      split at p1
      · rename_i ds ed
        obtain ⟨nF, ys, hx, rx⟩ := S1.obj i a _ hi ev
        have rv := fzD_ok S1 rx ed
        have e : Ext G1 H1 (G1.fix a) H1 := ext_fix (List.mem_of_getElem? hi)
        have rl : RV X.K (G1.fix a).F H1 (.ref a) (.dict ds) := .dct (.inl rfl) hx (RKs.ext e _ _ rv)
        obtain ⟨S2, e2⟩ := S1.freeze hi nF rl
        exact p1 _ _ _ e2 S2 rl
      · exact p1.elim
    · exact p1.elim
/-! ### {k: v}, one key that is reckoned -/
def vDisp1 (y v : Val) (M : Mm) : Out Val := match keyV y, v with
  | some k, .d x => .ok (.d (.dict [(k, x)])) M
  | _, _ => .bad
abbrev mDisp1 (mk mv : EM) : EM := mOp vDisp1 mk mv
theorem se_disp1 {ke ve : Expr} {mk mv : EM} {pos : Pos} (hk : SE X W ke mk) (hv : SE X W ve mv) : SE X W (.Dict [some ke] [ve] pos) (mDisp1 mk mv) := by
  refine ⟨peImp (pe_disp (pps_cons hk.pe hv.pe pps_nil) rfl rfl (by simp) (by show (1 : Nat) ≤ 15; decide)) fun σ H Q ⟨G, s, M, S, N, p⟩ q hq => ?_⟩
  obtain ⟨S1, e1⟩ := S.lay (o := .dK []) hq
  have nF : ¬ G.F q := fun z => S.fthere q z hq
  have nφ := S.newne hq
  refine ⟨G, s, M, S1, N.ext e1, ?_⟩
  have p : Post X.K X.mg W G σ H (fun G' H' x v => RW X.K G' H' x v) Q ((mk s M).bind fun y M1 => (mv s M1).bind fun v M2 => vDisp1 y v M2) := p
  cases ek : mk s M with
  | bad => rw [ek] at p; exact p.elim
  | er x M1 => rw [ek] at p; exact fun G' H' c d e => p G' H' c d (e1.trans e)
  | ok w M2 =>
    rw [ek] at p
    intro G2 H2 y e2 S2 r2
    refine ⟨G2, s, M2, S2, (N.ext e1).ext e2, ?_⟩
    replace p : Post X.K X.mg W G σ H (fun G' H' x v => RW X.K G' H' x v) Q ((mv s M2).bind fun v M2 => vDisp1 w v M2) := p
    cases ev : mv s M2 with
    | bad => rw [ev] at p; exact p.elim
    | er x M1 => rw [ev] at p; exact fun G' H' c d e => p G' H' c d (e1.trans (e2.trans e))
    | ok u M3 =>
      rw [ev] at p
      intro G3 H3 z e3 S3 r3
      replace p : Post X.K X.mg W G σ H (fun G' H' x v => RW X.K G' H' x v) Q (vDisp1 w u M3) := p
      unfold vDisp1 at p
      split at p
      · rename_i k x hk2
        obtain ⟨y', rfl, rfl⟩ := keyV_ok hk2 (RW.ext e3 r2)
        have hx : (upd H q (.dK [])) q = some (.dK []) := upd_same
        have nn : (upd H q (.dK [])) q ≠ none := by rw [hx]; simp
        have e4 := e2.trans e3
        have hx2 : H3 q = some (.dK []) := by rw [e4.keep q nn nφ]; exact hx
        have nφ2 : q ∉ G3.φ := fun z => (e4.φnew q z).elim nφ nn
        have nF2 : ¬ G3.F q := fun z => (e4.Fnew q z).elim nF fun z => z.elim nn nφ
        have e5 : Ext0 G3 H3 G3 (upd H3 q (.dK [(y', z)])) := ext0_side nF2 (fun xs z => by rw [hx2] at z; cases z) (fun a b z => by rw [hx2] at z; cases z)
        have S4 : SimM X.K X.mg G3 M3 (upd H3 q (.dK [(y', z)])) := S3.side nφ2 nF2 (fun xs z => by rw [hx2] at z; cases z) (fun a b z => by rw [hx2] at z; cases z)
        have e6 : Ext0 G3 (upd H3 q (.dK [(y', z)])) (G3.fix q) (upd H3 q (.dK [(y', z)])) := ⟨⟨[], by simp [Gh.fix]⟩, fun _ _ h => h, fun _ _ _ h => h, fun b h => ⟨.inr h, rfl⟩⟩
        have S5 := S4.grow e6 rfl (fun _ _ => rfl) (fun a ha h z => z.elim (fun z => nφ2 (z ▸ ha)) h) (fun a h => h.elim (fun z => by rw [z, upd_same]; simp) (S4.fthere a))
        have rv : RV X.K (G3.fix q).F (upd H3 q (.dK [(y', z)])) z x := RV.ext0 (e5.trans e6) _ _ r3
        have key : Ext G H (G3.fix q) (upd H3 q (.dK [(y', z)])) := by
          have eA : Ext G H G3 (upd H3 q (.dK [(y', z)])) := (e1.trans e4).side hq nF
          exact ⟨eA.toExt0.trans e6, eA.keep, eA.φnew, fun a h => h.elim (fun z => .inr (.inl (z ▸ hq))) (eA.Fnew a)⟩
        exact ⟨hx2, [(y', z)], rfl, by simp, p _ _ _ key S5 (RV.dct (.inl rfl) upd_same (.cons rv .nil))⟩
      · exact p.elim
/-! ### a list of one's own is fixed ahead of a statement (nothing happens in Python) -/
def frzAt (i : Nat) (s : Sl) (M : Mm) : Mm := match s[i]? with
  | some (some (.obj j)) => match M[j]? with
    | some (.lst vs) => match fzL vs M with
      | some ds => M.set j (.frz (.list ds))
      | none => M
    | some (.dct kvs) => match fzD kvs M with
      | some ds => M.set j (.frz (.dict ds))
      | none => M
    | _ => M
  | _ => M
def sGh (i : Nat) (b : SM) : SM := fun s M => b s (frzAt i s M)
theorem frzAt_ok {K : PySem.W.Frag} {mg : Str → Option Value} {G : Gh} {H : Hp} {M : Mm} {s : Sl} {σ : L2.St} (i : Nat) (S : SimM K mg G M H) (N : SimS K G s σ H) : ∃ G', Ext G H G' H ∧ SimM K mg G' (frzAt i s M) H := by
  unfold frzAt
  split
  · rename_i j hs
    obtain ⟨x, _, hr⟩ := N.at_ i _ hs
    obtain ⟨a, rfl, hi⟩ := hr
    split
    · rename_i vs ev
      split
      · rename_i ds ed
        obtain ⟨nF, xs, hx, rx⟩ := S.obj j a _ hi ev
        have rv := allD_ok ed (rws_rd S rx)
        have e : Ext G H (G.fix a) H := ext_fix (List.mem_of_getElem? hi)
        have rl : RV K (G.fix a).F H (.ref a) (.list ds) := .lst (.inl rfl) hx (RVs.ext e _ _ rv)
        obtain ⟨S2, e2⟩ := S.freeze hi nF rl
        exact ⟨_, e2, S2⟩
      · exact ⟨G, .refl, S⟩
    · rename_i kvs ev
      split
      · rename_i ds ed
        obtain ⟨nF, ys, hx, rx⟩ := S.obj j a _ hi ev
        have rv := fzD_ok S rx ed
        have e : Ext G H (G.fix a) H := ext_fix (List.mem_of_getElem? hi)
        have rl : RV K (G.fix a).F H (.ref a) (.dict ds) := .dct (.inl rfl) hx (RKs.ext e _ _ rv)
        obtain ⟨S2, e2⟩ := S.freeze hi nF rl
        exact ⟨_, e2, S2⟩
      · exact ⟨G, .refl, S⟩
    · exact ⟨G, .refl, S⟩
  · exact ⟨G, .refl, S⟩
theorem ss_gh {st : Stmt} {b : SM} (i : Nat) (h : SS X W st b) : SS X W st (sGh i b) := by
  refine ⟨psImp h.ps fun D σ H ⟨G, s, M, S, N, p⟩ => ?_⟩
  obtain ⟨G', e, S'⟩ := frzAt_ok i S N
  exact ⟨G', s, _, S', N.ext e, PostS.ext e p⟩
end Zm
namespace Zm
open PySem PySem.Spec PyProof.Rows L2
/-! ### what the denotations come to, step by step -/
section
variable {α β γ : Type} {s : Sl} {M : Mm}
theorem z_bok {v : α} {f : α → Mm → Out γ} : Out.bind (.ok v M) f = f v M := rfl
theorem z_bsok {v : α} {f : α → Mm → SO} : Out.bindS (.ok v M) s f = f v M := rfl
theorem z_bbad {f : α → Mm → Out γ} : Out.bind (.bad : Out α) f = .bad := rfl
theorem z_bsbad {f : α → Mm → SO} : Out.bindS (.bad : Out α) s f = .bad := rfl
theorem z_seqbad {b : SM} : SO.seq .bad b = .bad := rfl
theorem z_outbad : SO.out .bad = .bad := rfl
theorem z_asgbad {g : GM} : Out.asg .bad s g = .bad := rfl
theorem small_fmod {x m : Int} (h1 : 0 < m) (h2 : m ≤ 18446744073709551616) : smallI (x.fmod m) = true := by
  have a := Int.fmod_nonneg_of_pos x h1
  have b := Int.fmod_lt_of_pos x h1
  unfold smallI
  rw [decide_eq_true (by omega), decide_eq_true (by omega)]; rfl
theorem small_lit {i : Int} (h1 : -18446744073709551616 < i) (h2 : i < 18446744073709551616) : smallI i = true := by
  unfold smallI
  rw [decide_eq_true h1, decide_eq_true h2]; rfl
theorem fits_le {n : Nat} (h : n ≤ 16777216) : fitsL n = true := decide_eq_true h
theorem smallR_lit {i : Int} (h1 : -4611686018427387904 ≤ i) (h2 : i < 4611686018427387904) : smallR i = true := by
  unfold smallR
  rw [decide_eq_true h1, decide_eq_true h2]; rfl
theorem z_na64 : Int.natAbs 64 = 64 := rfl
theorem z_r1 {j : Int} (h1 : -4611686018427387904 ≤ j) (h2 : j < 4611686018427387904) : range1 [.d (.int j)] M = .ok (rangeL 0 j.toNat) M := by
  show (if smallR j then Out.ok (rangeL 0 j.toNat) M else .bad) = _
  rw [smallR_lit h1 h2]
  rfl
theorem z_r2 {i j : Int} (h3 : -4611686018427387904 ≤ i) (h4 : i < 4611686018427387904) (h1 : -4611686018427387904 ≤ j) (h2 : j < 4611686018427387904) : range2 [.d (.int i), .d (.int j)] M = .ok (rangeL i (j - i).toNat) M := by
  show (if smallR i && smallR j then Out.ok (rangeL i (j - i).toNat) M else .bad) = _
  rw [smallR_lit h1 h2, smallR_lit h3 h4]
  rfl
theorem z_bif {c : Prop} [Decidable c] {x y : Out α} {f : α → Mm → Out γ} : Out.bind (if c then x else y) f = if c then x.bind f else y.bind f := by split <;> rfl
theorem z_bsif {c : Prop} [Decidable c] {x y : Out α} {f : α → Mm → SO} : Out.bindS (if c then x else y) s f = if c then x.bindS s f else y.bindS s f := by split <;> rfl
theorem z_noer {v : α} : Out.noer (.ok v M) = .ok v M := rfl
theorem z_seqn {b : SM} : SO.seq (.nx s M) b = b s M := rfl
theorem z_seqr {b : SM} {v : Val} : SO.seq (.rt v M) b = .rt v M := rfl
theorem z_seqif {b : SM} {c : Prop} [Decidable c] {x y : SO} : SO.seq (if c then x else y) b = if c then x.seq b else y.seq b := by split <;> rfl
theorem z_outr {v : Val} : SO.out (.rt v M) = .ok v M := rfl
theorem z_outn : SO.out (.nx s M) = .ok (.d .none) M := rfl
theorem z_outif {c : Prop} [Decidable c] {x y : SO} : SO.out (if c then x else y) = if c then x.out else y.out := by split <;> rfl
theorem z_var {i : Nat} {v : Val} (h : s[i]? = some (some v)) : mVar i s M = .ok (rd v M) M := by unfold mVar; rw [h]
theorem z_C {x : PyData} : mC x s M = .ok (.d x) M := rfl
theorem z_op {f : Val → Val → Mm → Out Val} {a b : EM} : mOp f a b s M = (a s M).bind fun x M1 => (b s M1).bind fun y M2 => f x y M2 := rfl
theorem z_T {m : EM} : mT m s M = (m s M).bind fun v M1 => match v with
  | .d (.bool b) => .ok b M1
  | _ => .bad := rfl
theorem z_tand {a b : TM} : mTAnd a b s M = (a s M).bind fun c M1 => if c = true then b s M1 else .ok false M1 := rfl
theorem z_tor {a b : TM} : mTOr a b s M = (a s M).bind fun c M1 => if c = true then .ok true M1 else b s M1 := rfl
theorem z_tnot {a : TM} : mTNot a s M = (a s M).bind fun c M1 => .ok (!c) M1 := rfl
theorem z_and {a b : EM} : mAnd a b s M = (mT a s M).bind fun c M1 => if c = true then b s M1 else .ok (.d (.bool false)) M1 := rfl
theorem z_or {a b : EM} : mOr a b s M = (mT a s M).bind fun c M1 => if c = true then .ok (.d (.bool true)) M1 else b s M1 := rfl
theorem z_not {a : EM} : mNot a s M = (mT a s M).bind fun c M1 => .ok (.d (.bool (!c))) M1 := rfl
theorem z_if {c : TM} {a b : EM} : mIf c a b s M = (c s M).bind fun k M1 => if k = true then a s M1 else b s M1 := rfl
theorem z_nil : mNil s M = .ok [] M := rfl
theorem z_cons {a : EM} {r : AM} : mCons a r s M = (a s M).bind fun x M1 => (r s M1).bind fun xs M2 => .ok (x :: xs) M2 := rfl
theorem z_tup {a : AM} : mTup a s M = (a s M).bind fun vs M1 => match allD vs with
  | some ds => if fitsL ds.length then .ok (.d (.tuple ds)) M1 else .bad
  | none => .bad := rfl
theorem z_lst {a : AM} : mLst a s M = (a s M).bind fun vs M1 => match allD vs with
  | some ds => if fitsL ds.length then .ok (.d (.list ds)) M1 else .bad
  | none => .bad := rfl
theorem z_new {a : AM} : mNew a s M = (a s M).bind fun vs M1 => if fitsL vs.length then .ok (.obj M1.length) (M1 ++ [.lst vs]) else .bad := rfl
theorem z_allD0 : allD [] = some [] := rfl
theorem z_allD1 {x : PyData} {r : List Val} : allD (.d x :: r) = (allD r).map (x :: ·) := rfl
theorem z_allDm {ds : List PyData} : allD (ds.map .d) = some ds := by
  induction ds with
  | nil => rfl
  | cons d ds ih => rw [List.map_cons, z_allD1, ih]; rfl
theorem z_map {x : α} {f : α → β} : Option.map f (some x) = some (f x) := rfl
theorem z_sNil : sNil s M = .nx s M := rfl
theorem z_sSeq {a b : SM} : sSeq a b s M = (a s M).seq b := rfl
theorem z_sIf {c : TM} {a b : SM} : sIf c a b s M = (c s M).bindS s fun k M1 => if k = true then a s M1 else b s M1 := rfl
theorem z_sDrop {m : EM} : sDrop m s M = (m s M).bindS s fun _ M1 => .nx s M1 := rfl
theorem z_sRet {m : EM} : sRet m s M = (m s M).bindS s fun v M1 => .rt v M1 := rfl
theorem z_sAsg {m : EM} {g : GM} : sAsg m g s M = (m s M).asg s g := rfl
theorem z_asg {v : Val} {g : GM} : Out.asg (.ok v M) s g = match g v s M with
  | some (s', M') => .nx s' M'
  | none => .bad := rfl
theorem z_asgif {c : Prop} [Decidable c] {x y : Out Val} {g : GM} : Out.asg (if c then x else y) s g = if c then x.asg s g else y.asg s g := by split <;> rfl
theorem z_sPar {is : List Nat} {a : AM} : sPar is a s M = (a s M).bindS s fun vs M1 => if vs.length = is.length then .nx ((is.zip vs).foldl (fun s p => s.set p.1 (some p.2)) s) M1 else .bad := rfl
theorem z_gN {i : Nat} {v : Val} : gN i v s M = some (s.set i (some v), M) := rfl
theorem z_gT {n : Nat} {g : GMs} {ds : List PyData} : gT n g (.d (.tuple ds)) s M = if ds.length = n then g (ds.map .d) s M else none := rfl
theorem z_gsNil : gsNil [] s M = some (s, M) := rfl
theorem z_gsCons {g : GM} {r : GMs} {v : Val} {vs : List Val} : gsCons g r (v :: vs) s M = (g v s M).bind fun p => r vs p.1 p.2 := rfl
theorem z_obind {x : α} {f : α → Option β} : Option.bind (some x) f = f x := rfl
theorem z_gSet {mo mi : EM} {f : SetF} {v : Val} : gSet mo mi f v s M = match mo s M with
  | .ok o M1 => match mi s M1 with
    | .ok i M2 => (f o i v M2).map fun M3 => (s, M3)
    | _ => none
  | _ => none := rfl
theorem z_B {f : List Val → Mm → Out Val} {ms : AM} : mB f ms s M = (ms s M).bind f := rfl
theorem z_It {m : EM} : mIt m s M = (m s M).bind itK := rfl
theorem z_Enum {m : AM} : mEnum m s M = (m s M).bind enumK := rfl
theorem z_R1 {m : AM} : mRange1 m s M = (m s M).bind range1 := rfl
theorem z_R2 {m : AM} : mRange2 m s M = (m s M).bind range2 := rfl
theorem z_Comp {k : List Val → Mm → Out Val} {it : AM} {g : GM} {t : TM} {e : EM} {own : List Nat} : mComp k it g t e own s M = (it s M).bind fun vs M1 => (compL g t e (wipeS s own) vs M1).bind k := rfl
theorem z_For {it : AM} {g : GM} {b : SM} : sFor it g b s M = (it s M).bindS s fun vs M1 => forL g b vs s M1 := rfl
theorem z_Yes : mYes s M = .ok true M := rfl
theorem z_M {T : String} {f : MF} {o : EM} {ms : AM} : mM T f o ms s M = (o s M).bind fun v M1 => if tyOk T v M1 = true then (ms s M1).bind fun vs M2 => f v vs M2 else .bad := rfl
theorem z_Sl {m : EM} {l h : OM} : mSl m l h s M = (m s M).bind fun v M1 => (l s M1).bind fun lo M2 => (h s M2).bind fun hi M3 => vSl v lo hi M3 := rfl
theorem z_oN : oNone s M = .ok none M := rfl
theorem z_oS {m : EM} : oSome m s M = (m s M).bind fun v M1 => match v with
  | .d (.int i) => .ok (some i) M1
  | _ => .bad := rfl
theorem z_Rev {m : EM} : mRev m s M = (m s M).bind vRev := rfl
theorem z_Neg {m : EM} : mNeg m s M = (m s M).bind fun v M1 => match v with
  | .d (.int i) => .ok (.d (.int (-i))) M1
  | _ => .bad := rfl
theorem z_IsI {T : String} {m : EM} : mIsI T m s M = (m s M).bind fun v M1 => match tyNm v M1 with
  | some n => .ok (.d (.bool (isT n T))) M1
  | none => .bad := rfl
theorem z_call {n : Nat} {den : Den} {ms : AM} : mCall n den ms s M = (ms s M).bind fun vs M1 => if vs.length = n then den vs M1 else .bad := rfl
theorem z_callK {np nk : Nat} {den : Den} {ix : List Nat} {ms mk : AM} : mCallK np nk den ix ms mk s M = (ms s M).bind fun vs M1 => (mk s M1).bind fun us M2 => if vs.length = np ∧ us.length = nk then den (pickBy ix (vs ++ us)) M2 else .bad := rfl
theorem z_chain {f g : Val → Val → Mm → Out Val} {a b c : EM} : mChain f g a b c s M = (a s M).bind fun x M1 => (b s M1).bind fun y M2 => (f x y M2).bind fun z M3 => match z with
  | .d (.bool k) => if k = true then (c s M3).bind fun w M4 => g y w M4 else .ok (.d (.bool false)) M3
  | _ => .bad := rfl
theorem z_body {n : Nat} {b : SM} {vs : List Val} : body n b vs M = (b (slots0 n vs) M).out := rfl
theorem z_rdd {x : PyData} : rd (.d x) M = .d x := rfl
theorem z_rds {x : List Int} : rd (.scr x) M = .scr x := rfl
theorem cut_len {n : Nat} (h : M.length = n) : cut n M = M := by
  subst h
  unfold cut
  rw [List.take_length]
  exact ite_self _
/-- a result that is a datum, the store as long as before -/
theorem z_trim {den : Den} {vs : List Val} {x : PyData} {M' : Mm} (h : den vs M = .ok (.d x) M') (hl : M'.length = M.length) : trim den vs M = .ok (.d x) M' := by
  unfold trim
  rw [h]
  show Out.ok (Val.d x) (cut M.length M') = _
  rw [cut_len hl]
theorem z_trimo {den : Den} {vs : List Val} {i : Nat} {M' : Mm} (h : den vs M = .ok (.obj i) M') : trim den vs M = .ok (.obj i) M' := by
  unfold trim
  rw [h]
theorem cut_app {M1 R : Mm} {n : Nat} (h : M1.length = n) (hb : M1.all (MO.below n) = true) : cut n (M1 ++ R) = M1 := by
  subst h
  unfold cut
  rw [List.take_left, if_pos hb]
theorem z_trimc {den : Den} {vs : List Val} {x : PyData} {M1 R : Mm} (h : den vs M = .ok (.d x) (M1 ++ R)) (hl : M1.length = M.length) (hb : M1.all (MO.below M.length) = true) : trim den vs M = .ok (.d x) M1 := by
  unfold trim
  rw [h]
  show Out.ok (Val.d x) (cut M.length (M1 ++ R)) = _
  rw [cut_app hl hb]
theorem z_int {v w : Int} : vAdd (.d (.int v)) (.d (.int w)) M = .ok (.d (.int (v + w))) M := rfl
theorem z_vI {c : Int → Int → Bool} {f : Int → Int → Int} {a b : Int} : vI c f (.d (.int a)) (.d (.int b)) M = if c a b then .ok (.d (.int (f a b))) M else .bad := rfl
theorem z_vB {f : Int → Int → Bool} {a b : Int} : vB f (.d (.int a)) (.d (.int b)) M = .ok (.d (.bool (f a b))) M := rfl
theorem z_le {a b : Int} : vLe (.d (.int a)) (.d (.int b)) M = .ok (.d (.bool (decide (a ≤ b)))) M := rfl
theorem z_eqi {a b : Int} : vEq (.d (.int a)) (.d (.int b)) M = .ok (.d (.bool (decide (a = b)))) M := by
  show (match some (xor false (decide (a = b))) with | some b => Out.ok (Val.d (.bool b)) M | none => .bad) = _
  rw [Bool.false_xor]
theorem z_nei {a b : Int} : vNe (.d (.int a)) (.d (.int b)) M = .ok (.d (.bool (!decide (a = b)))) M := by
  show (match some (xor true (decide (a = b))) with | some b => Out.ok (Val.d (.bool b)) M | none => .bad) = _
  rw [Bool.true_xor]
theorem z_nes {a b : Str} : vNe (.d (.str a)) (.d (.str b)) M = .ok (.d (.bool (!decide (a = b)))) M := by
  show (match some (xor true (decide (a = b))) with | some b => Out.ok (Val.d (.bool b)) M | none => .bad) = _
  rw [Bool.true_xor]
theorem z_eqs {a b : Str} : vEq (.d (.str a)) (.d (.str b)) M = .ok (.d (.bool (decide (a = b)))) M := by
  show (match some (xor false (decide (a = b))) with | some b => Out.ok (Val.d (.bool b)) M | none => .bad) = _
  rw [Bool.false_xor]
theorem z_vInt {i : Int} : vInt [.d (.int i)] M = .ok (.d (.int i)) M := rfl
theorem z_vI2 {f : Int → Int → Int} {i j : Int} : vI2 f [.d (.int i), .d (.int j)] M = .ok (.d (.int (f i j))) M := rfl
theorem z_isN {v : Val} : vIsN v (.d .none) M = .ok (.d (.bool (isN v))) M := rfl
theorem z_notN {v : Val} : vNotN v (.d .none) M = .ok (.d (.bool (!isN v))) M := rfl
end
/-! ### the deck -/
/-- what the law draws from: the script's great numbers, a seed, a count -/
structure Dk where
  cells : List Int
  st : Int
  n : Int
  pos : ∀ c ∈ cells, 0 ≤ c
def Dk.mem (q : Dk) (rest : Mm) : Mm := .lst (q.cells.map fun i => .d (.int i)) :: .lst [.obj 0, .d (.int q.st), .d (.int q.n)] :: rest
section
variable {q : Dk} {rest : Mm}
theorem dk_0 : (q.mem rest)[0]? = some (.lst (q.cells.map fun i => .d (.int i))) := rfl
theorem dk_1 : (q.mem rest)[1]? = some (.lst [.obj 0, .d (.int q.st), .d (.int q.n)]) := rfl
theorem dk_s (i : Nat) : (q.mem rest)[i + 2]? = rest[i]? := rfl
theorem dk_rd0 : rd (.obj 0) (q.mem rest) = .obj 0 := rfl
theorem dk_rd1 : rd (.obj 1) (q.mem rest) = .obj 1 := rfl
theorem dk_len : (q.mem rest).length = rest.length + 2 := rfl
theorem dk_ix0 : vIx (.obj 1) (.d (.int 0)) (q.mem rest) = .ok (.obj 0) (q.mem rest) := rfl
theorem dk_ix1 : vIx (.obj 1) (.d (.int 1)) (q.mem rest) = .ok (.d (.int q.st)) (q.mem rest) := rfl
theorem dk_ix2 : vIx (.obj 1) (.d (.int 2)) (q.mem rest) = .ok (.d (.int q.n)) (q.mem rest) := rfl
end
end Zm
namespace Zm
open PySem PySem.Spec PyProof.Rows L2
theorem lay_ints : ∀ ns : List Int, PyData.canLayAll0 (ns.map .int) = true
  | [] => rfl
  | n :: ns => by rw [List.map_cons, PyData.canLayAll0, lay_ints ns]; rfl
theorem depth_ints : ∀ ns : List Int, PyData.depthAll (ns.map .int) = 0
  | [] => rfl
  | n :: ns => by rw [List.map_cons, PyData.depthAll, depth_ints ns]; rfl
theorem shaped_ints (ns : List Int) : SeqAt.shaped (.list (ns.map .int)) = true := by
  unfold SeqAt.shaped
  rw [PyData.canLay0, lay_ints, PyData.depth, depth_ints]
  rfl
theorem shaped_intt (ns : List Int) : SeqAt.shaped (.tuple (ns.map .int)) = true := by
  unfold SeqAt.shaped
  rw [PyData.canLay0, lay_ints, PyData.depth, depth_ints]
  rfl
theorem fzL_d (ds : List PyData) (M : Mm) : fzL (ds.map .d) M = some ds := by
  unfold fzL
  rw [List.map_map]
  exact z_allDm
theorem seqD_obj {i : Nat} {M : Mm} {ds : List PyData} (h : M[i]? = some (.lst (ds.map .d))) : seqD (.obj i) M = some ds := by
  unfold seqD
  simp only [h]
  exact fzL_d ds M
theorem dmap (ns : List Int) : (ns.map fun i => Val.d (.int i)) = (ns.map PyData.int).map .d := by rw [List.map_map]; rfl
section
variable {q : Dk} {rest : Mm}
theorem dk_setn (v : Int) : vSetL (.obj 1) (.d (.int 2)) (.d (.int v)) (q.mem rest) = some ((Dk.mk q.cells q.st v q.pos).mem rest) := rfl
theorem dk_ne : vNe (.obj 0) (.d (.list [])) (q.mem rest) = .ok (.d (.bool (!q.cells.isEmpty))) (q.mem rest) := by
  have h : datum (.obj 0) (q.mem rest) = some (.list (q.cells.map .int)) := by
    show Option.map PyData.list (seqD (.obj 0) (q.mem rest)) = _
    rw [seqD_obj (i := 0) (ds := q.cells.map .int) (by rw [dk_0, dmap])]
    rfl
  have e : eqOut true (.obj 0) (.d (.list [])) (q.mem rest) = some (!q.cells.isEmpty) := by
    show (match datum (.obj 0) (q.mem rest), datum (.d (.list [])) (q.mem rest) with
      | some a, some b => if SeqAt.shaped a && SeqAt.shaped b then some (xor true (PyData.eqv a b)) else none
      | _, _ => none) = _
    rw [h]
    show (if SeqAt.shaped (.list (q.cells.map .int)) && SeqAt.shaped (.list []) then some (xor true (PyData.eqv (.list (q.cells.map .int)) (.list []))) else none) = _
    rw [shaped_ints]
    rw [if_pos (by decide +kernel), Bool.true_xor]
    cases q.cells <;> rfl
  unfold vNe
  rw [e]
/-- the first number is there -/
theorem dk_ix00 {c : Int} {cs : List Int} (h : q.cells = c :: cs) : vIx (.obj 0) (.d (.int 0)) (q.mem rest) = .ok (.d (.int c)) (q.mem rest) := by
  have e : (q.mem rest)[0]? = some (.lst (.d (.int c) :: cs.map fun i => .d (.int i))) := by rw [dk_0, h]; rfl
  have z : atI (Val.d (.int c) :: cs.map fun i => .d (.int i)) 0 = some (.d (.int c)) := by
    unfold atI ixN
    simp
  unfold vIx
  simp only [e, z]
  rfl
theorem dk_set0 {c v : Int} {cs : List Int} (hp : ∀ x ∈ c :: cs, 0 ≤ x) (hv : 0 ≤ v) {st n : Int} :
    vSetL (.obj 0) (.d (.int 0)) (.d (.int v)) ((Dk.mk (c :: cs) st n hp).mem rest) = some ((Dk.mk (v :: cs) st n (fun x h => by rcases List.mem_cons.mp h with rfl | h; exact hv; exact hp x (List.mem_cons_of_mem _ h))).mem rest) := by
  have z : ixN (Val.d (.int c) :: cs.map fun i => .d (.int i)).length 0 = some 0 := by
    unfold ixN
    simp
  show (match ((Dk.mk (c :: cs) st n hp).mem rest)[0]? with
    | some (.lst vs) => match ixN vs.length 0 with
      | some n' => some (((Dk.mk (c :: cs) st n hp).mem rest).set 0 (.lst (vs.set n' (.d (.int v)))))
      | none => none
    | _ => none) = _
  have e : ((Dk.mk (c :: cs) st n hp).mem rest)[0]? = some (.lst (.d (.int c) :: cs.map fun i => .d (.int i))) := rfl
  simp only [e, z]
  rfl
theorem dk_pop {c : Int} {cs : List Int} (hp : ∀ x ∈ c :: cs, 0 ≤ x) {st n : Int} :
    vPop (.obj 0) [.d (.int 0)] ((Dk.mk (c :: cs) st n hp).mem rest) = .ok (.d (.int c)) ((Dk.mk cs st n (fun x h => hp x (List.mem_cons_of_mem _ h))).mem rest) := by
  have z : seqIndex? 0 (Val.d (.int c) :: cs.map fun i => .d (.int i)).length = some 0 := by
    unfold seqIndex?
    simp
  have e : ((Dk.mk (c :: cs) st n hp).mem rest)[0]? = some (.lst (.d (.int c) :: cs.map fun i => .d (.int i))) := rfl
  unfold vPop
  simp only [e, z]
  rfl
theorem dk_ty1 : tyOk "list" (.obj 1) (q.mem rest) = true := rfl
theorem dk_ty0 : tyOk "list" (.obj 0) (q.mem rest) = true := rfl
end
end Zm
namespace Zm
open PySem PySem.Spec PyProof.Rows L2
/-! ### sizes of data, for repr -/
structure Sz (k w : Nat) (x : PyData) : Prop where
  lv : x.leavesShort 40 = true
  sh : x.showable = true
  dp : x.depth ≤ k
  wt : x.weight ≤ w
structure SzL (k w : Nat) (ds : List PyData) : Prop where
  lv : PyData.leavesShortAll 40 ds = true
  sh : PyData.showableAll ds = true
  dp : PyData.depthAll ds ≤ k
  wt : PyData.weightAll ds ≤ w
variable {k k' w w' w1 w2 : Nat} {x : PyData} {ds es : List PyData}
theorem Sz.mono (h : Sz k w x) (hk : k ≤ k' := by omega) (hw : w ≤ w' := by omega) : Sz k' w' x := ⟨h.lv, h.sh, Nat.le_trans h.dp hk, Nat.le_trans h.wt hw⟩
theorem SzL.mono (h : SzL k w ds) (hk : k ≤ k' := by omega) (hw : w ≤ w' := by omega) : SzL k' w' ds := ⟨h.lv, h.sh, Nat.le_trans h.dp hk, Nat.le_trans h.wt hw⟩
theorem SzL.nil : SzL k w [] := ⟨rfl, rfl, Nat.zero_le _, Nat.zero_le _⟩
theorem SzL.cons (h : Sz k w1 x) (r : SzL k w2 ds) : SzL k (w1 + 1 + w2) (x :: ds) :=
  ⟨by rw [PyData.leavesShortAll, h.lv, r.lv]; rfl, by rw [PyData.showableAll, h.sh, r.sh]; rfl, by have := h.dp; have := r.dp; rw [PyData.depthAll]; omega, by have := h.wt; have := r.wt; rw [PyData.weightAll]; omega⟩
theorem SzL.uncons (h : SzL k w (x :: ds)) : Sz k w x ∧ SzL k w ds := by
  obtain ⟨a, b, c, d⟩ := h
  rw [PyData.leavesShortAll, Bool.and_eq_true] at a
  rw [PyData.showableAll, Bool.and_eq_true] at b
  rw [PyData.depthAll] at c
  rw [PyData.weightAll] at d
  exact ⟨⟨a.1, b.1, by omega, by omega⟩, ⟨a.2, b.2, by omega, by omega⟩⟩
theorem SzL.uncons2 (h : SzL k w (x :: ds)) : ∃ w1 w2, w1 + 1 + w2 ≤ w ∧ Sz k w1 x ∧ SzL k w2 ds := by
  obtain ⟨a, b, c, d⟩ := h
  rw [PyData.leavesShortAll, Bool.and_eq_true] at a
  rw [PyData.showableAll, Bool.and_eq_true] at b
  rw [PyData.depthAll] at c
  rw [PyData.weightAll] at d
  exact ⟨x.weight, PyData.weightAll ds, by omega, ⟨a.1, b.1, by omega, by omega⟩, ⟨a.2, b.2, by omega, by omega⟩⟩
theorem SzL.mem (h : SzL k w ds) (hx : x ∈ ds) : Sz k w x := by
  induction ds with
  | nil => cases hx
  | cons y ds ih =>
    have := h.uncons
    rcases List.mem_cons.mp hx with rfl | hx
    · exact this.1
    · exact ih this.2 hx
theorem SzL.append : ∀ {ds : List PyData} {w1 : Nat}, SzL k w1 ds → SzL k w2 es → SzL k (w1 + w2) (ds ++ es)
  | [], _, _, r => r.mono (hk := Nat.le_refl _) (hw := by omega)
  | x :: ds, _, h, r => by
    obtain ⟨a, b, e, h1, h2⟩ := h.uncons2
    exact (SzL.cons h1 (SzL.append h2 r)).mono (hk := Nat.le_refl _) (hw := by omega)
theorem SzL.sub (h : SzL k w ds) (s : List.Sublist es ds) : SzL k w es := by
  induction s generalizing w with
  | slnil => exact h
  | cons a s ih => exact ih h.uncons.2
  | cons_cons a s ih =>
    obtain ⟨u, v, e, h1, h2⟩ := h.uncons2
    exact (SzL.cons h1 (ih h2)).mono (hk := Nat.le_refl _) (hw := by omega)
theorem SzL.perm (h : SzL k w ds) (s : List.Perm ds es) : SzL k w es := by
  induction s generalizing w with
  | nil => exact h
  | cons a s ih =>
    obtain ⟨u, v, e, h1, h2⟩ := h.uncons2
    exact (SzL.cons h1 (ih h2)).mono (hk := Nat.le_refl _) (hw := by omega)
  | swap a b s =>
    obtain ⟨u, v, e, h1, h2⟩ := h.uncons2
    obtain ⟨u', v', e', h1', h2'⟩ := h2.uncons2
    exact (SzL.cons h1' (SzL.cons h1 h2')).mono (hk := Nat.le_refl _) (hw := by omega)
  | trans _ _ i j => exact j (i h)
theorem cutL_sub {α : Type} (xs : List α) (lo hi : Option Int) : (cutL xs lo hi).Sublist xs := (List.take_sublist _ _).trans (List.drop_sublist _ _)
theorem SzL.cut (h : SzL k w ds) (lo hi : Option Int) : SzL k w (cutL ds lo hi) := h.sub (cutL_sub _ _ _)
theorem SzL.rev (h : SzL k w ds) : SzL k w ds.reverse := h.perm (List.reverse_perm _).symm
theorem SzL.len (h : SzL k w ds) : ds.length ≤ w := by
  induction ds generalizing w with
  | nil => exact Nat.zero_le _
  | cons y ds ih =>
    obtain ⟨u, v, e, h1, h2⟩ := h.uncons2
    have := ih h2
    rw [List.length_cons]
    omega
theorem Sz.tup (h : SzL k w ds) : Sz (k + 1) w (.tuple ds) := ⟨by rw [PyData.leavesShort]; exact h.lv, by rw [PyData.showable]; exact h.sh, by rw [PyData.depth]; exact Nat.succ_le_succ h.dp, by rw [PyData.weight]; exact h.wt⟩
theorem Sz.lst (h : SzL k w ds) : Sz (k + 1) w (.list ds) := ⟨by rw [PyData.leavesShort]; exact h.lv, by rw [PyData.showable]; exact h.sh, by rw [PyData.depth]; exact Nat.succ_le_succ h.dp, by rw [PyData.weight]; exact h.wt⟩
theorem Sz.untup (h : Sz k w (.tuple ds)) : SzL (k - 1) w ds := by
  obtain ⟨a, b, c, d⟩ := h
  rw [PyData.leavesShort] at a
  rw [PyData.showable] at b
  rw [PyData.depth] at c
  rw [PyData.weight] at d
  exact ⟨a, b, by omega, d⟩
theorem log_lt {n m : Nat} (h : n < 2 ^ m) (hm : 0 < m) : n.log2 < m := by
  by_cases z : n = 0
  · subst z; exact hm
  · exact (Nat.log2_lt z).mpr h
theorem Sz.int {i : Int} (h : i.natAbs < 10 ^ 12) : Sz k 40 (.int i) := by
  have hl : i.natAbs.log2 < 40 := log_lt (Nat.lt_trans h (by decide)) (by decide)
  refine ⟨?_, ?_, Nat.zero_le _, ?_⟩
  · rw [PyData.leavesShort]
    exact decide_eq_true (Nat.le_trans (PyData.shown_int_le h) (by decide))
  · rw [PyData.showable]
    exact decide_eq_true (Nat.lt_trans hl (by decide))
  · rw [PyData.weight]
    split
    · exact Nat.zero_le _
    · omega
theorem Sz.int8 {i : Int} (h : i.natAbs < 256) : Sz k 8 (.int i) := by
  have hl : i.natAbs.log2 < 8 := log_lt h (by decide)
  obtain ⟨a, b, c, d⟩ := Sz.int (k := k) (i := i) (Nat.lt_trans h (by decide))
  refine ⟨a, b, c, ?_⟩
  rw [PyData.weight]
  split
  · exact Nat.zero_le _
  · omega
theorem Sz.none : Sz k w .none := ⟨rfl, rfl, Nat.zero_le _, Nat.zero_le _⟩
theorem Sz.bool {b : Bool} : Sz k w (.bool b) := ⟨rfl, rfl, Nat.zero_le _, Nat.zero_le _⟩
theorem Sz.shown (h : Sz k w x) (hk : k ≤ 64 := by omega) (hw : w ≤ 399000 := by omega) : fitsL x.shown.length = true := by
  refine fits_le (Nat.le_trans (PyData.shown_le 40 (by decide) x h.lv) ?_)
  have := h.wt
  omega
theorem z_repr {M : Mm} (h : Sz k w x) (hk : k ≤ 64 := by omega) (hw : w ≤ 399000 := by omega) : vRepr [.d x] M = .ok (.d (.str x.shown)) M := by
  show (if (x.showable && fitsL x.shown.length && decide (x.depth ≤ 64)) = true then Out.ok (Val.d (.str x.shown)) M else .bad) = _
  rw [h.sh, h.shown hk hw, decide_eq_true (Nat.le_trans h.dp hk)]
  rfl
/-! ### loops -/
theorem pairs0_eq (ds : List PyData) : pairs0 ds = (ds.zipIdx 0).map fun p => .d (.tuple [.int (p.2 : Nat), p.1]) := rfl
def pairsN (n : Nat) (ds : List PyData) : List Val := (ds.zipIdx n).map fun p => .d (.tuple [.int (p.2 : Nat), p.1])
theorem pairsN_0 (ds : List PyData) : pairs0 ds = pairsN 0 ds := rfl
theorem pairsN_c (n : Nat) (x : PyData) (ds : List PyData) : pairsN n (x :: ds) = .d (.tuple [.int n, x]) :: pairsN (n + 1) ds := rfl
theorem z_enumt {M : Mm} : enumK [.d (.tuple ds)] M = .ok (pairsN 0 ds) M := rfl
theorem z_enuml {M : Mm} : enumK [.d (.list ds)] M = .ok (pairsN 0 ds) M := rfl
theorem z_itl {M : Mm} : itK (.d (.list ds)) M = .ok (ds.map .d) M := rfl
theorem z_itt {M : Mm} : itK (.d (.tuple ds)) M = .ok (ds.map .d) M := rfl
theorem z_its {M : Mm} {ns : List Int} : itK (.scr ns) M = .ok (ns.map fun n => .d (.int n)) M := rfl
theorem z_forn {g : GM} {b : SM} {s : Sl} {M : Mm} : forL g b [] s M = .nx s M := rfl
theorem z_forc {g : GM} {b : SM} {s s1 : Sl} {M M1 : Mm} {v : Val} {vs : List Val} (hg : g v s M = some (s1, M1)) : forL g b (v :: vs) s M = match b s1 M1 with
  | .nx s2 M2 => forL g b vs s2 M2
  | .ct s2 M2 => forL g b vs s2 M2
  | .bk s2 M2 => .nx s2 M2
  | o => o := by
  show (match g v s M with
    | some (s1, M1) => match b s1 M1 with
      | .nx s2 M2 => forL g b vs s2 M2
      | .ct s2 M2 => forL g b vs s2 M2
      | .bk s2 M2 => .nx s2 M2
      | o => o
    | none => .bad) = _
  rw [hg]
/-- a loop that keeps a word, with no return -/
theorem forL_inv {g : GM} {b : SM} (I : Sl → Mm → Prop) : ∀ (vs : List Val), (∀ v ∈ vs, ∀ s M, I s M → ∃ s1 M1, g v s M = some (s1, M1) ∧ ∃ s2 M2, b s1 M1 = .nx s2 M2 ∧ I s2 M2) →
    ∀ s M, I s M → ∃ s' M', forL g b vs s M = .nx s' M' ∧ I s' M'
  | [], _, s, M, h => ⟨s, M, rfl, h⟩
  | v :: vs, st, s, M, h => by
    obtain ⟨s1, M1, hg, s2, M2, hb, h2⟩ := st v (List.mem_cons_self ..) s M h
    obtain ⟨s', M', e, h'⟩ := forL_inv I vs (fun v hv => st v (List.mem_cons_of_mem _ hv)) s2 M2 h2
    refine ⟨s', M', ?_, h'⟩
    rw [z_forc hg, hb]
    exact e
/-- a loop whose word counts the turns -/
theorem forL_cnt {g : GM} {b : SM} (I : Nat → Sl → Mm → Prop) (N : Nat) : ∀ (vs : List Val) (n : Nat), n + vs.length ≤ N → (∀ v ∈ vs, ∀ n s M, n < N → I n s M → ∃ s1 M1, g v s M = some (s1, M1) ∧ ∃ s2 M2, b s1 M1 = .nx s2 M2 ∧ I (n + 1) s2 M2) →
    ∀ s M, I n s M → ∃ s' M', forL g b vs s M = .nx s' M' ∧ I (n + vs.length) s' M'
  | [], n, _, _, s, M, h => ⟨s, M, rfl, h⟩
  | v :: vs, n, hN, st, s, M, h => by
    rw [List.length_cons] at hN
    obtain ⟨s1, M1, hg, s2, M2, hb, h2⟩ := st v (List.mem_cons_self ..) n s M (by omega) h
    obtain ⟨s', M', e, h'⟩ := forL_cnt I N vs (n + 1) (by omega) (fun v hv => st v (List.mem_cons_of_mem _ hv)) s2 M2 h2
    refine ⟨s', M', ?_, by rw [List.length_cons, show n + (vs.length + 1) = n + 1 + vs.length by omega]; exact h'⟩
    rw [z_forc hg, hb]
    exact e
/-- a comprehension whose turns keep a word and put out what is wanted -/
theorem compL_inv {g : GM} {t : TM} {e : EM} {s0 : Sl} (I : Mm → Prop) (R : Val → Prop) : ∀ (vs : List Val), (∀ v ∈ vs, ∀ M, I M → ∃ s1 M1, g v s0 M = some (s1, M1) ∧ ∃ c M2, t s1 M1 = .ok c M2 ∧
      if c = true then ∃ y M3, e s1 M2 = .ok y M3 ∧ I M3 ∧ R y else I M2) → ∀ M, I M → ∃ ys M', compL g t e s0 vs M = .ok ys M' ∧ I M' ∧ (∀ y ∈ ys, R y) ∧ ys.length ≤ vs.length
  | [], _, M, h => ⟨[], M, rfl, h, (fun _ h => by cases h), Nat.le_refl _⟩
  | v :: vs, st, M, h => by
    obtain ⟨s1, M1, hg, c, M2, ht, h2⟩ := st v (List.mem_cons_self ..) M h
    have u : compL g t e s0 (v :: vs) M = (t s1 M1).noer.bind fun b M2 => if b = true then (e s1 M2).noer.bind fun y M3 => (compL g t e s0 vs M3).bind fun r M4 => .ok (y :: r) M4 else compL g t e s0 vs M2 := by
      show (match g v s0 M with
        | some (s1, M1) => (t s1 M1).noer.bind fun b M2 => if b = true then (e s1 M2).noer.bind fun y M3 => (compL g t e s0 vs M3).bind fun r M4 => .ok (y :: r) M4 else compL g t e s0 vs M2
        | none => .bad) = _
      rw [hg]
    rw [ht, z_noer, z_bok] at u
    cases c with
    | false =>
      obtain ⟨ys, M', q, h3, h4, h5⟩ := compL_inv I R vs (fun v hv => st v (List.mem_cons_of_mem _ hv)) M2 h2
      exact ⟨ys, M', u.trans q, h3, h4, Nat.le_succ_of_le h5⟩
    | true =>
      obtain ⟨y, M3, he, h3, hy⟩ := h2
      obtain ⟨ys, M', q, h3, h4, h5⟩ := compL_inv I R vs (fun v hv => st v (List.mem_cons_of_mem _ hv)) M3 h3
      refine ⟨y :: ys, M', ?_, h3, (fun z hz => by rcases List.mem_cons.mp hz with rfl | hz; exact hy; exact h4 z hz), Nat.succ_le_succ h5⟩
      rw [u, if_pos rfl, he, z_noer, z_bok, q, z_bok]
/-- a comprehension that is plain -/
theorem compL_eq {g : GM} {t : TM} {e : EM} {s0 : Sl} {M : Mm} (p : Val → Bool) (f : Val → Val) : ∀ (vs : List Val), (∀ v ∈ vs, ∃ s1, g v s0 M = some (s1, M) ∧ t s1 M = .ok (p v) M ∧ (p v = true → e s1 M = .ok (f v) M)) →
    compL g t e s0 vs M = .ok ((vs.filter p).map f) M
  | [], _ => rfl
  | v :: vs, st => by
    obtain ⟨s1, hg, ht, he⟩ := st v (List.mem_cons_self ..)
    have ih := compL_eq p f vs fun v hv => st v (List.mem_cons_of_mem _ hv)
    have u : compL g t e s0 (v :: vs) M = (t s1 M).noer.bind fun b M2 => if b = true then (e s1 M2).noer.bind fun y M3 => (compL g t e s0 vs M3).bind fun r M4 => .ok (y :: r) M4 else compL g t e s0 vs M2 := by
      show (match g v s0 M with
        | some (s1, M1) => (t s1 M1).noer.bind fun b M2 => if b = true then (e s1 M2).noer.bind fun y M3 => (compL g t e s0 vs M3).bind fun r M4 => .ok (y :: r) M4 else compL g t e s0 vs M2
        | none => .bad) = _
      rw [hg]
    rw [ht, z_noer, z_bok] at u
    cases hp : p v with
    | false => rw [u, hp, if_neg (by decide), ih, List.filter_cons_of_neg (by rw [hp]; decide)]
    | true =>
      rw [u, hp, if_pos rfl, he hp, z_noer, z_bok, ih, z_bok, List.filter_cons_of_pos hp, List.map_cons]
/-- the first place that is bad -/
def scan (bad : Option PyData → PyData → Bool) : Option PyData → Nat → List PyData → Option Nat
  | _, _, [] => none
  | p, n, x :: r => if bad p x then some n else scan bad (some x) (n + 1) r
theorem scan_all {bad : Option PyData → PyData → Bool} {P : PyData → Prop} (h : ∀ p x, bad p x = false → P x) : ∀ {ds : List PyData} {p : Option PyData} {n : Nat}, scan bad p n ds = none → ∀ x ∈ ds, P x
  | [], _, _, _, _, hx => by cases hx
  | y :: ds, p, n, e, x, hx => by
    unfold scan at e
    cases q : bad p y with
    | true => rw [q, if_pos rfl] at e; cases e
    | false =>
      rw [q, if_neg (by decide)] at e
      rcases List.mem_cons.mp hx with rfl | hx
      · exact h _ _ q
      · exact scan_all h e x hx
theorem scan_lt {bad : Option PyData → PyData → Bool} : ∀ {ds : List PyData} {p : Option PyData} {n m : Nat}, scan bad p n ds = some m → m < n + ds.length
  | [], _, _, _, e => by cases e
  | y :: ds, p, n, m, e => by
    unfold scan at e
    rw [List.length_cons]
    split at e
    · cases e; omega
    · have := scan_lt e; omega
theorem forL_scan {g : GM} {b : SM} {M : Mm} (I : Sl → Prop) (bad : Option PyData → PyData → Bool) (P : PyData → Prop) (err : Nat → Val) (all : List PyData) (hP : ∀ p x, bad p x = false → P x)
    (step : ∀ pre x r s, all = pre ++ x :: r → (∀ y, pre.getLast? = some y → P y) → I s → ∃ s1, g (.d (.tuple [.int (pre.length : Nat), x])) s M = some (s1, M) ∧
      if bad pre.getLast? x = true then b s1 M = .rt (err pre.length) M else ∃ s2, b s1 M = .nx s2 M ∧ I s2) :
    ∀ (r pre : List PyData) (s : Sl), all = pre ++ r → (∀ y, pre.getLast? = some y → P y) → I s →
      match scan bad pre.getLast? pre.length r with
      | some n => forL g b (pairsN pre.length r) s M = .rt (err n) M
      | none => ∃ s', forL g b (pairsN pre.length r) s M = .nx s' M ∧ I s'
  | [], pre, s, _, _, h => ⟨s, rfl, h⟩
  | x :: r, pre, s, ha, hp, h => by
    obtain ⟨s1, hg, h2⟩ := step pre x r s ha hp h
    unfold scan
    rw [pairsN_c]
    cases q : bad pre.getLast? x with
    | true =>
      rw [q, if_pos rfl] at h2
      rw [if_pos rfl]
      show forL _ _ _ _ _ = _
      rw [z_forc hg, h2]
    | false =>
      rw [q, if_neg (by decide)] at h2
      obtain ⟨s2, hb, h3⟩ := h2
      rw [if_neg (by decide)]
      have ih := forL_scan I bad P err all hP step r (pre ++ [x]) s2 (by rw [ha, List.append_assoc]; rfl) (fun y hy => by rw [List.getLast?_concat] at hy; cases hy; exact hP _ _ q) h3
      rw [List.getLast?_concat, List.length_append] at ih
      have e : forL g b (.d (.tuple [.int (pre.length : Nat), x]) :: pairsN (pre.length + 1) r) s M = forL g b (pairsN (pre.length + 1) r) s2 M := by rw [z_forc hg, hb]
      rw [e]
      exact ih
/-! ### reading -/
theorem atI_at {α : Type} {xs : List α} {i : Nat} {x : α} (h : xs[i]? = some x) : atI xs (i : Int) = some x := by
  have hl : i < xs.length := (List.getElem?_eq_some_iff.mp h).1
  unfold atI ixN
  rw [if_pos (by omega), if_pos (by omega)]
  exact h
theorem atI_in {α : Type} {xs : List α} {r : Int} (h0 : 0 ≤ r) (h1 : r < xs.length) : ∃ x, atI xs r = some x ∧ x ∈ xs := by
  have hl : r.toNat < xs.length := by omega
  refine ⟨xs[r.toNat], ?_, List.getElem_mem hl⟩
  unfold atI ixN
  rw [if_pos h0, if_pos h1]
  exact List.getElem?_eq_getElem hl
theorem z_ixt {M : Mm} {i : Int} (h : atI ds i = some x) : vIx (.d (.tuple ds)) (.d (.int i)) M = .ok (.d x) M := by
  show (match atI ds i with | some d => Out.ok (Val.d d) M | none => .bad) = _
  rw [h]
theorem z_ixl {M : Mm} {i : Int} (h : atI ds i = some x) : vIx (.d (.list ds)) (.d (.int i)) M = .ok (.d x) M := by
  show (match atI ds i with | some d => Out.ok (Val.d d) M | none => .bad) = _
  rw [h]
theorem z_ixt0 {M : Mm} : vIx (.d (.tuple (x :: ds))) (.d (.int 0)) M = .ok (.d x) M := z_ixt (atI_at (i := 0) rfl)
theorem z_ixt1 {M : Mm} {y : PyData} : vIx (.d (.tuple (x :: y :: ds))) (.d (.int 1)) M = .ok (.d y) M := z_ixt (atI_at (i := 1) rfl)
theorem z_ixt2 {M : Mm} {y z : PyData} : vIx (.d (.tuple (x :: y :: z :: ds))) (.d (.int 2)) M = .ok (.d z) M := z_ixt (atI_at (i := 2) rfl)
theorem z_lenl {M : Mm} : vLen [.d (.list ds)] M = .ok (.d (.int ds.length)) M := rfl
theorem z_lent {M : Mm} : vLen [.d (.tuple ds)] M = .ok (.d (.int ds.length)) M := rfl
theorem z_tyt {M : Mm} : tyNm (.d (.tuple ds)) M = some "tuple" := rfl
theorem z_tyl {M : Mm} : tyNm (.d (.list ds)) M = some "list" := rfl
theorem z_tyd {M : Mm} {kvs : List (PyData × PyData)} : tyNm (.d (.dict kvs)) M = some "dict" := rfl
theorem z_tyi {M : Mm} {i : Int} : tyNm (.d (.int i)) M = some "int" := rfl
theorem z_tyb {M : Mm} {i : Bool} : tyNm (.d (.bool i)) M = some "bool" := rfl
theorem z_tys {M : Mm} {i : Str} : tyNm (.d (.str i)) M = some "str" := rfl
theorem z_tyn {M : Mm} : tyNm (.d .none) M = some "NoneType" := rfl
theorem isT_tt : isT "tuple" "tuple" = true := by decide +kernel
theorem isT_lt : isT "list" "tuple" = false := by decide +kernel
theorem isT_dt : isT "dict" "tuple" = false := by decide +kernel
theorem isT_it : isT "int" "tuple" = false := by decide +kernel
theorem isT_bt : isT "bool" "tuple" = false := by decide +kernel
theorem isT_st : isT "str" "tuple" = false := by decide +kernel
theorem isT_nt : isT "NoneType" "tuple" = false := by decide +kernel
theorem isT_ti : isT "tuple" "int" = false := by decide +kernel
theorem isT_li : isT "list" "int" = false := by decide +kernel
theorem isT_di : isT "dict" "int" = false := by decide +kernel
theorem isT_ii : isT "int" "int" = true := by decide +kernel
theorem isT_bi : isT "bool" "int" = true := by decide +kernel
theorem isT_si : isT "str" "int" = false := by decide +kernel
theorem isT_ni : isT "NoneType" "int" = false := by decide +kernel
theorem isT_tb : isT "tuple" "bool" = false := by decide +kernel
theorem isT_lb : isT "list" "bool" = false := by decide +kernel
theorem isT_db : isT "dict" "bool" = false := by decide +kernel
theorem isT_ib : isT "int" "bool" = false := by decide +kernel
theorem isT_bb : isT "bool" "bool" = true := by decide +kernel
theorem isT_sb : isT "str" "bool" = false := by decide +kernel
theorem isT_nb : isT "NoneType" "bool" = false := by decide +kernel
theorem isT_ts : isT "tuple" "str" = false := by decide +kernel
theorem isT_ls : isT "list" "str" = false := by decide +kernel
theorem isT_ds : isT "dict" "str" = false := by decide +kernel
theorem isT_is : isT "int" "str" = false := by decide +kernel
theorem isT_bs : isT "bool" "str" = false := by decide +kernel
theorem isT_ss : isT "str" "str" = true := by decide +kernel
theorem isT_ns : isT "NoneType" "str" = false := by decide +kernel
end Zm
namespace Zm
open PySem PySem.Spec PyProof.Rows L2
section
variable {q : Dk} {rest r : Mm} {us : List Val} {w : Val}
theorem dk_below {n : Nat} (h : 0 < n) : (q.mem []).all (MO.below n) = true := by
  have h2 : ((q.cells.map fun i => Val.d (.int i)).all (Val.below n)) = true := List.all_eq_true.mpr fun v hv => by
    obtain ⟨i, _, rfl⟩ := List.mem_map.mp hv
    rfl
  show ((q.cells.map fun i => Val.d (.int i)).all (Val.below n) && ((decide (0 < n) && (true && (true && true))) && true)) = true
  rw [h2, decide_eq_true h]
  rfl
theorem dk_mem1 : q.mem [] ++ [.lst us] = q.mem [.lst us] := rfl
theorem dk_rd2 : rd (.obj 2) (q.mem (.lst us :: r)) = .obj 2 := rfl
theorem dk_ty2 : tyOk "list" (.obj 2) (q.mem (.lst us :: r)) = true := rfl
theorem dk_app (h : us.length < 16777216) : vAppend (.obj 2) [w] (q.mem (.lst us :: r)) = .ok (.d .none) (q.mem (.lst (us ++ [w]) :: r)) := by
  show (if us.length < 16777216 then Out.ok (Val.d .none) ((q.mem (.lst us :: r)).set 2 (.lst (us ++ [w]))) else .bad) = _
  rw [if_pos h]
  rfl
theorem dk_len0 : (q.mem []).length = 2 := rfl
theorem sortD_i (ns : List Int) : sortD (ns.map .int) = some ((sortI ns).map .int) := by
  unfold sortD
  rw [allI_map]
theorem sortD_p (ps : List (Int × Int)) : sortD (ps.map pairD) = some ((sortP ps).map pairD) := by
  cases ps with
  | nil => simp [sortD, allI, sortI, sortP]
  | cons p ps =>
    unfold sortD
    have h : allI ((p :: ps).map pairD) = none := rfl
    rw [h, allP_map]
theorem z_sort {M : Mm} {v : Val} {ds es : List PyData} (h : listD v M = some ds) (e : sortD ds = some es) : vSorted [v] M = .ok (.d (.list es)) M := by
  show (match listD v M with
    | some ds => match sortD ds with
      | some es => Out.ok (Val.d (.list es)) M
      | none => .bad
    | none => .bad) = _
  rw [h]
  show (match sortD ds with
      | some es => Out.ok (Val.d (.list es)) M
      | none => .bad) = _
  rw [e]
theorem z_tupl {M : Mm} {ds : List PyData} : vTuple [.d (.list ds)] M = .ok (.d (.tuple ds)) M := rfl
theorem z_tupt {M : Mm} {ds : List PyData} : vTuple [.d (.tuple ds)] M = .ok (.d (.tuple ds)) M := rfl
theorem z_listt {M : Mm} {ds : List PyData} : vList [.d (.tuple ds)] M = .ok (.d (.list ds)) M := rfl
theorem z_listl {M : Mm} {ds : List PyData} : vList [.d (.list ds)] M = .ok (.d (.list ds)) M := rfl
theorem dk_list2 {ds : List PyData} : listD (.obj 2) (q.mem (.lst (ds.map .d) :: r)) = some ds := by
  unfold listD
  exact seqD_obj rfl
theorem lay_pairs : ∀ ps : List (Int × Int), PyData.canLayAll0 (ps.map pairD) = true
  | [] => rfl
  | p :: ps => by rw [List.map_cons, PyData.canLayAll0, lay_pairs ps]; rfl
def hit (f a b : Int) : Bool := (a == f) || ((b == f) || false)
theorem z_in2 {M : Mm} {f a b : Int} : vIn false (.d (.int f)) (.d (.tuple [.int a, .int b])) M = .ok (.d (.bool (hit f a b))) M := by
  show (if SeqAt.shaped (.int f) && PyData.canLayAll0 [.int a, .int b] then Out.ok (Val.d (.bool (xor false ([PyData.int a, .int b].any fun z => PyData.eqv z (.int f))))) M else .bad) = _
  have h : (SeqAt.shaped (.int f) && PyData.canLayAll0 [.int a, .int b]) = true := rfl
  rw [if_pos h, Bool.false_xor]
  rfl
theorem z_inp {neg : Bool} {M : Mm} {v w : Val} {d : PyData} {ds : List PyData} (h1 : datum v M = some d) (h2 : seqD w M = some ds) (h3 : SeqAt.shaped d = true) (h4 : PyData.canLayAll0 ds = true) :
    vIn neg v w M = .ok (.d (.bool (xor neg (ds.any fun z => PyData.eqv z d)))) M := by
  unfold vIn
  rw [h1, h2]
  show (if (SeqAt.shaped d && PyData.canLayAll0 ds) = true then _ else _) = _
  rw [h3, h4]
  rfl
theorem rangeL_mem {lo : Int} {n : Nat} {v : Val} (h : v ∈ rangeL lo n) : ∃ i : Int, v = .d (.int i) ∧ lo ≤ i ∧ i < lo + n := by
  obtain ⟨i, hi, rfl⟩ := List.mem_map.mp h
  have := List.mem_range.mp hi
  exact ⟨_, rfl, by omega, by omega⟩
theorem rangeL_len {lo : Int} {n : Nat} : (rangeL lo n).length = n := by unfold rangeL; simp
theorem allD_of {P : PyData → Prop} : ∀ {ys : List Val}, (∀ y ∈ ys, ∃ x, y = .d x ∧ P x) → ∃ ds : List PyData, ys = ds.map .d ∧ ∀ x ∈ ds, P x
  | [], _ => ⟨[], rfl, fun _ h => by cases h⟩
  | y :: ys, h => by
    obtain ⟨x, rfl, hx⟩ := h y (List.mem_cons_self ..)
    obtain ⟨ds, rfl, h2⟩ := allD_of fun y hy => h y (List.mem_cons_of_mem _ hy)
    exact ⟨x :: ds, rfl, fun z hz => by rcases List.mem_cons.mp hz with rfl | hz; exact hx; exact h2 z hz⟩
theorem z_lcK {M : Mm} {ds : List PyData} (h : ds.length ≤ 16777216) : lcK (ds.map .d) M = .ok (.d (.list ds)) M := by
  show (match allD (ds.map .d) with
    | some ds' => if fitsL (ds.map Val.d).length then Out.ok (Val.d (.list ds')) M else .bad
    | none => .bad) = _
  rw [z_allDm]
  show (if fitsL (ds.map Val.d).length then Out.ok (Val.d (.list ds)) M else .bad) = _
  rw [List.length_map, fits_le h]
  rfl
end
end Zm
namespace Zm
open PySem PySem.Spec PyProof.Rows L2
section
variable {k w w1 w2 : Nat} {x y z : PyData} {ds es : List PyData} {M : Mm} {s : Sl}
theorem z_addl : vAdd (.d (.list ds)) (.d (.list es)) M = if fitsL (ds.length + es.length) then .ok (.d (.list (ds ++ es))) M else .bad := rfl
theorem z_addt : vAdd (.d (.tuple ds)) (.d (.tuple es)) M = if fitsL (ds.length + es.length) then .ok (.d (.tuple (ds ++ es))) M else .bad := rfl
theorem z_addt' (h : ds.length + es.length ≤ 16777216) : vAdd (.d (.tuple ds)) (.d (.tuple es)) M = .ok (.d (.tuple (ds ++ es))) M := by rw [z_addt, fits_le h]; rfl
theorem z_na10 : Int.natAbs 10 = 10 := rfl
theorem z_dct0 : mDct0 s M = .ok (.d (.dict [])) M := rfl
theorem z_disp {k : List Val → Mm → Out Val} {ms : AM} : mDisp k ms s M = (ms s M).bind k := rfl
theorem z_disp1 {k : Key} : dispK [k] [.d x] M = .ok (.d (.dict [(keyD k, x)])) M := by
  unfold dispK
  rw [z_allD1, z_allD0]
  show (if [Val.d x].length = [k].length ∧ [k].Nodup ∧ [k].length ≤ 15 then _ else _) = _
  rw [if_pos ⟨rfl, by simp, by simp⟩]
  rfl
theorem z_slt {lo hi : Option Int} : vSl (.d (.tuple ds)) lo hi M = .ok (.d (.tuple (cutL ds lo hi))) M := rfl
theorem z_revt : vRev (.d (.tuple ds)) M = .ok (.d (.tuple ds.reverse)) M := rfl
def SzE (k w : Nat) (ds : List PyData) : Prop := ∀ x ∈ ds, Sz k w x
theorem SzE.nil : SzE k w [] := fun _ h => by cases h
theorem SzE.cons (h : Sz k w x) (r : SzE k w ds) : SzE k w (x :: ds) := fun z hz => by
  rcases List.mem_cons.mp hz with rfl | hz
  · exact h
  · exact r z hz
theorem SzE.of (h : SzL k w ds) : SzE k w ds := fun x hx => h.mem hx
theorem SzL.c {k1 k2 : Nat} (h : Sz k1 w1 x) (r : SzL k2 w2 ds) : SzL (max k1 k2) (w1 + 1 + w2) (x :: ds) := SzL.cons (h.mono (hw := Nat.le_refl _)) (r.mono (hw := Nat.le_refl _))
theorem SzL.a {k1 k2 : Nat} (h : SzL k1 w1 ds) (r : SzL k2 w2 es) : SzL (max k1 k2) (w1 + w2) (ds ++ es) := SzL.append (h.mono (hw := Nat.le_refl _)) (r.mono (hw := Nat.le_refl _))
theorem SzL.n0 : SzL 0 0 [] := .nil
theorem Sz.t1 (h : Sz k w x) : Sz (k + 1) (w + 1) (.tuple [x]) := (Sz.tup (SzL.c h .n0)).mono
theorem Sz.t2 {k1 : Nat} (h : Sz k w x) (h1 : Sz k1 w1 y) : Sz (max k k1 + 1) (w + w1 + 2) (.tuple [x, y]) := (Sz.tup (SzL.c h (.c h1 .n0))).mono
theorem Sz.t3 {k1 k2 : Nat} (h : Sz k w x) (h1 : Sz k1 w1 y) (h2 : Sz k2 w2 z) : Sz (max k (max k1 k2) + 1) (w + w1 + w2 + 3) (.tuple [x, y, z]) := (Sz.tup (SzL.c h (.c h1 (.c h2 .n0)))).mono
theorem Sz.l1 (h : Sz k w x) : Sz (k + 1) (w + 1) (.list [x]) := (Sz.lst (SzL.c h .n0)).mono
theorem Sz.n : Sz 0 0 .none := .none
theorem Sz.b {b : Bool} : Sz 0 0 (.bool b) := .bool
theorem Sz.i8 {i : Int} (h : i.natAbs < 256) : Sz 0 8 (.int i) := .int8 h
theorem SzE.c {k1 : Nat} (h : Sz k1 w1 x) (r : SzE k w ds) (hk : k1 ≤ k := by omega) (hw : w1 ≤ w := by omega) : SzE k w (x :: ds) := .cons (h.mono hk hw) r
theorem cutL_len {α : Type} (xs : List α) (lo hi : Option Int) : (cutL xs lo hi).length ≤ xs.length := (cutL_sub xs lo hi).length_le
end
end Zm
namespace Zm
open PySem PySem.Spec PyProof.Rows L2
section
variable {k w w1 w2 : Nat} {x y z : PyData} {ds es : List PyData} {M : Mm} {s : Sl}
theorem z_lens {ns : List Int} : vLen [.scr ns] M = .ok (.d (.int ns.length)) M := rfl
theorem z_sls {ns : List Int} {lo hi : Option Int} : vSl (.scr ns) lo hi M = .ok (.d (.list (cutL (ns.map .int) lo hi))) M := rfl
theorem z_sll {lo hi : Option Int} : vSl (.d (.list ds)) lo hi M = .ok (.d (.list (cutL ds lo hi))) M := rfl
theorem z_lcN {us : List Val} (h : us.length ≤ 16777216) : lcN us M = .ok (.obj M.length) (M ++ [.lst us]) := by
  unfold lcN
  rw [fits_le h]
  rfl
theorem pairsN_mem : ∀ {ds : List PyData} {n : Nat} {v : Val}, v ∈ pairsN n ds → ∃ (m : Nat) (x : PyData), v = .d (.tuple [.int m, x]) ∧ x ∈ ds
  | [], _, _, h => by cases h
  | x :: ds, n, v, h => by
    rw [pairsN_c] at h
    rcases List.mem_cons.mp h with rfl | h
    · exact ⟨n, x, rfl, List.mem_cons_self ..⟩
    · obtain ⟨m, y, e, hy⟩ := pairsN_mem h
      exact ⟨m, y, e, List.mem_cons_of_mem _ hy⟩
theorem SzL.ofE : ∀ {ds : List PyData} {k w n : Nat}, SzE k w ds → ds.length ≤ n → SzL k (n * (w + 1)) ds
  | [], _, _, _, _, _ => .nil
  | x :: ds, k, w, n, h, hl => by
    rw [List.length_cons] at hl
    have ih := SzL.ofE (n := n - 1) (fun y hy => h y (List.mem_cons_of_mem _ hy)) (by omega)
    have e : n * (w + 1) = (n - 1) * (w + 1) + (w + 1) := by
      obtain ⟨m, rfl⟩ : ∃ m, n = m + 1 := ⟨n - 1, by omega⟩
      rw [Nat.add_sub_cancel, Nat.succ_mul]
    exact (SzL.cons (h x (List.mem_cons_self ..)) ih).mono (hk := Nat.le_refl _) (hw := by omega)
theorem SzL.flat {k' : Nat} (h : SzL k' w ds) (hd : ∀ x ∈ ds, x.depth ≤ k) : SzL k w ds := by
  refine ⟨h.lv, h.sh, ?_, h.wt⟩
  clear h
  induction ds with
  | nil => exact Nat.zero_le _
  | cons x ds ih =>
    rw [PyData.depthAll]
    exact Nat.max_le.mpr ⟨hd x (List.mem_cons_self ..), ih fun y hy => hd y (List.mem_cons_of_mem _ hy)⟩
theorem z_reprne (h : Sz k w x) (hk : k ≤ 64 := by omega) (hw : w ≤ 399000 := by omega) : vRepr [.d x] M = .ok (.d (.str x.shown)) M := z_repr h hk hw
end
end Zm
namespace Zm
open PySem PySem.Spec PyProof.Rows L2
section
variable {q : Dk} {rest r : Mm} {us : List Val} {w : Val} {M : Mm} {s : Sl} {x : PyData} {ds es : List PyData} {i : Nat}
theorem z_mulx {a b : Int} : vMulX (.d (.int a)) (.d (.int b)) M = if smallI a || smallI b then .ok (.d (.int (a * b))) M else .bad := rfl
theorem z_mult {k : Int} : vMulX (.d (.tuple ds)) (.d (.int k)) M = if ds.isEmpty || decide (k = 1) then (if k.natAbs ≤ 1000 then .ok (.d (.tuple ds)) M else .bad)
    else if 2 ≤ k ∧ k ≤ 1000 ∧ ds.length ≤ 1000 then .ok (.d (.tuple (List.replicate k.toNat ds).flatten)) M else if k ≤ 0 ∧ -1000 ≤ k then .ok (.d (.tuple [])) M else .bad := rfl
theorem z_mult2 (h : ds.length ≤ 1000) : vMulX (.d (.tuple ds)) (.d (.int 2)) M = .ok (.d (.tuple (ds ++ ds))) M := by
  rw [z_mult]
  cases ds with
  | nil => rfl
  | cons a ds =>
    show (if 2 ≤ (2 : Int) ∧ (2 : Int) ≤ 1000 ∧ (a :: ds).length ≤ 1000 then Out.ok (Val.d (.tuple (List.replicate (Int.toNat 2) (a :: ds)).flatten)) M else if (2 : Int) ≤ 0 ∧ -1000 ≤ (2 : Int) then .ok (.d (.tuple [])) M else .bad) = _
    rw [if_pos ⟨by decide, by decide, h⟩]
    show Out.ok (Val.d (.tuple (List.replicate 2 (a :: ds)).flatten)) M = _
    simp
theorem z_lr1 {m : EM} : mLR1 m s M = (m s M).bind fun v M1 => match v with
  | .d (.int j) => if okR j then .ok (.d (.list (ranD 0 j))) M1 else .bad
  | _ => .bad := rfl
theorem z_lr1N {m : EM} : mLR1N m s M = (m s M).bind fun v M1 => match v with
  | .d (.int j) => if okR j then .ok (.obj M1.length) (M1 ++ [.lst ((ranD 0 j).map .d)]) else .bad
  | _ => .bad := rfl
theorem okR_le {j : Int} (h1 : 0 ≤ j) (h2 : j ≤ 16777216) : okR j = true := by
  unfold okR
  rw [decide_eq_true h1, decide_eq_true h2]
  rfl
theorem ranD_mem {lo hi : Int} (h : x ∈ ranD lo hi) : ∃ i : Int, x = .int i ∧ lo ≤ i ∧ i < hi := by
  obtain ⟨n, hn, rfl⟩ := List.mem_map.mp h
  have := List.mem_range.mp hn
  exact ⟨_, rfl, by omega, by omega⟩
theorem ranD_len {lo hi : Int} : (ranD lo hi).length = (hi - lo).toNat := by unfold ranD; simp
/-! ### places behind the deck -/
theorem dk_get {i : Nat} : (q.mem rest)[i + 2]? = rest[i]? := rfl
theorem dk_set {i : Nat} {o : MO} : (q.mem rest).set (i + 2) o = q.mem (rest.set i o) := rfl
theorem dk_add : q.mem rest ++ r = q.mem (rest ++ r) := rfl
theorem dk_ll : (q.mem rest).length = rest.length + 2 := rfl
theorem z_rdo : rd (.obj (i + 2)) (q.mem rest) = match rest[i]? with
  | some (.frz x) => .d x
  | _ => .obj (i + 2) := rfl
theorem z_tyo {T : String} : tyOk T (.obj (i + 2)) (q.mem rest) = match rest[i]? with
    | some (.lst _) => T == "list"
    | some (.dct _) => T == "dict"
    | _ => false := rfl
theorem z_app : vAppend (.obj (i + 2)) [w] (q.mem rest) = match rest[i]? with
    | some (.lst us) => if us.length < 16777216 then .ok (.d .none) (q.mem (rest.set i (.lst (us ++ [w])))) else .bad
    | _ => .bad := rfl
theorem z_listN {v : Val} : vListN [v] M = match seqD v M with
    | some ds => .ok (.obj M.length) (M ++ [.lst (ds.map .d)])
    | none => .bad := rfl
theorem z_sqt : seqD (.d (.tuple ds)) M = some ds := rfl
theorem z_sql : seqD (.d (.list ds)) M = some ds := rfl
theorem z_leno : vLen [.obj (i + 2)] (q.mem rest) = match (match rest[i]? with
    | some (.lst vs) => some vs.length
    | _ => none) with
  | some n => .ok (.d (.int (n : Nat))) (q.mem rest)
  | none => .bad := rfl
theorem z_frz {m : EM} : mFrz m s M = (m s M).bind fun v M1 => match v with
  | .d x => .ok (.d x) M1
  | .scr ns => .ok (.scr ns) M1
  | .obj i => match M1[i]? with
    | some (.frz x) => .ok (.d x) M1
    | some (.lst vs) => match fzL vs M1 with
      | some ds => .ok (.d (.list ds)) (M1.set i (.frz (.list ds)))
      | none => .bad
    | _ => .bad := rfl
theorem z_popk {k : Int} (h : M[i]? = some (.lst (ds.map .d))) (h0 : 0 ≤ k) (h2 : k < 1000000000) (hx : ds[k.toNat]? = some x) : vPop (.obj i) [.d (.int k)] M = .ok (.d x) (M.set i (.lst ((ds.eraseIdx k.toNat).map .d))) := by
  have hl : k.toNat < ds.length := (List.getElem?_eq_some_iff.mp hx).1
  have e : seqIndex? k (ds.map Val.d).length = some k.toNat := by
    unfold seqIndex?
    rw [List.length_map]
    simp only [if_neg (show ¬ k < 0 by omega)]
    rw [if_pos (by rw [Bool.and_eq_true, decide_eq_true_eq, decide_eq_true_eq]; omega)]
  have e2 : (ds.map Val.d)[k.toNat]? = some (.d x) := by rw [List.getElem?_map, hx]; rfl
  have e3 : (ds.map Val.d).eraseIdx k.toNat = (ds.eraseIdx k.toNat).map .d := by
    clear h hx hl e e2
    generalize k.toNat = n
    induction ds generalizing n with
    | nil => rfl
    | cons a ds ih => cases n with
      | zero => rfl
      | succ n => simp only [List.map_cons, List.eraseIdx_cons_succ, ih n]
  show (match M[i]? with
    | some (.lst us) => if -9223372036854775808 ≤ k ∧ k < 9223372036854775808 then match seqIndex? k us.length with
      | some j => match us[j]? with
        | some w => Out.ok (rd w M) (M.set i (.lst (us.eraseIdx j)))
        | none => .bad
      | none => .bad else .bad
    | _ => .bad) = _
  simp only [h, e, e2, if_pos (show -9223372036854775808 ≤ k ∧ k < 9223372036854775808 by omega), e3, z_rdd]
/-- a list against the empty one -/
theorem z_nel {v : Val} (h : datum v M = some (.list ds)) (hn : ∀ d, v = .d d → d = .list ds) (hs : SeqAt.shaped (.list ds) = true) : vNe v (.d (.list [])) M = .ok (.d (.bool (!ds.isEmpty))) M := by
  have e : eqOut true v (.d (.list [])) M = some (!ds.isEmpty) := by
    have g : (if SeqAt.shaped (.list ds) && SeqAt.shaped (.list []) then some (xor true (PyData.eqv (.list ds) (.list []))) else none) = some (!ds.isEmpty) := by
      rw [hs]
      rw [if_pos (by decide +kernel), Bool.true_xor]
      cases ds <;> rfl
    cases v with
    | d y =>
      have := hn y rfl
      subst this
      exact g
    | obj j =>
      show (match datum (.obj j) M, datum (.d (.list [])) M with
        | some a, some b => if SeqAt.shaped a && SeqAt.shaped b then some (xor true (PyData.eqv a b)) else none
        | _, _ => none) = _
      rw [h]
      exact g
    | scr ns =>
      show (match datum (.scr ns) M, datum (.d (.list [])) M with
        | some a, some b => if SeqAt.shaped a && SeqAt.shaped b then some (xor true (PyData.eqv a b)) else none
        | _, _ => none) = _
      rw [h]
      exact g
  unfold vNe
  rw [e]
theorem z_nelo (h : M[i]? = some (.lst (ds.map .d))) (hs : SeqAt.shaped (.list ds) = true) : vNe (.obj i) (.d (.list [])) M = .ok (.d (.bool (!ds.isEmpty))) M :=
  z_nel (by show Option.map PyData.list (seqD (.obj i) M) = _; rw [seqD_obj h]; rfl) (fun d h => by cases h) hs
end
/-! ### data that can be compared -/
structure Lay (ds : List PyData) : Prop where
  c : ∀ x ∈ ds, x.canLay0 = true
  d : ∀ x ∈ ds, x.depth ≤ 60
theorem Lay.shaped {ds : List PyData} (h : Lay ds) : SeqAt.shaped (.list ds) = true := by
  have a : PyData.canLayAll0 ds = true := by
    have := h.c
    clear h
    induction ds with
    | nil => rfl
    | cons x ds ih => rw [PyData.canLayAll0, this x (List.mem_cons_self ..), ih fun y hy => this y (List.mem_cons_of_mem _ hy)]; rfl
  have b : PyData.depthAll ds ≤ 60 := by
    have := h.d
    clear h a
    induction ds with
    | nil => exact Nat.zero_le _
    | cons x ds ih => rw [PyData.depthAll]; exact Nat.max_le.mpr ⟨this x (List.mem_cons_self ..), ih fun y hy => this y (List.mem_cons_of_mem _ hy)⟩
  unfold SeqAt.shaped
  rw [PyData.canLay0, a, PyData.depth, decide_eq_true (by omega)]
  rfl
theorem Lay.sub {ds es : List PyData} (h : Lay ds) (s : ∀ x ∈ es, x ∈ ds) : Lay es := ⟨fun x hx => h.c x (s x hx), fun x hx => h.d x (s x hx)⟩
theorem Lay.ran (a b : Int) : Lay (ranD a b) := ⟨fun x hx => by obtain ⟨i, rfl, _⟩ := ranD_mem hx; rfl, fun x hx => by obtain ⟨i, rfl, _⟩ := ranD_mem hx; exact Nat.zero_le _⟩
/-! ### while -/
theorem whN_det {c : TM} {b : SM} : ∀ (n m : Nat) (s : Sl) (M : Mm), whN c b n s M ≠ .bad → whN c b m s M ≠ .bad → whN c b n s M = whN c b m s M
  | 0, _, _, _, h, _ => absurd rfl h
  | _ + 1, 0, _, _, _, h => absurd rfl h
  | n + 1, m + 1, s, M, h1, h2 => by
    unfold whN at h1 h2 ⊢
    cases hc : c s M with
    | bad => rfl
    | er e M1 => rfl
    | ok k M1 =>
      rw [hc] at h1 h2
      cases k with
      | false => rfl
      | true =>
        simp only [z_bsok, if_true] at h1 h2 ⊢
        cases hb : b s M1 with
        | nx s2 M2 => rw [hb] at h1 h2; exact whN_det n m s2 M2 h1 h2
        | ct s2 M2 => rw [hb] at h1 h2; exact whN_det n m s2 M2 h1 h2
        | _ => rfl
theorem sWhile_of {c : TM} {b : SM} {s : Sl} {M : Mm} {o : SO} {n : Nat} (h : whN c b n s M = o) (ho : o ≠ .bad) : sWhile c b s M = o := by
  have hn : whN c b n s M ≠ .bad := by rw [h]; exact ho
  have he : ∃ n, whN c b n s M ≠ .bad := ⟨n, hn⟩
  unfold sWhile
  rw [dif_pos he, ← h]
  exact whN_det _ _ _ _ (Classical.choose_spec he) hn
/-- a while that keeps a word and comes down -/
theorem sWhile_inv {c : TM} {b : SM} (I : Nat → Sl → Mm → Prop) (Q : Sl → Mm → Prop)
    (st : ∀ k s M, I k s M → ∃ t M1, c s M = .ok t M1 ∧ if t = true then ∃ s2 M2, b s M1 = .nx s2 M2 ∧ ∃ k2 < k, I k2 s2 M2 else Q s M1) :
    ∀ k s M, I k s M → ∃ s' M', sWhile c b s M = .nx s' M' ∧ Q s' M' := by
  have key : ∀ n k, k < n → ∀ s M, I k s M → ∃ m s' M', whN c b m s M = .nx s' M' ∧ Q s' M' := by
    intro n
    induction n with
    | zero => intro k h; omega
    | succ n ih =>
      intro k hk s M h
      obtain ⟨t, M1, hc, h2⟩ := st k s M h
      cases t with
      | false =>
        refine ⟨1, s, M1, ?_, h2⟩
        unfold whN
        rw [hc]
        rfl
      | true =>
        obtain ⟨s2, M2, hb, k2, hk2, h3⟩ := h2
        obtain ⟨m, s', M', e, q⟩ := ih k2 (by omega) s2 M2 h3
        refine ⟨m + 1, s', M', ?_, q⟩
        unfold whN
        rw [hc]
        simp only [z_bsok, if_true, hb]
        exact e
  intro k s M h
  obtain ⟨m, s', M', e, q⟩ := key (k + 1) k (Nat.lt_succ_self _) s M h
  exact ⟨s', M', sWhile_of e (by intro h; cases h), q⟩
end Zm
namespace Zm
open PySem PySem.Spec PyProof.Rows L2
theorem ints_of {P : Int → Prop} : ∀ {ds : List PyData}, (∀ x ∈ ds, ∃ i, x = .int i ∧ P i) → ∃ ns : List Int, ds = ns.map .int ∧ ∀ n ∈ ns, P n
  | [], _ => ⟨[], rfl, fun _ h => by cases h⟩
  | x :: ds, h => by
    obtain ⟨i, rfl, hi⟩ := h x (List.mem_cons_self ..)
    obtain ⟨ns, rfl, hn⟩ := ints_of fun y hy => h y (List.mem_cons_of_mem _ hy)
    exact ⟨i :: ns, rfl, fun n hn' => by rcases List.mem_cons.mp hn' with rfl | h; exact hi; exact hn n h⟩
theorem cutL_take {α : Type} {xs : List α} {n : Int} (h : 0 ≤ n) : cutL xs none (some n) = xs.take n.toNat := by
  unfold cutL
  show (xs.drop 0).take ((if n < 0 then (n + (xs.length : Int)).toNat else min n.toNat xs.length) - 0) = _
  rw [if_neg (by omega), List.drop_zero, Nat.sub_zero]
  by_cases hl : n.toNat ≤ xs.length
  · rw [Nat.min_eq_left hl]
  · rw [Nat.min_eq_right (by omega), List.take_length, List.take_of_length_le (by omega)]
theorem cutL_drop {α : Type} {xs : List α} {n : Int} (h : 0 ≤ n) : cutL xs (some n) none = xs.drop n.toNat := by
  unfold cutL
  show (xs.drop (if n < 0 then (n + (xs.length : Int)).toNat else min n.toNat xs.length)).take (xs.length - (if n < 0 then (n + (xs.length : Int)).toNat else min n.toNat xs.length)) = _
  rw [if_neg (by omega)]
  by_cases hl : n.toNat ≤ xs.length
  · rw [Nat.min_eq_left hl, List.take_of_length_le (by rw [List.length_drop]; exact Nat.le_refl _)]
  · rw [Nat.min_eq_right (by omega), List.drop_length, List.drop_of_length_le (by omega)]
    exact List.take_nil
end Zm
namespace Zm
open PySem PySem.Spec PyProof.Rows L2
theorem rangeL_cons (lo : Int) (n : Nat) : rangeL lo (n + 1) = .d (.int lo) :: rangeL (lo + 1) n := by
  unfold rangeL
  rw [List.range_succ_eq_map, List.map_cons, List.map_map]
  refine List.cons_eq_cons.mpr ⟨by simp, List.map_congr_left fun i _ => ?_⟩
  show Val.d (.int (lo + ((i + 1 : Nat) : Int))) = _
  rw [show lo + ((i + 1 : Nat) : Int) = lo + 1 + (i : Int) by omega]
theorem rangeL_zero (lo : Int) : rangeL lo 0 = [] := rfl
theorem compL_consT {g : GM} {t : TM} {e : EM} {s0 s1 : Sl} {v y : Val} {vs : List Val} {M M1 M2 M3 : Mm} (hg : g v s0 M = some (s1, M1)) (ht : t s1 M1 = .ok true M2) (he : e s1 M2 = .ok y M3) :
    compL g t e s0 (v :: vs) M = (compL g t e s0 vs M3).bind fun r M4 => .ok (y :: r) M4 := by
  show (match g v s0 M with
    | some (s1, M1) => (t s1 M1).noer.bind fun b M2 => if b = true then (e s1 M2).noer.bind fun y M3 => (compL g t e s0 vs M3).bind fun r M4 => .ok (y :: r) M4 else compL g t e s0 vs M2
    | none => .bad) = _
  rw [hg]
  show ((t s1 M1).noer.bind fun b M2 => if b = true then (e s1 M2).noer.bind fun y M3 => (compL g t e s0 vs M3).bind fun r M4 => .ok (y :: r) M4 else compL g t e s0 vs M2) = _
  rw [ht, z_noer, z_bok, if_pos rfl, he, z_noer, z_bok]
theorem compL_consF {g : GM} {t : TM} {e : EM} {s0 s1 : Sl} {v : Val} {vs : List Val} {M M1 M2 : Mm} (hg : g v s0 M = some (s1, M1)) (ht : t s1 M1 = .ok false M2) :
    compL g t e s0 (v :: vs) M = compL g t e s0 vs M2 := by
  show (match g v s0 M with
    | some (s1, M1) => (t s1 M1).noer.bind fun b M2 => if b = true then (e s1 M2).noer.bind fun y M3 => (compL g t e s0 vs M3).bind fun r M4 => .ok (y :: r) M4 else compL g t e s0 vs M2
    | none => .bad) = _
  rw [hg]
  show ((t s1 M1).noer.bind fun b M2 => if b = true then (e s1 M2).noer.bind fun y M3 => (compL g t e s0 vs M3).bind fun r M4 => .ok (y :: r) M4 else compL g t e s0 vs M2) = _
  rw [ht, z_noer, z_bok, if_neg (by decide)]
theorem compL_nil {g : GM} {t : TM} {e : EM} {s0 : Sl} {M : Mm} : compL g t e s0 [] M = .ok [] M := rfl
end Zm
namespace Zm
open PySem PySem.Spec PyProof.Rows L2
theorem z_sortX {M : Mm} {v : Val} {ds es : List PyData} (h : listD v M = some ds) (e : sortD ds = some es) : vSortX [v] M = .ok (.d (.list es)) M := by
  show (match listD v M with
    | some ds => match sortD ds with
      | some es => Out.ok (Val.d (.list es)) M
      | none => match headW ds with
        | some z => match allT z ds with
          | some ps => .ok (.d (.list ((sortP ps).map (triD z)))) M
          | none => .bad
        | none => .bad
    | none => .bad) = _
  rw [h]
  show (match sortD ds with
      | some es => Out.ok (Val.d (.list es)) M
      | none => match headW ds with
        | some z => match allT z ds with
          | some ps => .ok (.d (.list ((sortP ps).map (triD z)))) M
          | none => .bad
        | none => .bad) = _
  rw [e]
theorem z_sortT {M : Mm} {v : Val} {z : Str} {ps : List (Int × Int)} (h : listD v M = some (ps.map (triD z))) : vSortX [v] M = .ok (.d (.list ((sortP ps).map (triD z)))) M := by
  cases ps with
  | nil =>
    have e : sortD (([] : List (Int × Int)).map (triD z)) = some [] := by simp [sortD, allI, sortI]
    rw [z_sortX h e]
    simp [sortP]
  | cons p ps =>
    have e : sortD ((p :: ps).map (triD z)) = none := by
      unfold sortD
      have a : allI ((p :: ps).map (triD z)) = none := rfl
      have b : allP ((p :: ps).map (triD z)) = none := by
        show (match toP (triD z p), allP (ps.map (triD z)) with
          | some p, some ps => some (p :: ps)
          | _, _ => none) = none
        rfl
      rw [a, b]
    have e2 : headW ((p :: ps).map (triD z)) = some z := rfl
    show (match listD v M with
    | some ds => match sortD ds with
      | some es => Out.ok (Val.d (.list es)) M
      | none => match headW ds with
        | some z => match allT z ds with
          | some ps => .ok (.d (.list ((sortP ps).map (triD z)))) M
          | none => .bad
        | none => .bad
    | none => .bad) = _
    rw [h]
    show (match sortD ((p :: ps).map (triD z)) with
      | some es => Out.ok (Val.d (.list es)) M
      | none => match headW ((p :: ps).map (triD z)) with
        | some z => match allT z ((p :: ps).map (triD z)) with
          | some ps => .ok (.d (.list ((sortP ps).map (triD z)))) M
          | none => .bad
        | none => .bad) = _
    rw [e]
    show (match headW ((p :: ps).map (triD z)) with
        | some z' => match allT z' ((p :: ps).map (triD z)) with
          | some ps => Out.ok (Val.d (.list ((sortP ps).map (triD z')))) M
          | none => .bad
        | none => .bad) = _
    rw [e2]
    show (match allT z ((p :: ps).map (triD z)) with
          | some ps => Out.ok (Val.d (.list ((sortP ps).map (triD z)))) M
          | none => .bad) = _
    rw [allT_map]
theorem z_star {a : EM} {r : AM} {s : Sl} {M : Mm} : mStar a r s M = (a s M).bind fun v M1 => match seqD v M1 with
  | some ds => (r s M1).bind fun ys M2 => .ok (ds.map .d ++ ys) M2
  | none => .bad := rfl
theorem z_lr2 {a b : EM} {s : Sl} {M : Mm} : mLR2 a b s M = (a s M).bind fun v M1 => (b s M1).bind fun w M2 => match v, w with
  | .d (.int i), .d (.int j) => if decide (-1000 ≤ i) && decide (i ≤ 1000000) && decide (-1000 ≤ j) && decide (j ≤ 1000000) then .ok (.d (.list (ranD i j))) M2 else .bad
  | _, _ => .bad := rfl
end Zm
namespace Zm
open PySem PySem.Spec PyProof.Rows L2
theorem z_multn {M : Mm} {ds : List PyData} {k : Int} (h1 : -1000 ≤ k) (h2 : k ≤ 1000) (hl : ds.length ≤ 1000) : vMulX (.d (.tuple ds)) (.d (.int k)) M = .ok (.d (.tuple (List.replicate k.toNat ds).flatten)) M := by
  rw [z_mult]
  cases ds with
  | nil =>
    rw [if_pos (show (([] : List PyData).isEmpty || decide (k = 1)) = true from rfl), if_pos (by omega)]
    have : ∀ n : Nat, (List.replicate n ([] : List PyData)).flatten = [] := fun n => by induction n with
      | zero => rfl
      | succ n ih => rw [List.replicate_succ, List.flatten_cons, ih]; rfl
    rw [this]
  | cons a ds =>
    by_cases h : k = 1
    · subst h
      rw [if_pos (show ((a :: ds).isEmpty || decide ((1 : Int) = 1)) = true from rfl), if_pos (by decide)]
      show _ = Out.ok (Val.d (.tuple (List.replicate 1 (a :: ds)).flatten)) M
      simp
    · have e : ((a :: ds).isEmpty || decide (k = 1)) = false := by rw [decide_eq_false h]; rfl
      rw [e, if_neg (by decide)]
      by_cases g : 2 ≤ k
      · rw [if_pos ⟨g, h2, hl⟩]
      · rw [if_neg (by omega), if_pos ⟨by omega, h1⟩]
        rw [show k.toNat = 0 by omega]
        rfl
end Zm
namespace Zm
open PySem PySem.Spec PyProof.Rows L2
section
variable {q : Dk} {rest r : Mm} {us : List Val} {w : Val} {M : Mm} {s : Sl} {x : PyData} {ds es : List PyData} {i : Nat}
theorem compL_map {α : Type} {g : GM} {t : TM} {e : EM} {s0 : Sl} (D : α → PyData) (p : α → Bool) (f : α → PyData) : ∀ (xs : List α), (∀ a ∈ xs, ∃ s1, g (.d (D a)) s0 M = some (s1, M) ∧ t s1 M = .ok (p a) M ∧ (p a = true → e s1 M = .ok (.d (f a)) M)) →
    compL g t e s0 ((xs.map D).map .d) M = .ok (((xs.filter p).map f).map .d) M
  | [], _ => rfl
  | a :: xs, h => by
    obtain ⟨s1, hg, ht, he⟩ := h a (List.mem_cons_self ..)
    have ih := compL_map D p f xs fun b hb => h b (List.mem_cons_of_mem _ hb)
    rw [List.map_cons, List.map_cons]
    cases hp : p a with
    | false =>
      rw [hp] at ht
      rw [compL_consF hg ht, ih, List.filter_cons_of_neg (by rw [hp]; decide)]
    | true =>
      rw [compL_consT hg (hp ▸ ht) (he hp), ih, List.filter_cons_of_pos hp]
      rfl
/-! ### the newest place -/
theorem l_get {o : MO} : (M ++ [o])[M.length]? = some o := by simp
theorem l_rd : rd (.obj M.length) (M ++ [.lst us]) = .obj M.length := by
  show (match (M ++ [MO.lst us])[M.length]? with
    | some (.frz x) => Val.d x
    | _ => .obj M.length) = _
  rw [l_get]
theorem l_ty : tyOk "list" (.obj M.length) (M ++ [.lst us]) = true := by
  show (match (M ++ [MO.lst us])[M.length]? with
    | some (.lst _) => "list" == "list"
    | some (.dct _) => "list" == "dict"
    | _ => false) = _
  rw [l_get]
  rfl
theorem l_set {o o' : MO} : (M ++ [o]).set M.length o' = M ++ [o'] := by
  rw [List.set_append_right _ _ (Nat.le_refl _), Nat.sub_self]
  rfl
theorem l_app (h : us.length < 16777216) : vAppend (.obj M.length) [w] (M ++ [.lst us]) = .ok (.d .none) (M ++ [.lst (us ++ [w])]) := by
  show (match (M ++ [MO.lst us])[M.length]? with
    | some (.lst us') => if us'.length < 16777216 then Out.ok (Val.d .none) ((M ++ [MO.lst us]).set M.length (.lst (us' ++ [w]))) else .bad
    | _ => .bad) = _
  rw [l_get]
  show (if us.length < 16777216 then Out.ok (Val.d .none) ((M ++ [MO.lst us]).set M.length (.lst (us ++ [w]))) else .bad) = _
  rw [if_pos h, l_set]
theorem l_list : listD (.obj M.length) (M ++ [.lst (ds.map .d)]) = some ds := by
  unfold listD
  exact seqD_obj l_get
theorem dk_below1 {n : Nat} (h : 0 < n) : (q.mem [.lst (ds.map Val.d)]).all (MO.below n) = true := by
  have h2 : ((ds.map Val.d).all (Val.below n)) = true := List.all_eq_true.mpr fun v hv => by
    obtain ⟨i, _, rfl⟩ := List.mem_map.mp hv
    rfl
  have e : (q.mem [MO.lst (ds.map Val.d)]) = q.mem [] ++ [MO.lst (ds.map Val.d)] := rfl
  rw [e, List.all_append, dk_below h]
  show (true && ((ds.map Val.d).all (Val.below n) && true)) = true
  rw [h2]
  rfl
theorem z_ext : vExtend (.obj (i + 2)) [.d (.list ds)] (q.mem rest) = match rest[i]? with
    | some (.lst us) => if us.length + ds.length ≤ 16777216 then .ok (.d .none) (q.mem (rest.set i (.lst (us ++ ds.map .d)))) else .bad
    | _ => .bad := by
  show (match rest[i]?, trackD (.d (.list ds)) (q.mem rest) with
    | some (.lst us), some ds => if us.length + ds.length ≤ 16777216 then Out.ok (Val.d .none) ((q.mem rest).set (i + 2) (.lst (us ++ ds.map Val.d))) else .bad
    | _, _ => .bad) = _
  cases rest[i]? with
  | none => rfl
  | some o => cases o <;> rfl
theorem lay_ints' (ns : List Int) : PyData.canLayAll0 (ns.map .int) = true := lay_ints ns
def inI (ns : List Int) (g : Int) : Bool := ns.any fun z => z == g
theorem inI_iff {ns : List Int} {g : Int} : inI ns g = true ↔ g ∈ ns := by
  unfold inI
  rw [List.any_eq_true]
  constructor
  · rintro ⟨z, hz, e⟩
    have : z = g := by simpa using e
    exact this ▸ hz
  · exact fun h => ⟨g, h, by simp⟩
theorem z_inti {ns : List Int} {g : Int} {v : Val} (h : seqD v M = some (ns.map .int)) : vIn false (.d (.int g)) v M = .ok (.d (.bool (inI ns g))) M := by
  rw [z_inp (d := .int g) (ds := ns.map .int) rfl h rfl (lay_ints ns), Bool.false_xor]
  have e : ((ns.map PyData.int).any fun z => PyData.eqv z (.int g)) = inI ns g := by
    unfold inI
    rw [List.any_map]
    rfl
  rw [e]
end
end Zm
/-! The pure layer: what a denotation comes to, as a plain function of typed data. -/
namespace Zm
open PySem PySem.Spec PyProof.Rows L2
/-! ### monads: plain, raising, drawing -/
inductive Res (α : Type) where
  | ok (a : α)
  | er (e : Exc)
class WM (μ : Type → Type) where
  pu : {α : Type} → α → μ α
  bd : {α β : Type} → μ α → (α → μ β) → μ β
  run : {α : Type} → μ α → (Res α → Prop) → Prop
  run_pu : ∀ {α : Type} {a : α} {Q : Res α → Prop}, run (pu a) Q → Q (.ok a)
  run_bd : ∀ {α β : Type} {x : μ α} {f : α → μ β} {Q : Res β → Prop}, run (bd x f) Q → run x fun r => match r with
    | .ok a => run (f a) Q
    | .er e => Q (.er e)
  pu_bd : ∀ {α β : Type} {a : α} {f : α → μ β}, bd (pu a) f = f a
  bd_as : ∀ {α β γ : Type} {x : μ α} {f : α → μ β} {g : β → μ γ}, bd (bd x f) g = bd x fun a => bd (f a) g
open WM (pu bd)
instance : WM Option where
  pu := some
  bd := Option.bind
  run o Q := ∃ a, o = some a ∧ Q (.ok a)
  run_pu := fun ⟨_, h, q⟩ => by cases h; exact q
  run_bd := fun {_ _ x f Q} ⟨b, h, q⟩ => by
    cases x with
    | none => cases h
    | some a => exact ⟨a, rfl, b, h, q⟩
  pu_bd := rfl
  bd_as := fun {_ _ _ x _ _} => by cases x <;> rfl
/-- plain, or it raises -/
def OE (α : Type) : Type := Option (Res α)
instance : WM OE where
  pu a := some (.ok a)
  bd x f := match x with
    | some (.ok a) => f a
    | some (.er e) => some (.er e)
    | none => none
  run o Q := ∃ r, o = some r ∧ Q r
  run_pu := fun ⟨_, h, q⟩ => by cases h; exact q
  run_bd := fun {_ _ x f Q} ⟨b, h, q⟩ => by
    cases x with
    | none => cases h
    | some r =>
      cases r with
      | ok a => exact ⟨.ok a, rfl, b, h, q⟩
      | er e => cases h; exact ⟨.er e, rfl, q⟩
  pu_bd := rfl
  bd_as := fun {_ _ _ x _ _} => by
    cases x with
    | none => rfl
    | some r => cases r <;> rfl
/-- whatever is drawn -/
def Dm (α : Type) : Type := (α → Prop) → Prop
instance : WM Dm where
  pu a := fun Q => Q a
  bd x f := fun Q => x fun a => f a Q
  run x Q := x fun a => Q (.ok a)
  run_pu := id
  run_bd := id
  pu_bd := rfl
  bd_as := rfl
/-- whatever is drawn, or it raises -/
def DE (α : Type) : Type := (Res α → Prop) → Prop
instance : WM DE where
  pu a := fun Q => Q (.ok a)
  bd x f := fun Q => x fun r => match r with
    | .ok a => f a Q
    | .er e => Q (.er e)
  run x Q := x Q
  run_pu := id
  run_bd := id
  pu_bd := rfl
  bd_as := fun {_ _ _ x f g} => by
    funext Q
    show x _ = x _
    congr 1
/-- from a plain function -/
class LO (μ : Type → Type) extends WM μ where
  lf : {α : Type} → Option α → μ α
  run_lf : ∀ {α : Type} {x : Option α} {Q : Res α → Prop}, run (lf x) Q → ∃ a, x = some a ∧ Q (.ok a)
  lf_some : ∀ {α : Type} {a : α}, lf (some a) = pu a
open LO (lf)
instance : LO Option where
  lf x := x
  run_lf := id
  lf_some := rfl
instance : LO OE where
  lf x := x.map .ok
  run_lf := fun {_ x _} ⟨b, h, q⟩ => by
    cases x with
    | none => cases h
    | some a => cases h; exact ⟨a, rfl, q⟩
  lf_some := rfl
instance : LO Dm where
  lf x := fun Q => ∃ a, x = some a ∧ Q a
  run_lf := id
  lf_some := fun {_ a} => by
    funext Q
    exact propext ⟨fun ⟨b, h, q⟩ => by cases h; exact q, fun q => ⟨a, rfl, q⟩⟩
instance : LO DE where
  lf x := fun Q => ∃ a, x = some a ∧ Q (.ok a)
  run_lf := id
  lf_some := fun {_ a} => by
    funext Q
    exact propext ⟨fun ⟨b, h, q⟩ => by cases h; exact q, fun q => ⟨a, rfl, q⟩⟩
/-- no errors are told of -/
class NE (μ : Type → Type) [WM μ] : Prop where
  ne : ∀ {α : Type} {x : μ α} {Q : Res α → Prop}, WM.run x Q → WM.run x fun r => match r with
    | .ok a => Q (.ok a)
    | .er _ => False
instance : NE Option where
  ne := id
instance : NE Dm where
  ne := id
/-! ### what is known of the slots -/
inductive Sp where
  /-- nothing -/
  | n
  /-- a datum -/
  | v (x : PyData)
  /-- a place whose thing is fixed -/
  | f (x : PyData)
  /-- that place -/
  | o (j : Nat)
  /-- a list, a dict of one's own -/
  | l (xs : List PyData)
  | k (kvs : List (PyData × PyData))
  | s (ns : List Int)
abbrev Cs := List Sp
abbrev Ps := List (Sp × Option Val)
def SpOk (M : Mm) : Sp → Option Val → Prop
  | .n, _ => True
  | .v x, w => w = some (.d x)
  | .f x, w => ∃ j, w = some (.obj j) ∧ M[j]? = some (.frz x)
  | .o j, w => w = some (.obj j)
  | .l xs, w => ∃ j, w = some (.obj j) ∧ M[j]? = some (.lst (xs.map .d))
  | .k kvs, w => ∃ j, w = some (.obj j) ∧ M[j]? = some (.dct (kvs.map fun p => (p.1, .d p.2)))
  | .s ns, w => w = some (.scr ns)
def Sp.own : Sp → Bool
  | .l _ => true
  | .k _ => true
  | _ => false
structure Sat (L : Ps) (B : Mm) (M : Mm) : Prop where
  ok : ∀ p ∈ L, SpOk M p.1 p.2
  nd : ∀ (i i' : Nat) (p q : Sp × Option Val) (j : Nat), i ≠ i' → L[i]? = some p → L[i']? = some q → p.1.own = true → q.1.own = true → p.2 = some (.obj j) → q.2 = some (.obj j) → False
  lo : ∀ p ∈ L, ∀ j, p.1.own = true → p.2 = some (.obj j) → B.length ≤ j
  pre : ∃ R, M = B ++ R
  cl : M.all (MO.below M.length) = true
abbrev Ps.sl (L : Ps) : Sl := L.map (·.2)
abbrev Ps.cs (L : Ps) : Cs := L.map (·.1)
theorem Ps.get {L : Ps} {i : Nat} {sp : Sp} (h : L.cs[i]? = some sp) : ∃ w, L[i]? = some (sp, w) ∧ L.sl[i]? = some w := by
  rw [List.getElem?_map] at h
  cases q : L[i]? with
  | none => rw [q] at h; cases h
  | some p =>
    rw [q] at h
    cases h
    exact ⟨p.2, rfl, by rw [List.getElem?_map, q]; rfl⟩
theorem sp_ok_obj {M : Mm} {sp : Sp} {w : Option Val} (h : SpOk M sp w) (o : sp.own = true) : ∃ j, w = some (.obj j) ∧ ∃ u, M[j]? = some u ∧ ∀ x, u ≠ .frz x := by
  cases sp with
  | l xs => obtain ⟨j, a, b⟩ := h; exact ⟨j, a, _, b, fun x e => by cases e⟩
  | k kvs => obtain ⟨j, a, b⟩ := h; exact ⟨j, a, _, b, fun x e => by cases e⟩
  | _ => cases o
section
variable {L P : Ps} {B M M' : Mm} {sp : Sp} {w : Option Val}
/-- fewer things are known -/
theorem Sat.sub {L' : Ps} (S : Sat L B M) (h1 : ∀ p ∈ L', p ∈ L ∨ p.1 = .n) (h2 : ∀ (i i' : Nat) (p q : Sp × Option Val) (j : Nat), i ≠ i' → L'[i]? = some p → L'[i']? = some q → p.1.own = true → q.1.own = true → p.2 = some (.obj j) → q.2 = some (.obj j) → False) : Sat L' B M where
  ok p hp := (h1 p hp).elim (S.ok p) fun e => by rw [e]; trivial
  nd := h2
  lo p hp j o e := (h1 p hp).elim (fun h => S.lo p h j o e) fun z => by rw [z] at o; cases o
  pre := S.pre
  cl := S.cl
theorem Sat.left (S : Sat (L ++ P) B M) : Sat L B M :=
  S.sub (fun p h => .inl (List.mem_append_left _ h)) fun i i' p q j hi h1 h2 => S.nd i i' p q j hi (by rw [List.getElem?_append_left (List.getElem?_eq_some_iff.mp h1).1]; exact h1) (by rw [List.getElem?_append_left (List.getElem?_eq_some_iff.mp h2).1]; exact h2)
/-- the things at places: nothing that is known of has changed -/
theorem SpOk.keep {M M' : Mm} {sp : Sp} {w : Option Val} (h : ∀ j, j < M.length → M'[j]? = M[j]?) (s : SpOk M sp w) : SpOk M' sp w := by
  have aux : ∀ {j : Nat} {u : MO}, M[j]? = some u → M'[j]? = some u := fun {j u} e => by rw [h j (List.getElem?_eq_some_iff.mp e).1]; exact e
  cases sp with
  | n => trivial
  | v x => exact s
  | f x => obtain ⟨j, a, b⟩ := s; exact ⟨j, a, aux b⟩
  | o j => exact s
  | l xs => obtain ⟨j, a, b⟩ := s; exact ⟨j, a, aux b⟩
  | k kvs => obtain ⟨j, a, b⟩ := s; exact ⟨j, a, aux b⟩
  | s ns => exact s
theorem below_mono {n m : Nat} (h : n ≤ m) : ∀ {o : MO}, MO.below n o = true → MO.below m o = true := by
  have v : ∀ {v : Val}, Val.below n v = true → Val.below m v = true := fun {v} e => by
    cases v with
    | obj i => exact decide_eq_true (Nat.lt_of_lt_of_le (of_decide_eq_true e) h)
    | d _ => rfl
    | scr _ => rfl
  intro o e
  cases o with
  | frz x => rfl
  | lst vs => exact List.all_eq_true.mpr fun x hx => v (List.all_eq_true.mp e x hx)
  | dct kvs => exact List.all_eq_true.mpr fun x hx => v (List.all_eq_true.mp e x hx)
  | ins C fs => exact List.all_eq_true.mpr fun x hx => v (List.all_eq_true.mp e x hx)
theorem cl_push {o : MO} (h : M.all (MO.below M.length) = true) (ho : MO.below (M.length + 1) o = true) : (M ++ [o]).all (MO.below (M ++ [o]).length) = true := by
  rw [List.length_append, List.length_singleton, List.all_append, Bool.and_eq_true]
  refine ⟨List.all_eq_true.mpr fun x hx => below_mono (by omega) (List.all_eq_true.mp h x hx), ?_⟩
  rw [List.all_cons, ho]
  rfl
theorem cl_set {o : MO} {j : Nat} (h : M.all (MO.below M.length) = true) (ho : MO.below M.length o = true) : (M.set j o).all (MO.below (M.set j o).length) = true := by
  rw [List.length_set]
  refine List.all_eq_true.mpr fun x hx => ?_
  rcases List.mem_or_eq_of_mem_set hx with hx | rfl
  · exact List.all_eq_true.mp h x hx
  · exact ho
theorem below_lst {xs : List PyData} {n : Nat} : MO.below n (.lst (xs.map .d)) = true := List.all_eq_true.mpr fun v hv => by
  obtain ⟨x, _, rfl⟩ := List.mem_map.mp hv
  rfl
theorem below_dct {kvs : List (PyData × PyData)} {n : Nat} : MO.below n (.dct (kvs.map fun p => (p.1, .d p.2))) = true := List.all_eq_true.mpr fun v hv => by
  obtain ⟨x, _, rfl⟩ := List.mem_map.mp hv
  rfl
/-- one more thing that is no place of one's own -/
theorem Sat.push (S : Sat L B M) (h : SpOk M sp w) (o : sp.own = false) : Sat (L ++ [(sp, w)]) B M := by
  have mem : ∀ p ∈ L ++ [(sp, w)], p ∈ L ∨ p = (sp, w) := fun p hp => by
    rcases List.mem_append.mp hp with hp | hp
    · exact .inl hp
    · exact .inr (by simpa using hp)
  have at_ : ∀ (i : Nat) p, (L ++ [(sp, w)])[i]? = some p → p.1.own = true → L[i]? = some p := fun i p e op => by
    by_cases hi : i < L.length
    · rw [List.getElem?_append_left hi] at e; exact e
    · rw [List.getElem?_append_right (by omega)] at e
      cases hz : i - L.length with
      | zero => rw [hz] at e; cases e; rw [o] at op; cases op
      | succ m => rw [hz] at e; simp at e
  refine ⟨fun p hp => (mem p hp).elim (S.ok p) (fun e => by rw [e]; exact h), fun i i' p q j hi h1 h2 o1 o2 => S.nd i i' p q j hi (at_ i p h1 o1) (at_ i' q h2 o2) o1 o2, fun p hp j op e => (mem p hp).elim (fun hp => S.lo p hp j op e) fun z => ?_, S.pre, S.cl⟩
  rw [z] at op
  exact absurd op (by rw [o]; decide)
theorem Sat.len (S : Sat L B M) : B.length ≤ M.length := by
  obtain ⟨R, rfl⟩ := S.pre
  rw [List.length_append]; omega
/-- a new place of one's own -/
theorem Sat.grow (S : Sat L B M) {u : MO} (hu : MO.below M.length u = true) (h : SpOk (M ++ [u]) sp (some (.obj M.length))) : Sat (L ++ [(sp, some (.obj M.length))]) B (M ++ [u]) := by
  have kp : ∀ j, j < M.length → (M ++ [u])[j]? = M[j]? := fun j hj => List.getElem?_append_left hj
  have old : ∀ p ∈ L, ∀ j, p.1.own = true → p.2 = some (.obj j) → j < M.length := fun p hp j o e => by
    obtain ⟨j', e', u, hu, _⟩ := sp_ok_obj (S.ok p hp) o
    rw [e] at e'
    cases e'
    exact (List.getElem?_eq_some_iff.mp hu).1
  have at_ : ∀ (i : Nat) p, (L ++ [(sp, some (.obj M.length))])[i]? = some p → (i < L.length ∧ L[i]? = some p) ∨ (i = L.length ∧ p = (sp, some (.obj M.length))) := fun i p e => by
    by_cases hi : i < L.length
    · rw [List.getElem?_append_left hi] at e; exact .inl ⟨hi, e⟩
    · rw [List.getElem?_append_right (by omega)] at e
      cases hz : i - L.length with
      | zero => rw [hz] at e; cases e; exact .inr ⟨by omega, rfl⟩
      | succ m => rw [hz] at e; simp at e
  refine ⟨fun p hp => ?_, fun i i' p q j hi h1 h2 o1 o2 e1 e2 => ?_, fun p hp j o e => ?_, ?_, cl_push S.cl (below_mono (by omega) hu)⟩
  · rcases List.mem_append.mp hp with hp | hp
    · exact SpOk.keep kp (S.ok p hp)
    · have : p = (sp, some (.obj M.length)) := by simpa using hp
      rw [this]; exact h
  · rcases at_ i p h1 with ⟨a1, b1⟩ | ⟨a1, rfl⟩
    · rcases at_ i' q h2 with ⟨a2, b2⟩ | ⟨a2, rfl⟩
      · exact S.nd i i' p q j hi b1 b2 o1 o2 e1 e2
      · cases e2
        exact absurd (old p (List.mem_of_getElem? b1) _ o1 e1) (Nat.lt_irrefl _)
    · rcases at_ i' q h2 with ⟨a2, b2⟩ | ⟨a2, rfl⟩
      · cases e1
        exact absurd (old q (List.mem_of_getElem? b2) _ o2 e2) (Nat.lt_irrefl _)
      · omega
  · rcases List.mem_append.mp hp with hp | hp
    · exact S.lo p hp j o e
    · have : p = (sp, some (.obj M.length)) := by simpa using hp
      rw [this] at e
      cases e
      exact S.len
  · obtain ⟨R, rfl⟩ := S.pre
    exact ⟨R ++ [u], List.append_assoc ..⟩
/-- the thing at a place of one's own is changed -/
theorem Sat.write (S : Sat L B M) {i j : Nat} {sp' : Sp} {u : MO} (hi : L[i]? = some (sp, some (.obj j))) (o : sp.own = true) (hu : MO.below M.length u = true) (h : SpOk (M.set j u) sp' (some (.obj j))) : Sat (L.set i (sp', some (.obj j))) B (M.set j u) := by
  have mi := List.mem_of_getElem? hi
  obtain ⟨j', e', u0, hu0, hfz⟩ := sp_ok_obj (S.ok _ mi) o
  cases e'
  have hl := (List.getElem?_eq_some_iff.mp hi).1
  have at_ : ∀ (i' : Nat) p, (L.set i (sp', some (.obj j)))[i']? = some p → (i' ≠ i ∧ L[i']? = some p) ∨ (i' = i ∧ p = (sp', some (.obj j))) := fun i' p e => by
    by_cases z : i = i'
    · subst z
      rw [List.getElem?_set_self hl] at e
      cases e
      exact .inr ⟨rfl, rfl⟩
    · rw [List.getElem?_set_ne z] at e
      exact .inl ⟨fun y => z y.symm, e⟩
  have keep : ∀ (i' : Nat) p, i' ≠ i → L[i']? = some p → SpOk (M.set j u) p.1 p.2 := fun i' p ne e => by
    have s := S.ok p (List.mem_of_getElem? e)
    have ne2 : p.1.own = true → p.2 ≠ some (.obj j) := fun op ep => S.nd i' i p _ j ne e hi op o ep rfl
    have aux : ∀ {b : Nat} {v : MO}, M[b]? = some v → b ≠ j → (M.set j u)[b]? = some v := fun {b v} e nb => by rw [List.getElem?_set_ne (fun z => nb z.symm)]; exact e
    obtain ⟨sq, wq⟩ := p
    cases sq with
    | n => trivial
    | v x => exact s
    | f x =>
      obtain ⟨b, a1, a2⟩ := s
      exact ⟨b, a1, aux a2 fun z => by subst z; rw [hu0] at a2; cases a2; exact hfz x rfl⟩
    | o _ => exact s
    | l xs => obtain ⟨b, a1, a2⟩ := s; exact ⟨b, a1, aux a2 fun z => ne2 rfl (by rw [← z]; exact a1)⟩
    | k kvs => obtain ⟨b, a1, a2⟩ := s; exact ⟨b, a1, aux a2 fun z => ne2 rfl (by rw [← z]; exact a1)⟩
    | s _ => exact s
  refine ⟨fun p hp => ?_, fun a b p q c hab h1 h2 o1 o2 e1 e2 => ?_, fun p hp c op e => ?_, ?_, cl_set S.cl hu⟩
  · obtain ⟨a, ha⟩ := List.getElem?_of_mem hp
    rcases at_ a p ha with ⟨b1, b2⟩ | ⟨b1, rfl⟩
    · exact keep a p b1 b2
    · exact h
  · rcases at_ a p h1 with ⟨a1, b1⟩ | ⟨a1, rfl⟩
    · rcases at_ b q h2 with ⟨a2, b2⟩ | ⟨a2, rfl⟩
      · exact S.nd a b p q c hab b1 b2 o1 o2 e1 e2
      · cases e2
        exact S.nd a i p _ _ a1 b1 hi o1 o e1 rfl
    · rcases at_ b q h2 with ⟨a2, b2⟩ | ⟨a2, rfl⟩
      · cases e1
        exact S.nd b i q _ _ a2 b2 hi o2 o e2 rfl
      · omega
  · obtain ⟨a, ha⟩ := List.getElem?_of_mem hp
    rcases at_ a p ha with ⟨b1, b2⟩ | ⟨b1, rfl⟩
    · exact S.lo p (List.mem_of_getElem? b2) c op e
    · cases e
      exact S.lo _ mi _ o rfl
  · obtain ⟨R, rfl⟩ := S.pre
    have hj : B.length ≤ j := S.lo _ mi _ o rfl
    exact ⟨R.set (j - B.length) u, by rw [List.set_append_right _ _ hj]⟩
/-- a slot is written with what is at hand -/
theorem Sat.set (S : Sat (L ++ (sp, w) :: P) B M) (i : Nat) : Sat (L.set i (sp, w) ++ P) B M := by
  by_cases hi : i < L.length
  · have at_ : ∀ (a : Nat) p, (L.set i (sp, w) ++ P)[a]? = some p → ∃ b, (L ++ (sp, w) :: P)[b]? = some p ∧ ((a = i ∧ b = L.length) ∨ (a ≠ i ∧ a < L.length ∧ b = a) ∨ (L.length ≤ a ∧ b = a + 1)) := fun a p e => by
      by_cases ha : a < L.length
      · rw [List.getElem?_append_left (by rw [List.length_set]; exact ha)] at e
        by_cases z : i = a
        · subst z
          rw [List.getElem?_set_self hi] at e
          cases e
          exact ⟨L.length, by simp, .inl ⟨rfl, rfl⟩⟩
        · rw [List.getElem?_set_ne z] at e
          exact ⟨a, by rw [List.getElem?_append_left ha]; exact e, .inr (.inl ⟨fun y => z y.symm, ha, rfl⟩)⟩
      · rw [List.getElem?_append_right (by rw [List.length_set]; omega), List.length_set] at e
        refine ⟨a + 1, ?_, .inr (.inr ⟨by omega, rfl⟩)⟩
        rw [List.getElem?_append_right (by omega), show a + 1 - L.length = (a - L.length) + 1 by omega]
        exact e
    refine S.sub (fun p hp => ?_) fun a a' p q j haa h1 h2 => ?_
    · obtain ⟨a, ha⟩ := List.getElem?_of_mem hp
      obtain ⟨b, hb, _⟩ := at_ a p ha
      exact .inl (List.mem_of_getElem? hb)
    · obtain ⟨b, hb, cb⟩ := at_ a p h1
      obtain ⟨b', hb', cb'⟩ := at_ a' q h2
      exact S.nd b b' p q j (by omega) hb hb'
  · rw [List.set_eq_of_length_le (by omega)]
    have at_ : ∀ (a : Nat) p, (L ++ P)[a]? = some p → ∃ b, (L ++ (sp, w) :: P)[b]? = some p ∧ ((a < L.length ∧ b = a) ∨ (L.length ≤ a ∧ b = a + 1)) := fun a p e => by
      by_cases ha : a < L.length
      · rw [List.getElem?_append_left ha] at e
        exact ⟨a, by rw [List.getElem?_append_left ha]; exact e, .inl ⟨ha, rfl⟩⟩
      · rw [List.getElem?_append_right (by omega)] at e
        refine ⟨a + 1, ?_, .inr ⟨by omega, rfl⟩⟩
        rw [List.getElem?_append_right (by omega), show a + 1 - L.length = (a - L.length) + 1 by omega]
        exact e
    refine S.sub (fun p hp => ?_) fun a a' p q j haa h1 h2 => ?_
    · obtain ⟨a, ha⟩ := List.getElem?_of_mem hp
      obtain ⟨b, hb, _⟩ := at_ a p ha
      exact .inl (List.mem_of_getElem? hb)
    · obtain ⟨b, hb, cb⟩ := at_ a p h1
      obtain ⟨b', hb', cb'⟩ := at_ a' q h2
      exact S.nd b b' p q j (by omega) hb hb'
/-- what is at hand is let go -/
theorem Sat.drop (S : Sat (L ++ (sp, w) :: P) B M) : Sat (L ++ P) B M := by
  have := S.set L.length
  rw [List.set_eq_of_length_le (Nat.le_refl _)] at this
  exact this
/-- .. of a slot -/
theorem Sat.forget (S : Sat L B M) (i : Nat) (w : Option Val) : Sat (L.set i (.n, w)) B M := by
  have S2 := S.push (sp := .n) (w := w) trivial rfl
  have := Sat.set (P := []) S2 i
  rwa [List.append_nil] at this
/-- what is drawn from has changed -/
theorem Sat.base {B' : Mm} {R : Mm} (S : Sat L B (B ++ R)) (hl : B'.length = B.length) (hf : ∀ (j : Nat) (x : PyData), B[j]? = some (MO.frz x) → B'[j]? = some (MO.frz x)) (hc : (B').all (MO.below B'.length) = true) : Sat L B' (B' ++ R) := by
  have hL : (B' ++ R).length = (B ++ R).length := by rw [List.length_append, List.length_append, hl]
  refine ⟨fun p hp => ?_, S.nd, fun p hp j o e => by rw [hl]; exact S.lo p hp j o e, ⟨R, rfl⟩, ?_⟩
  · have s := S.ok p hp
    have lo := S.lo p hp
    have up : ∀ {j : Nat} {u : MO}, B.length ≤ j → (B ++ R)[j]? = some u → (B' ++ R)[j]? = some u := fun {j u} h e => by
      rw [List.getElem?_append_right (by omega)] at e ⊢
      rw [hl]; exact e
    obtain ⟨sq, wq⟩ := p
    cases sq with
    | n => trivial
    | v x => exact s
    | f x =>
      obtain ⟨j, a1, a2⟩ := s
      refine ⟨j, a1, ?_⟩
      by_cases hj : j < B.length
      · rw [List.getElem?_append_left hj] at a2
        rw [List.getElem?_append_left (by omega)]
        exact hf j x a2
      · exact up (by omega) a2
    | o _ => exact s
    | l xs => obtain ⟨j, a1, a2⟩ := s; exact ⟨j, a1, up (lo j rfl a1) a2⟩
    | k kvs => obtain ⟨j, a1, a2⟩ := s; exact ⟨j, a1, up (lo j rfl a1) a2⟩
    | s _ => exact s
  · rw [hL]
    have c := S.cl
    rw [List.all_append, Bool.and_eq_true] at c ⊢
    exact ⟨List.all_eq_true.mpr fun x hx => below_mono (by rw [List.length_append]; omega) (List.all_eq_true.mp hc x hx), c.2⟩
end
end Zm
namespace Zm
open PySem PySem.Spec PyProof.Rows L2
open WM (pu bd)
open LO (lf)
/-! ### what is drawn from -/
structure Bas where
  T : Type
  mem : T → Mm
  n : Nat
  len : ∀ b, (mem b).length = n
  cl : ∀ b, (mem b).all (MO.below n) = true
  frz : ∀ b b' (j : Nat) (x : PyData), (mem b)[j]? = some (MO.frz x) → (mem b')[j]? = some (MO.frz x)
def Bas.cn (M : Mm) (h : M.all (MO.below M.length) = true) : Bas := ⟨Unit, fun _ => M, M.length, fun _ => rfl, fun _ => h, fun _ _ _ _ e => e⟩
theorem Sat.baseB {𝔅 : Bas} {L : Ps} {β β' : 𝔅.T} {R : Mm} (S : Sat L (𝔅.mem β) (𝔅.mem β ++ R)) : Sat L (𝔅.mem β') (𝔅.mem β' ++ R) :=
  S.base (by rw [𝔅.len, 𝔅.len]) (𝔅.frz β β') (by rw [𝔅.len]; exact 𝔅.cl β')
/-! ### outcomes -/
def WpE {α : Type} (o : Out α) (K : α → Mm → Prop) (E : Exc → Mm → Prop) : Prop := match o with
  | .ok w M => K w M
  | .er e M => E e M
  | .bad => False
theorem WpE.bind {α γ : Type} {o : Out α} {f : α → Mm → Out γ} {K : γ → Mm → Prop} {E : Exc → Mm → Prop} (h : WpE o (fun w M => WpE (f w M) K E) E) : WpE (o.bind f) K E := by
  cases o with
  | ok w M => exact h
  | er e M => exact h
  | bad => exact h
theorem WpE.mono {α : Type} {o : Out α} {K K' : α → Mm → Prop} {E E' : Exc → Mm → Prop} (h : WpE o K E) (k : ∀ w M, K w M → K' w M) (e : ∀ x M, E x M → E' x M) : WpE o K' E' := by
  cases o with
  | ok w M => exact k _ _ h
  | er x M => exact e _ _ h
  | bad => exact h
section
variable (𝔅 : Bas) {μ : Type → Type} [LO μ]
/-- where an error leaves things -/
def ErE (L P : Ps) (Q : Exc → Prop) (e : Exc) (M : Mm) : Prop := Q e ∧ ∃ β' : 𝔅.T, Sat (L ++ P) (𝔅.mem β') M
/-- an expression: its value is put behind what is at hand -/
structure JX {α : Type} (Γ : Cs) (m : EM) (f : μ α) (sp : α → Sp) : Prop where
  run : ∀ (Q : Res α → Prop) (L P : Ps) (β : 𝔅.T) (M : Mm), WM.run f Q → L.cs = Γ → Sat (L ++ P) (𝔅.mem β) M →
    WpE (m L.sl M) (fun w M' => ∃ (a : α) (β' : 𝔅.T), Q (.ok a) ∧ Sat (L ++ (P ++ [(sp a, some w)])) (𝔅.mem β') M') (ErE 𝔅 L P fun e => Q (.er e))
/-- .. that is read at once, or from its place later -/
def Rdy (L : Ps) (w : Val) (x : PyData) : Prop := w = .d x ∨ (∃ (i : Nat) (xs : List PyData), L[i]? = some (.l xs, some w) ∧ x = .list xs) ∨ ∃ (i : Nat) (kvs : List (PyData × PyData)), L[i]? = some (.k kvs, some w) ∧ x = .dict kvs
structure JO {α : Type} (Γ : Cs) (m : EM) (f : μ α) (x : α → PyData) : Prop where
  run : ∀ (Q : Res α → Prop) (L P : Ps) (β : 𝔅.T) (M : Mm), WM.run f Q → L.cs = Γ → Sat (L ++ P) (𝔅.mem β) M →
    WpE (m L.sl M) (fun w M' => ∃ (a : α) (β' : 𝔅.T), Q (.ok a) ∧ Sat (L ++ P) (𝔅.mem β') M' ∧ Rdy L w (x a)) (ErE 𝔅 L P fun e => Q (.er e))
/-- a test -/
structure JT (Γ : Cs) (m : TM) (f : μ Bool) : Prop where
  run : ∀ (Q : Res Bool → Prop) (L P : Ps) (β : 𝔅.T) (M : Mm), WM.run f Q → L.cs = Γ → Sat (L ++ P) (𝔅.mem β) M →
    WpE (m L.sl M) (fun w M' => ∃ (β' : 𝔅.T), Q (.ok w) ∧ Sat (L ++ P) (𝔅.mem β') M') (ErE 𝔅 L P fun e => Q (.er e))
/-- values, put behind what is at hand -/
def zs (sps : List Sp) (vs : List Val) : Ps := sps.zip (vs.map some)
structure JA {α : Type} (Γ : Cs) (m : AM) (f : μ α) (sps : α → List Sp) : Prop where
  run : ∀ (Q : Res α → Prop) (L P : Ps) (β : 𝔅.T) (M : Mm), WM.run f Q → L.cs = Γ → Sat (L ++ P) (𝔅.mem β) M →
    WpE (m L.sl M) (fun vs M' => ∃ (a : α) (β' : 𝔅.T), Q (.ok a) ∧ vs.length = (sps a).length ∧ Sat (L ++ (P ++ zs (sps a) vs)) (𝔅.mem β') M') (ErE 𝔅 L P fun e => Q (.er e))
end
section
variable {𝔅 : Bas} {μ : Type → Type} [LO μ] {α γ δ : Type} {Γ : Cs}
theorem JX.cv {m : EM} {f f' : μ α} {sp : α → Sp} (h : JX 𝔅 Γ m f sp) (e : f = f') : JX 𝔅 Γ m f' sp := e ▸ h
theorem JO.cv {m : EM} {f f' : μ α} {sp : α → PyData} (h : JO 𝔅 Γ m f sp) (e : f = f') : JO 𝔅 Γ m f' sp := e ▸ h
theorem JT.cv {m : TM} {f f' : μ Bool} (h : JT 𝔅 Γ m f) (e : f = f') : JT 𝔅 Γ m f' := e ▸ h
theorem JA.cv {m : AM} {f f' : μ α} {sp : α → List Sp} (h : JA 𝔅 Γ m f sp) (e : f = f') : JA 𝔅 Γ m f' sp := e ▸ h
/-- another reading of the same -/
theorem JX.map {m : EM} {f : μ α} {sp : α → Sp} {sp' : γ → Sp} (h : JX 𝔅 Γ m f sp) (g : α → γ) (e : ∀ a, sp a = sp' (g a)) : JX 𝔅 Γ m (bd f fun a => pu (g a)) sp' :=
  ⟨fun Q L P β M r hL S => (h.run _ L P β M (WM.run_bd r) hL S).mono (fun w M' ⟨a, β', q, S'⟩ => ⟨g a, β', WM.run_pu q, by rw [← e]; exact S'⟩) fun _ _ h => h⟩
theorem JX.mapV {m : EM} {f : μ α} {x : α → PyData} {y : γ → PyData} (h : JX 𝔅 Γ m f fun a => .v (x a)) (g : α → γ) (e : ∀ a, x a = y (g a)) : JX 𝔅 Γ m (bd f fun a => pu (g a)) fun c => .v (y c) := h.map g fun a => congrArg Sp.v (e a)
/-- .. that may fail -/
theorem JX.down {m : EM} {f : μ α} {x : α → PyData} {y : γ → PyData} (h : JX 𝔅 Γ m f fun a => .v (x a)) (g : α → Option γ) (e : ∀ a c, g a = some c → x a = y c) : JX 𝔅 Γ m (bd f fun a => lf (g a)) fun c => .v (y c) :=
  ⟨fun Q L P β M r hL S => (h.run _ L P β M (WM.run_bd r) hL S).mono (fun w M' ⟨a, β', q, S'⟩ => by
    obtain ⟨c, hc, q'⟩ := LO.run_lf q
    exact ⟨c, β', q', by rw [← e a c hc]; exact S'⟩) fun _ _ h => h⟩
theorem JX.ro {m : EM} {f : μ α} {x : α → PyData} (h : JX 𝔅 Γ m f fun a => .v (x a)) : JO 𝔅 Γ m f x :=
  ⟨fun Q L P β M r hL S => (h.run _ L P β M r hL S).mono (fun w M' ⟨a, β', q, S'⟩ => by
    have s : some w = some (Val.d (x a)) := S'.ok (.v (x a), some w) (by simp)
    cases s
    rw [← List.append_assoc] at S'
    exact ⟨a, β', q, S'.left, .inl rfl⟩) fun _ _ h => h⟩
theorem JO.map {m : EM} {f : μ α} {x : α → PyData} {y : γ → PyData} (h : JO 𝔅 Γ m f x) (g : α → γ) (e : ∀ a, x a = y (g a)) : JO 𝔅 Γ m (bd f fun a => pu (g a)) y :=
  ⟨fun Q L P β M r hL S => (h.run _ L P β M (WM.run_bd r) hL S).mono (fun w M' ⟨a, β', q, S', d⟩ => ⟨g a, β', WM.run_pu q, S', by rw [← e]; exact d⟩) fun _ _ h => h⟩
theorem JO.down {m : EM} {f : μ α} {x : α → PyData} {y : γ → PyData} (h : JO 𝔅 Γ m f x) (g : α → Option γ) (e : ∀ a c, g a = some c → x a = y c) : JO 𝔅 Γ m (bd f fun a => lf (g a)) y :=
  ⟨fun Q L P β M r hL S => (h.run _ L P β M (WM.run_bd r) hL S).mono (fun w M' ⟨a, β', q, S', d⟩ => by
    obtain ⟨c, hc, q'⟩ := LO.run_lf q
    exact ⟨c, β', q', S', by rw [← e a c hc]; exact d⟩) fun _ _ h => h⟩
/-! ### names, constants -/
theorem mVar_at {L : Ps} {i : Nat} {p : Sp × Option Val} {w : Val} {M : Mm} (h : L[i]? = some p) (e : p.2 = some w) : mVar i L.sl M = .ok (rd w M) M := by
  unfold mVar
  rw [List.getElem?_map, h]
  show (match some p.2 with | some (some v) => Out.ok (rd v M) M | _ => .bad) = _
  rw [e]
theorem left_ok {L P : Ps} {B M : Mm} {i : Nat} {sp : Sp} (S : Sat (L ++ P) B M) {Γ : Cs} (hL : L.cs = Γ) (h : Γ[i]? = some sp) : ∃ w, L[i]? = some (sp, w) ∧ SpOk M sp w := by
  rw [← hL] at h
  obtain ⟨w, h1, _⟩ := Ps.get h
  exact ⟨w, h1, S.ok _ (List.mem_append_left _ (List.mem_of_getElem? h1))⟩
theorem app1 {L P : Ps} {p : Sp × Option Val} {B M : Mm} (S : Sat (L ++ P ++ [p]) B M) : Sat (L ++ (P ++ [p])) B M := by rwa [List.append_assoc] at S
theorem jx_var {i : Nat} {y : PyData} (a : α) {x : α → PyData} (h : Γ[i]? = some (.v y)) (e : y = x a := by rfl) : JX (μ := μ) 𝔅 Γ (mVar i) (pu a) fun a => .v (x a) :=
  ⟨fun Q L P β M r hL S => by
    subst e
    obtain ⟨w, h1, h2⟩ := left_ok S hL h
    have h2 : w = some (.d (x a)) := h2
    rw [mVar_at h1 h2]
    exact ⟨a, β, WM.run_pu r, app1 (S.push rfl rfl)⟩⟩
theorem jx_fix {i : Nat} {y : PyData} (a : α) {x : α → PyData} (h : Γ[i]? = some (.f y)) (e : y = x a := by rfl) : JX (μ := μ) 𝔅 Γ (mVar i) (pu a) fun a => .v (x a) :=
  ⟨fun Q L P β M r hL S => by
    subst e
    obtain ⟨w, h1, j, h2, h3⟩ := left_ok S hL h
    rw [mVar_at h1 h2]
    refine ⟨a, β, WM.run_pu r, app1 (S.push ?_ rfl)⟩
    show some (match M[j]? with | some (.frz x) => Val.d x | _ => Val.obj j) = _
    rw [h3]⟩
theorem jx_obj {i j : Nat} (h : Γ[i]? = some (.o j)) (hj : ∀ (β : 𝔅.T), ∃ u, (𝔅.mem β)[j]? = some u ∧ ∀ x, u ≠ .frz x) : JX (μ := μ) 𝔅 Γ (mVar i) (pu ()) fun _ => .o j :=
  ⟨fun Q L P β M r hL S => by
    obtain ⟨w, h1, h2⟩ := left_ok S hL h
    have h2 : w = some (.obj j) := h2
    rw [mVar_at h1 h2]
    refine ⟨(), β, WM.run_pu r, app1 (S.push ?_ rfl)⟩
    obtain ⟨u, hu, hz⟩ := hj β
    obtain ⟨R, rfl⟩ := S.pre
    show some (match (𝔅.mem β ++ R)[j]? with | some (.frz x) => Val.d x | _ => Val.obj j) = _
    rw [List.getElem?_append_left (List.getElem?_eq_some_iff.mp hu).1, hu]
    cases u with
    | frz x => exact absurd rfl (hz x)
    | _ => rfl⟩
theorem jo_list {i : Nat} {ys : List PyData} (a : α) {x : α → PyData} (h : Γ[i]? = some (.l ys)) (e : .list ys = x a := by rfl) : JO (μ := μ) 𝔅 Γ (mVar i) (pu a) x :=
  ⟨fun Q L P β M r hL S => by
    obtain ⟨w, h1, j, h2, h3⟩ := left_ok S hL h
    rw [mVar_at h1 h2]
    refine ⟨a, β, WM.run_pu r, S, .inr (.inl ⟨i, ys, ?_, e.symm⟩)⟩
    have hr : rd (.obj j) M = .obj j := by
      show (match M[j]? with | some (.frz x) => Val.d x | _ => Val.obj j) = _
      rw [h3]
    rw [hr, h1, h2]⟩
theorem jo_dict {i : Nat} {ys : List (PyData × PyData)} (a : α) {x : α → PyData} (h : Γ[i]? = some (.k ys)) (e : .dict ys = x a := by rfl) : JO (μ := μ) 𝔅 Γ (mVar i) (pu a) x :=
  ⟨fun Q L P β M r hL S => by
    obtain ⟨w, h1, j, h2, h3⟩ := left_ok S hL h
    rw [mVar_at h1 h2]
    refine ⟨a, β, WM.run_pu r, S, .inr (.inr ⟨i, ys, ?_, e.symm⟩)⟩
    have hr : rd (.obj j) M = .obj j := by
      show (match M[j]? with | some (.frz x) => Val.d x | _ => Val.obj j) = _
      rw [h3]
    rw [hr, h1, h2]⟩
theorem jx_c (a : α) {x : α → PyData} {y : PyData} (e : y = x a := by rfl) : JX (μ := μ) 𝔅 Γ (mC y) (pu a) fun a => .v (x a) :=
  ⟨fun Q L P β M r hL S => by
    subst e
    exact ⟨a, β, WM.run_pu r, app1 (S.push rfl rfl)⟩⟩
/-! ### what is read -/
def RdAs (w : Val) (M : Mm) (x : PyData) : Prop := w = .d x ∨ (∃ j xs, w = .obj j ∧ M[j]? = some (.lst (xs.map .d)) ∧ x = .list xs) ∨ ∃ j kvs, w = .obj j ∧ M[j]? = some (.dct (kvs.map fun p => (p.1, .d p.2))) ∧ x = .dict kvs
theorem Rdy.at_ {L P : Ps} {B M : Mm} {w : Val} {x : PyData} (r : Rdy L w x) (S : Sat (L ++ P) B M) : RdAs w M x := by
  rcases r with rfl | ⟨i, xs, h, rfl⟩ | ⟨i, kvs, h, rfl⟩
  · exact .inl rfl
  · obtain ⟨j, e1, e2⟩ := S.ok _ (List.mem_append_left _ (List.mem_of_getElem? h))
    cases e1
    exact .inr (.inl ⟨j, xs, rfl, e2, rfl⟩)
  · obtain ⟨j, e1, e2⟩ := S.ok _ (List.mem_append_left _ (List.mem_of_getElem? h))
    cases e1
    exact .inr (.inr ⟨j, kvs, rfl, e2, rfl⟩)
/-- an operation on what is read -/
def Op2 (f : Val → Val → Mm → Out Val) (x y z : PyData) : Prop := ∀ v w M, RdAs v M x → RdAs w M y → f v w M = .ok (.d z) M
theorem jx_opM {a b : EM} {fa : μ α} {fb : μ γ} {xa : α → PyData} {xb : γ → PyData} {xc : δ → PyData} {f : Val → Val → Mm → Out Val} (h : α → γ → Option δ) (ha : JO 𝔅 Γ a fa xa) (hb : JO 𝔅 Γ b fb xb) (op : ∀ p q r, h p q = some r → Op2 f (xa p) (xb q) (xc r)) :
    JX 𝔅 Γ (mOp f a b) (bd fa fun p => bd fb fun q => lf (h p q)) fun r => .v (xc r) :=
  ⟨fun Q L P β M r hL S => WpE.bind ((ha.run _ L P β M (WM.run_bd r) hL S).mono (fun v M1 ⟨p, β1, q1, S1, d1⟩ => WpE.bind ((hb.run _ L P β1 M1 (WM.run_bd q1) hL S1).mono (fun w M2 ⟨q, β2, q2, S2, d2⟩ => by
    obtain ⟨c, hc, q3⟩ := LO.run_lf q2
    rw [op p q c hc v w M2 (d1.at_ S2) (d2.at_ S2)]
    exact ⟨c, β2, q3, app1 (S2.push rfl rfl)⟩) fun _ _ h => h)) fun _ _ h => h)⟩
theorem jx_op {a b : EM} {fa : μ α} {fb : μ γ} {xa : α → PyData} {xb : γ → PyData} {xc : δ → PyData} {f : Val → Val → Mm → Out Val} (h : α → γ → δ) (ha : JO 𝔅 Γ a fa xa) (hb : JO 𝔅 Γ b fb xb) (op : ∀ p q, Op2 f (xa p) (xb q) (xc (h p q))) :
    JX 𝔅 Γ (mOp f a b) (bd fa fun p => bd fb fun q => pu (h p q)) fun r => .v (xc r) :=
  ⟨fun Q L P β M r hL S => WpE.bind ((ha.run _ L P β M (WM.run_bd r) hL S).mono (fun v M1 ⟨p, β1, q1, S1, d1⟩ => WpE.bind ((hb.run _ L P β1 M1 (WM.run_bd q1) hL S1).mono (fun w M2 ⟨q, β2, q2, S2, d2⟩ => by
    rw [op p q v w M2 (d1.at_ S2) (d2.at_ S2)]
    exact ⟨h p q, β2, WM.run_pu q2, app1 (S2.push rfl rfl)⟩) fun _ _ h => h)) fun _ _ h => h)⟩
/-! ### tests -/
theorem jt_of {m : EM} {f : μ Bool} (h : JX 𝔅 Γ m f fun b => .v (.bool b)) : JT 𝔅 Γ (mT m) f :=
  ⟨fun Q L P β M r hL S => WpE.bind ((h.run _ L P β M r hL S).mono (fun w M' ⟨a, β', q, S'⟩ => by
    have s : some w = some (Val.d (.bool a)) := S'.ok (.v (.bool a), some w) (by simp)
    cases s
    rw [← List.append_assoc] at S'
    exact ⟨β', q, S'.left⟩) fun _ _ h => h)⟩
theorem jt_and {a b : TM} {fa fb : μ Bool} (ha : JT 𝔅 Γ a fa) (hb : JT 𝔅 Γ b fb) : JT 𝔅 Γ (mTAnd a b) (bd fa fun p => if p = true then fb else pu false) :=
  ⟨fun Q L P β M r hL S => WpE.bind ((ha.run _ L P β M (WM.run_bd r) hL S).mono (fun p M1 ⟨β1, q1, S1⟩ => by
    dsimp only at q1
    cases p with
    | true => exact hb.run _ L P β1 M1 q1 hL S1
    | false => exact ⟨β1, WM.run_pu q1, S1⟩) fun _ _ h => h)⟩
theorem jt_or {a b : TM} {fa fb : μ Bool} (ha : JT 𝔅 Γ a fa) (hb : JT 𝔅 Γ b fb) : JT 𝔅 Γ (mTOr a b) (bd fa fun p => if p = true then pu true else fb) :=
  ⟨fun Q L P β M r hL S => WpE.bind ((ha.run _ L P β M (WM.run_bd r) hL S).mono (fun p M1 ⟨β1, q1, S1⟩ => by
    dsimp only at q1
    cases p with
    | true => exact ⟨β1, WM.run_pu q1, S1⟩
    | false => exact hb.run _ L P β1 M1 q1 hL S1) fun _ _ h => h)⟩
theorem jt_not {a : TM} {fa : μ Bool} (ha : JT 𝔅 Γ a fa) : JT 𝔅 Γ (mTNot a) (bd fa fun p => pu (!p)) :=
  ⟨fun Q L P β M r hL S => WpE.bind ((ha.run _ L P β M (WM.run_bd r) hL S).mono (fun p M1 ⟨β1, q1, S1⟩ => ⟨β1, WM.run_pu q1, S1⟩) fun _ _ h => h)⟩
theorem jx_and {a b : EM} {fa fb : μ Bool} (ha : JX 𝔅 Γ a fa fun p => .v (.bool p)) (hb : JX 𝔅 Γ b fb fun p => .v (.bool p)) : JX 𝔅 Γ (mAnd a b) (bd fa fun p => if p = true then fb else pu false) fun p => .v (.bool p) :=
  ⟨fun Q L P β M r hL S => WpE.bind (((jt_of ha).run _ L P β M (WM.run_bd r) hL S).mono (fun p M1 ⟨β1, q1, S1⟩ => by
    dsimp only at q1
    cases p with
    | true => exact hb.run _ L P β1 M1 q1 hL S1
    | false => exact ⟨false, β1, WM.run_pu q1, app1 (S1.push rfl rfl)⟩) fun _ _ h => h)⟩
theorem jx_or {a b : EM} {fa fb : μ Bool} (ha : JX 𝔅 Γ a fa fun p => .v (.bool p)) (hb : JX 𝔅 Γ b fb fun p => .v (.bool p)) : JX 𝔅 Γ (mOr a b) (bd fa fun p => if p = true then pu true else fb) fun p => .v (.bool p) :=
  ⟨fun Q L P β M r hL S => WpE.bind (((jt_of ha).run _ L P β M (WM.run_bd r) hL S).mono (fun p M1 ⟨β1, q1, S1⟩ => by
    dsimp only at q1
    cases p with
    | true => exact ⟨true, β1, WM.run_pu q1, app1 (S1.push rfl rfl)⟩
    | false => exact hb.run _ L P β1 M1 q1 hL S1) fun _ _ h => h)⟩
theorem jx_not {a : EM} {fa : μ Bool} (ha : JX 𝔅 Γ a fa fun p => .v (.bool p)) : JX 𝔅 Γ (mNot a) (bd fa fun p => pu (!p)) fun p => .v (.bool p) :=
  ⟨fun Q L P β M r hL S => WpE.bind (((jt_of ha).run _ L P β M (WM.run_bd r) hL S).mono (fun p M1 ⟨β1, q1, S1⟩ => ⟨!p, β1, WM.run_pu q1, app1 (S1.push rfl rfl)⟩) fun _ _ h => h)⟩
theorem jx_if {c : TM} {a b : EM} {fc : μ Bool} {fa fb : μ α} {sp : α → Sp} (hc : JT 𝔅 Γ c fc) (ha : JX 𝔅 Γ a fa sp) (hb : JX 𝔅 Γ b fb sp) : JX 𝔅 Γ (mIf c a b) (bd fc fun p => if p = true then fa else fb) sp :=
  ⟨fun Q L P β M r hL S => WpE.bind ((hc.run _ L P β M (WM.run_bd r) hL S).mono (fun p M1 ⟨β1, q1, S1⟩ => by
    dsimp only at q1
    cases p with
    | true => exact ha.run _ L P β1 M1 q1 hL S1
    | false => exact hb.run _ L P β1 M1 q1 hL S1) fun _ _ h => h)⟩
/-- a < b < c -/
theorem jx_chain {a b c : EM} {fa : μ α} {fb : μ γ} {fc : μ δ} {xa : α → PyData} {xb : γ → PyData} {xc : δ → PyData} {f g : Val → Val → Mm → Out Val} (h1 : α → γ → Bool) (h2 : γ → δ → Bool) (ha : JO 𝔅 Γ a fa xa) (hb : JO 𝔅 Γ b fb xb) (hc : JO 𝔅 Γ c fc xc)
    (o1 : ∀ p q, Op2 f (xa p) (xb q) (.bool (h1 p q))) (o2 : ∀ p q, Op2 g (xb p) (xc q) (.bool (h2 p q))) :
    JX 𝔅 Γ (mChain f g a b c) (bd fa fun p => bd fb fun q => if h1 p q = true then bd fc fun r => pu (h2 q r) else pu false) fun p => .v (.bool p) :=
  ⟨fun Q L P β M r hL S => WpE.bind ((ha.run _ L P β M (WM.run_bd r) hL S).mono (fun v M1 ⟨p, β1, q1, S1, d1⟩ => WpE.bind ((hb.run _ L P β1 M1 (WM.run_bd q1) hL S1).mono (fun w M2 ⟨q, β2, q2, S2, d2⟩ => by
    rw [o1 p q v w M2 (d1.at_ S2) (d2.at_ S2)]
    show WpE (if h1 p q = true then (c L.sl M2).bind fun w M4 => g _ w M4 else .ok (.d (.bool false)) M2) _ _
    dsimp only at q2
    cases hk : h1 p q with
    | false =>
      rw [hk] at q2
      exact ⟨false, β2, WM.run_pu q2, app1 (S2.push rfl rfl)⟩
    | true =>
      rw [hk] at q2
      refine WpE.bind ((hc.run _ L P β2 M2 (WM.run_bd q2) hL S2).mono (fun u M3 ⟨r, β3, q3, S3, d3⟩ => ?_) fun _ _ h => h)
      rw [o2 q r w u M3 (d2.at_ S3) (d3.at_ S3)]
      exact ⟨h2 q r, β3, WM.run_pu q3, app1 (S3.push rfl rfl)⟩) fun _ _ h => h)) fun _ _ h => h)⟩
/-! ### lists of values -/
theorem zs_nil : zs [] [] = [] := rfl
theorem zs_cons {sp : Sp} {sps : List Sp} {v : Val} {vs : List Val} : zs (sp :: sps) (v :: vs) = (sp, some v) :: zs sps vs := rfl
theorem ja_nil : JA (μ := μ) 𝔅 Γ mNil (pu ()) fun _ => [] :=
  ⟨fun Q L P β M r hL S => ⟨(), β, WM.run_pu r, rfl, by rw [show P ++ zs [] [] = P from List.append_nil _]; exact S⟩⟩
theorem ja_cons {a : EM} {r : AM} {fa : μ α} {fr : μ γ} {sp : α → Sp} {sps : γ → List Sp} (ha : JX 𝔅 Γ a fa sp) (hr : JA 𝔅 Γ r fr sps) : JA 𝔅 Γ (mCons a r) (bd fa fun p => bd fr fun q => pu (p, q)) fun p => sp p.1 :: sps p.2 :=
  ⟨fun Q L P β M r hL S => WpE.bind ((ha.run _ L P β M (WM.run_bd r) hL S).mono (fun w M1 ⟨p, β1, q1, S1⟩ => WpE.bind ((hr.run _ L (P ++ [(sp p, some w)]) β1 M1 (WM.run_bd q1) hL S1).mono (fun vs M2 ⟨q, β2, q2, hl, S2⟩ => by
    refine ⟨(p, q), β2, WM.run_pu q2, by rw [List.length_cons, List.length_cons, hl], ?_⟩
    rw [zs_cons]
    rwa [List.append_assoc] at S2) fun e M' ⟨h1, β', S'⟩ => ⟨h1, β', by
      rw [← List.append_assoc] at S'
      exact S'.left⟩)) fun _ _ h => h)⟩
theorem sat_ds {L P : Ps} {B M : Mm} : ∀ {xs : List PyData} {vs : List Val}, vs.length = xs.length → Sat (L ++ (P ++ zs (xs.map .v) vs)) B M → vs = xs.map .d
  | [], [], _, _ => rfl
  | [], _ :: _, h, _ => by cases h
  | _ :: _, [], h, _ => by cases h
  | x :: xs, v :: vs, h, S => by
    have s : some v = some (Val.d x) := S.ok (.v x, some v) (by rw [List.map_cons, zs_cons]; simp)
    cases s
    rw [List.map_cons, zs_cons] at S
    have ih := sat_ds (L := L) (P := P ++ [(.v x, some (.d x))]) (xs := xs) (vs := vs) (by simpa using h) (by rw [List.append_assoc]; exact S)
    rw [ih]
    rfl
theorem sat_left {L P P' : Ps} {B M : Mm} (S : Sat (L ++ (P ++ P')) B M) : Sat (L ++ P) B M := by
  rw [← List.append_assoc] at S
  exact S.left
/-- what is made of some data -/
theorem jx_dataM {ms : AM} {f : μ α} {xs : α → List PyData} {c : List Val → Mm → Out Val} (g : α → Option γ) {y : γ → PyData} (h : JA 𝔅 Γ ms f fun a => (xs a).map .v) (op : ∀ a r M, g a = some r → c ((xs a).map .d) M = .ok (.d (y r)) M) :
    JX 𝔅 Γ (fun s M => (ms s M).bind c) (bd f fun a => lf (g a)) fun r => .v (y r) :=
  ⟨fun Q L P β M r hL S => WpE.bind ((h.run _ L P β M (WM.run_bd r) hL S).mono (fun vs M1 ⟨a, β1, q1, hl, S1⟩ => by
    rw [List.length_map] at hl
    have e := sat_ds hl S1
    obtain ⟨c', hc, q2⟩ := LO.run_lf q1
    rw [e, op a c' M1 hc]
    exact ⟨c', β1, q2, app1 ((sat_left S1).push rfl rfl)⟩) fun _ _ h => h)⟩
theorem jx_data {ms : AM} {f : μ α} {xs : α → List PyData} {c : List Val → Mm → Out Val} (g : α → γ) {y : γ → PyData} (h : JA 𝔅 Γ ms f fun a => (xs a).map .v) (op : ∀ a M, c ((xs a).map .d) M = .ok (.d (y (g a))) M) :
    JX 𝔅 Γ (fun s M => (ms s M).bind c) (bd f fun a => pu (g a)) fun r => .v (y r) :=
  ⟨fun Q L P β M r hL S => WpE.bind ((h.run _ L P β M (WM.run_bd r) hL S).mono (fun vs M1 ⟨a, β1, q1, hl, S1⟩ => by
    rw [List.length_map] at hl
    have e := sat_ds hl S1
    rw [e, op a M1]
    exact ⟨g a, β1, WM.run_pu q1, app1 ((sat_left S1).push rfl rfl)⟩) fun _ _ h => h)⟩
/-- .. of a thing that is read -/
theorem jx_readM {e : EM} {f : μ α} {x : α → PyData} {c : List Val → Mm → Out Val} (g : α → Option γ) {y : γ → PyData} (h : JO 𝔅 Γ e f x) (op : ∀ a r v M, g a = some r → RdAs v M (x a) → c [v] M = .ok (.d (y r)) M) :
    JX 𝔅 Γ (mB c (mCons e mNil)) (bd f fun a => lf (g a)) fun r => .v (y r) :=
  ⟨fun Q L P β M r hL S => WpE.bind (WpE.bind ((h.run _ L P β M (WM.run_bd r) hL S).mono (fun v M1 ⟨a, β1, q1, S1, d⟩ => by
    obtain ⟨c', hc, q2⟩ := LO.run_lf q1
    show WpE (c [v] M1) _ _
    rw [op a c' v M1 hc (d.at_ S1)]
    exact ⟨c', β1, q2, app1 (S1.push rfl rfl)⟩) fun _ _ h => h))⟩
theorem jx_read {e : EM} {f : μ α} {x : α → PyData} {c : List Val → Mm → Out Val} (g : α → γ) {y : γ → PyData} (h : JO 𝔅 Γ e f x) (op : ∀ a v M, RdAs v M (x a) → c [v] M = .ok (.d (y (g a))) M) :
    JX 𝔅 Γ (mB c (mCons e mNil)) (bd f fun a => pu (g a)) fun r => .v (y r) :=
  ⟨fun Q L P β M r hL S => WpE.bind (WpE.bind ((h.run _ L P β M (WM.run_bd r) hL S).mono (fun v M1 ⟨a, β1, q1, S1, d⟩ => by
    show WpE (c [v] M1) _ _
    rw [op a v M1 (d.at_ S1)]
    exact ⟨g a, β1, WM.run_pu q1, app1 (S1.push rfl rfl)⟩) fun _ _ h => h))⟩
end
end Zm
namespace Zm
open PySem PySem.Spec PyProof.Rows L2
open WM (pu bd)
open LO (lf)
variable {𝔅 : Bas} {μ : Type → Type} [LO μ] {α γ δ τ ρ σ φ : Type} {Γ Γx : Cs}
/-! ### defs that are called -/
def FnP (den : Den) (f : α → Option ρ) (xs : α → List PyData) (y : ρ → PyData) : Prop := ∀ a r M, f a = some r → M.all (MO.below M.length) = true → den ((xs a).map .d) M = .ok (.d (y r)) M
def FnE (den : Den) (f : α → OE ρ) (xs : α → List PyData) (y : ρ → PyData) : Prop := ∀ a M, M.all (MO.below M.length) = true → (∀ r, f a = some (.ok r) → den ((xs a).map .d) M = .ok (.d (y r)) M) ∧ ∀ e, f a = some (.er e) → den ((xs a).map .d) M = .er e M
/-- a deck: what stands at the first places -/
structure Deck where
  T : Type
  m0 : T → Mm
  n : Nat
  len : ∀ q, (m0 q).length = n
  cl : ∀ q, (m0 q).all (MO.below n) = true
  nf : ∀ q (j : Nat) (x : PyData), (m0 q)[j]? ≠ some (MO.frz x)
def FnD (D : Deck) (j : Nat) (den : Den) (f : α → Dm ρ) (xs : α → List PyData) (y : ρ → PyData) : Prop :=
  ∀ a Q q R, f a Q → (D.m0 q ++ R).all (MO.below (D.m0 q ++ R).length) = true → ∃ r q', Q r ∧ den (.obj j :: (xs a).map .d) (D.m0 q ++ R) = .ok (.d (y r)) (D.m0 q' ++ R)
/-- ahead of what is drawn from: the deck and things of others -/
def Deck.B (D : Deck) (R0 : Mm) (h : ∀ q, (D.m0 q ++ R0).all (MO.below (D.n + R0.length)) = true) : Bas :=
  ⟨D.T, fun q => D.m0 q ++ R0, D.n + R0.length, fun q => by rw [List.length_append, D.len], h, fun b b' j x e => by
    by_cases hj : j < D.n
    · rw [List.getElem?_append_left (by rw [D.len]; exact hj)] at e
      exact absurd e (D.nf b j x)
    · rw [List.getElem?_append_right (by rw [D.len]; omega), D.len] at e ⊢
      exact e⟩
theorem jx_call {ms : AM} {f : μ α} {xs : γ → List PyData} {den : Den} {g : γ → Option ρ} {y : ρ → PyData} {n : Nat} (c : α → γ) (F : FnP den g xs y) (h : JA 𝔅 Γ ms f fun a => (xs (c a)).map .v) (hn : ∀ a, (xs a).length = n := by intro _; rfl) :
    JX 𝔅 Γ (mCall n den ms) (bd f fun a => lf (g (c a))) fun r => .v (y r) :=
  ⟨fun Q L P β M r hL S => WpE.bind ((h.run _ L P β M (WM.run_bd r) hL S).mono (fun vs M1 ⟨a, β1, q1, hl, S1⟩ => by
    rw [List.length_map] at hl
    have e := sat_ds hl S1
    obtain ⟨c', hc, q2⟩ := LO.run_lf q1
    rw [if_pos (by rw [hl, hn]), e, F (c a) c' M1 hc S1.cl]
    exact ⟨c', β1, q2, app1 ((sat_left S1).push rfl rfl)⟩) fun _ _ h => h)⟩
theorem jx_callK {ms mk : AM} {f : μ α} {f' : μ δ} {xs : γ → List PyData} {x1 : α → List PyData} {x2 : δ → List PyData} {den : Den} {g : γ → Option ρ} {y : ρ → PyData} {np nk : Nat} {ix : List Nat} (c : α → δ → γ) (F : FnP den g xs y)
    (h : JA 𝔅 Γ ms f fun a => (x1 a).map .v) (h' : JA 𝔅 Γ mk f' fun a => (x2 a).map .v) (hn : ∀ a, (x1 a).length = np := by intro _; rfl) (hk : ∀ a, (x2 a).length = nk := by intro _; rfl) (hp : ∀ a b, pickBy ix (((x1 a).map Val.d) ++ ((x2 b).map Val.d)) = (xs (c a b)).map .d := by intro _ _; rfl) :
    JX 𝔅 Γ (mCallK np nk den ix ms mk) (bd f fun a => bd f' fun b => lf (g (c a b))) fun r => .v (y r) :=
  ⟨fun Q L P β M r hL S => WpE.bind ((h.run _ L P β M (WM.run_bd r) hL S).mono (fun vs M1 ⟨a, β1, q1, hl, S1⟩ => WpE.bind ((h'.run _ L (P ++ zs ((x1 a).map .v) vs) β1 M1 (WM.run_bd q1) hL S1).mono (fun us M2 ⟨b, β2, q2, hl2, S2⟩ => by
    rw [List.length_map] at hl hl2
    have e := sat_ds hl2 S2
    have e1 := sat_ds hl (sat_left S2)
    obtain ⟨c', hc, q3⟩ := LO.run_lf q2
    rw [if_pos ⟨by rw [hl, hn], by rw [hl2, hk]⟩, e, e1, hp, F (c a b) c' M2 hc S2.cl]
    exact ⟨c', β2, q3, app1 ((sat_left (sat_left S2)).push rfl rfl)⟩) fun e M' ⟨h1, β', S'⟩ => ⟨h1, β', sat_left S'⟩)) fun _ _ h => h)⟩
theorem jx_callE {ms : AM} {f : OE α} {xs : γ → List PyData} {den : Den} {g : γ → OE ρ} {y : ρ → PyData} {n : Nat} (c : α → γ) (F : FnE den g xs y) (h : JA 𝔅 Γ ms f fun a => (xs (c a)).map .v) (hn : ∀ a, (xs a).length = n := by intro _; rfl) :
    JX 𝔅 Γ (mCall n den ms) (bd f fun a => g (c a)) fun r => .v (y r) :=
  ⟨fun Q L P β M r hL S => WpE.bind ((h.run _ L P β M (WM.run_bd r) hL S).mono (fun vs M1 ⟨a, β1, q1, hl, S1⟩ => by
    rw [List.length_map] at hl
    have e := sat_ds hl S1
    obtain ⟨r, hr, q2⟩ := q1
    obtain ⟨k1, k2⟩ := F (c a) M1 S1.cl
    cases r with
    | ok c' =>
      rw [if_pos (by rw [hl, hn]), e, k1 c' hr]
      exact ⟨c', β1, q2, app1 ((sat_left S1).push rfl rfl)⟩
    | er x =>
      rw [if_pos (by rw [hl, hn]), e, k2 x hr]
      exact ⟨q2, β1, sat_left S1⟩) fun _ _ h => h)⟩
theorem jx_callD {D : Deck} {R0 : Mm} {h0} {j n : Nat} {ms : AM} {f : Dm α} {xs : γ → List PyData} {den : Den} {g : γ → Dm ρ} {y : ρ → PyData} (c : α → γ) (F : FnD D j den g xs y) (h : JA (D.B R0 h0) Γ ms f fun a => .o j :: (xs (c a)).map .v) (hn : ∀ a, (xs a).length + 1 = n := by intro _; rfl) :
    JX (D.B R0 h0) Γ (mCall n den ms) (bd f fun a => g (c a)) fun r => .v (y r) :=
  ⟨fun Q L P β M r hL S => WpE.bind ((h.run _ L P β M (WM.run_bd r) hL S).mono (fun vs M1 ⟨a, β1, q1, hl, S1⟩ => by
    cases vs with
    | nil => cases hl
    | cons v vs =>
      rw [List.length_cons, List.length_cons, List.length_map] at hl
      rw [zs_cons] at S1
      have hl : vs.length = (xs (c a)).length := by omega
      have s : some v = some (Val.obj j) := S1.ok (.o j, some v) (by simp)
      cases s
      have e := sat_ds (P := P ++ [(.o j, some (.obj j))]) hl (by rw [List.append_assoc]; exact S1 : Sat (L ++ (P ++ [(Sp.o j, some (Val.obj j))] ++ zs ((xs (c a)).map .v) vs)) _ _)
      obtain ⟨R, rfl⟩ := S1.pre
      obtain ⟨r', q', h1, h2⟩ := F (c a) _ β1 (R0 ++ R) q1 (by rw [← List.append_assoc]; exact S1.cl)
      rw [if_pos (by rw [List.length_cons, hl, hn]), e]
      have h2 : den (.obj j :: (xs (c a)).map .d) ((D.B R0 h0).mem β1 ++ R) = .ok (.d (y r')) ((D.B R0 h0).mem q' ++ R) := by
        show den _ (D.m0 β1 ++ R0 ++ R) = .ok _ (D.m0 q' ++ R0 ++ R)
        rw [List.append_assoc, List.append_assoc]
        exact h2
      rw [h2]
      exact ⟨r', q', h1, app1 (Sat.baseB (𝔅 := D.B R0 h0) (sat_left S1) |>.push rfl rfl)⟩) fun _ _ h => h)⟩
/-- a plain reading is a reading in any monad -/
theorem JX.lf {m : EM} {f : Option α} {sp : α → Sp} (h : JX (μ := Option) 𝔅 Γ m f sp) : JX (μ := μ) 𝔅 Γ m (lf f) sp :=
  ⟨fun Q L P β M r hL S => by
    obtain ⟨a, ha, q⟩ := LO.run_lf r
    exact (h.run (fun r => match r with | .ok a => Q (.ok a) | .er _ => False) L P β M ⟨a, ha, q⟩ hL S).mono (fun w M' h => h) fun e M' h => h.1.elim⟩
theorem JT.lf {m : TM} {f : Option Bool} (h : JT (μ := Option) 𝔅 Γ m f) : JT (μ := μ) 𝔅 Γ m (lf f) :=
  ⟨fun Q L P β M r hL S => by
    obtain ⟨a, ha, q⟩ := LO.run_lf r
    exact (h.run (fun r => match r with | .ok a => Q (.ok a) | .er _ => False) L P β M ⟨a, ha, q⟩ hL S).mono (fun w M' h => h) fun e M' h => h.1.elim⟩
/-! ### what is walked -/
def dl (enc : τ → PyData) (xs : List τ) : List Val := xs.map fun x => .d (enc x)
structure JI (𝔅 : Bas) (Γ : Cs) (m : AM) (f : μ (List τ)) (enc : τ → PyData) : Prop where
  run : ∀ (Q : Res (List τ) → Prop) (L P : Ps) (β : 𝔅.T) (M : Mm), WM.run f Q → L.cs = Γ → Sat (L ++ P) (𝔅.mem β) M →
    WpE (m L.sl M) (fun vs M' => ∃ (a : List τ) (β' : 𝔅.T), Q (.ok a) ∧ vs = dl enc a ∧ Sat (L ++ P) (𝔅.mem β') M') (ErE 𝔅 L P fun e => Q (.er e))
theorem JI.cv {m : AM} {f f' : μ (List τ)} {enc : τ → PyData} (h : JI 𝔅 Γ m f enc) (e : f = f') : JI 𝔅 Γ m f' enc := e ▸ h
theorem jx_at {m : EM} {f : μ α} {x : α → PyData} (h : JX 𝔅 Γ m f fun a => .v (x a)) (Q : Res α → Prop) (L P : Ps) (β : 𝔅.T) (M : Mm) (r : WM.run f Q) (hL : L.cs = Γ) (S : Sat (L ++ P) (𝔅.mem β) M) :
    WpE (m L.sl M) (fun w M' => ∃ (a : α) (β' : 𝔅.T), Q (.ok a) ∧ w = .d (x a) ∧ Sat (L ++ P) (𝔅.mem β') M') (ErE 𝔅 L P fun e => Q (.er e)) :=
  (h.run Q L P β M r hL S).mono (fun w M' ⟨a, β', q, S'⟩ => by
    have s : some w = some (Val.d (x a)) := S'.ok (.v (x a), some w) (by simp)
    cases s
    exact ⟨a, β', q, rfl, sat_left S'⟩) fun _ _ h => h
theorem ji_seq {m : EM} {f : μ (List τ)} {enc : τ → PyData} {x : List τ → PyData} (h : JX 𝔅 Γ m f fun a => .v (x a)) (hx : ∀ a, x a = .list (a.map enc) ∨ x a = .tuple (a.map enc)) : JI 𝔅 Γ (mIt m) f enc :=
  ⟨fun Q L P β M r hL S => WpE.bind ((jx_at h Q L P β M r hL S).mono (fun w M' ⟨a, β', q, e, S'⟩ => by
    rw [e]
    have hm : (a.map enc).map Val.d = dl enc a := by rw [List.map_map]; rfl
    rcases hx a with h1 | h1
    · rw [h1]
      exact ⟨a, β', q, hm, S'⟩
    · rw [h1]
      exact ⟨a, β', q, hm, S'⟩) fun _ _ h => h)⟩
theorem ji_list {m : EM} {f : μ (List τ)} {enc : τ → PyData} (h : JX 𝔅 Γ m f fun a => .v (.list (a.map enc))) : JI 𝔅 Γ (mIt m) f enc := ji_seq (x := fun a => .list (a.map enc)) h fun _ => .inl rfl
theorem ji_tup {m : EM} {f : μ (List τ)} {enc : τ → PyData} (h : JX 𝔅 Γ m f fun a => .v (.tuple (a.map enc))) : JI 𝔅 Γ (mIt m) f enc := ji_seq (x := fun a => .tuple (a.map enc)) h fun _ => .inr rfl
/-- enumerated -/
def enuF : Nat → List τ → List (Int × τ)
  | _, [] => []
  | n, x :: xs => ((n : Int), x) :: enuF (n + 1) xs
def enu (xs : List τ) : List (Int × τ) := enuF 0 xs
def eE (enc : τ → PyData) (p : Int × τ) : PyData := .tuple [.int p.1, enc p.2]
theorem enuF_dl {enc : τ → PyData} : ∀ (xs : List τ) (n : Nat), (((xs.map enc).zipIdx n).map fun p => Val.d (.tuple [.int (p.2 : Nat), p.1])) = dl (eE enc) (enuF n xs)
  | [], _ => rfl
  | x :: xs, n => by
    rw [List.map_cons, List.zipIdx_cons, List.map_cons, enuF_dl xs (n + 1)]
    rfl
theorem ji_enu {m : EM} {f : μ (List τ)} {enc : τ → PyData} {x : List τ → PyData} (h : JX 𝔅 Γ m f fun a => .v (x a)) (hx : ∀ a, x a = .list (a.map enc) ∨ x a = .tuple (a.map enc)) : JI 𝔅 Γ (mEnum (mCons m mNil)) (bd f fun a => pu (enu a)) (eE enc) :=
  ⟨fun Q L P β M r hL S => WpE.bind (WpE.bind ((jx_at h _ L P β M (WM.run_bd r) hL S).mono (fun w M' ⟨a, β', q, e, S'⟩ => by
    rw [e]
    rcases hx a with h1 | h1
    · rw [h1]
      exact ⟨enu a, β', WM.run_pu q, enuF_dl a 0, S'⟩
    · rw [h1]
      exact ⟨enu a, β', WM.run_pu q, enuF_dl a 0, S'⟩) fun _ _ h => h))⟩
/-- a range -/
def ran (lo hi : Int) : List Int := (List.range (hi - lo).toNat).map fun i => lo + (i : Nat)
def okI (i : Int) : Bool := smallR i
def ran1 (j : Int) : Option (List Int) := if okI j = true then some (ran 0 j) else none
def ran2 (i j : Int) : Option (List Int) := if okI i = true ∧ okI j = true then some (ran i j) else none
theorem rangeL_dl (lo hi : Int) : rangeL lo (hi - lo).toNat = dl PyData.int (ran lo hi) := by
  unfold rangeL dl ran
  rw [List.map_map]
  rfl
theorem ji_ran1 {m : EM} {f : μ Int} (h : JX 𝔅 Γ m f fun a => .v (.int a)) : JI 𝔅 Γ (mRange1 (mCons m mNil)) (bd f fun a => lf (ran1 a)) PyData.int :=
  ⟨fun Q L P β M r hL S => WpE.bind (WpE.bind ((jx_at h _ L P β M (WM.run_bd r) hL S).mono (fun w M' ⟨a, β', q, e, S'⟩ => by
    obtain ⟨c, hc, q2⟩ := LO.run_lf q
    rw [e]
    unfold ran1 at hc
    split at hc
    · rename_i hk
      cases hc
      have h1 : range1 [.d (.int a)] M' = .ok (rangeL 0 a.toNat) M' := by
        show (if smallR a then _ else _) = _
        rw [show smallR a = true from hk]
        rfl
      show WpE (range1 [.d (.int a)] M') _ _
      rw [h1]
      refine ⟨_, β', q2, ?_, S'⟩
      have := rangeL_dl 0 a
      rwa [Int.sub_zero] at this
    · cases hc) fun _ _ h => h))⟩
theorem ji_ran2 {m m' : EM} {f f' : μ Int} (h : JX 𝔅 Γ m f fun a => .v (.int a)) (h' : JX 𝔅 Γ m' f' fun a => .v (.int a)) : JI 𝔅 Γ (mRange2 (mCons m (mCons m' mNil))) (bd f fun a => bd f' fun b => lf (ran2 a b)) PyData.int :=
  ⟨fun Q L P β M r hL S => WpE.bind (WpE.bind ((jx_at h _ L P β M (WM.run_bd r) hL S).mono (fun w M' ⟨a, β', q, e, S'⟩ => WpE.bind (WpE.bind ((jx_at h' _ L P β' M' (WM.run_bd q) hL S').mono (fun w2 M2 ⟨b, β2, q2, e2, S2⟩ => by
    obtain ⟨c, hc, q3⟩ := LO.run_lf q2
    rw [e, e2]
    unfold ran2 at hc
    split at hc
    · rename_i hk
      cases hc
      have h1 : range2 [.d (.int a), .d (.int b)] M2 = .ok (rangeL a (b - a).toNat) M2 := by
        show (if smallR a && smallR b then _ else _) = _
        rw [show smallR a = true from hk.1, show smallR b = true from hk.2]
        rfl
      show WpE (range2 [.d (.int a), .d (.int b)] M2) _ _
      rw [h1]
      exact ⟨_, β2, q3, rangeL_dl a b, S2⟩
    · cases hc) fun _ _ h => h))) fun _ _ h => h))⟩
/-! ### targets -/
structure JG (Γ : Cs) (g : GM) (is : List Nat) (y : PyData) (Γ' : Cs) : Prop where
  run : ∀ (L P : Ps) (B M : Mm), L.cs = Γ → Sat (L ++ P) B M → ∃ L' : Ps, g (.d y) L.sl M = some (L'.sl, M) ∧ L'.cs = Γ' ∧ Sat (L' ++ P) B M ∧ L'.length = L.length ∧ ∀ i, i ∉ is → L'[i]? = L[i]?
structure JGs (Γ : Cs) (g : GMs) (is : List Nat) (ys : List PyData) (Γ' : Cs) : Prop where
  run : ∀ (L P : Ps) (B M : Mm), L.cs = Γ → Sat (L ++ P) B M → ∃ L' : Ps, g (ys.map .d) L.sl M = some (L'.sl, M) ∧ L'.cs = Γ' ∧ Sat (L' ++ P) B M ∧ L'.length = L.length ∧ ∀ i, i ∉ is → L'[i]? = L[i]?
theorem sat_put {L P : Ps} {B M : Mm} {sp : Sp} {w : Option Val} (S : Sat (L ++ P) B M) (h : SpOk M sp w) (o : sp.own = false) (i : Nat) : Sat (L.set i (sp, w) ++ P) B M := by
  have S1 := S.push h o
  have mid : Sat (L ++ (sp, w) :: P) B M := by
    refine S1.sub (fun p hp => .inl ?_) fun a b p q j hab h1 h2 => ?_
    · simp only [List.mem_append, List.mem_cons, List.not_mem_nil, or_false] at hp ⊢
      rcases hp with h | h | h
      · exact .inl (.inl h)
      · exact .inr h
      · exact .inl (.inr h)
    · intro o1 o2 e1 e2
      have at_ : ∀ (a : Nat) p, (L ++ (sp, w) :: P)[a]? = some p → p.1.own = true → ∃ b, (L ++ P)[b]? = some p ∧ ((a < L.length ∧ b = a) ∨ (L.length < a ∧ b + 1 = a)) := fun a p e op => by
        by_cases ha : a < L.length
        · rw [List.getElem?_append_left ha] at e
          exact ⟨a, by rw [List.getElem?_append_left ha]; exact e, .inl ⟨ha, rfl⟩⟩
        · rw [List.getElem?_append_right (by omega)] at e
          cases hz : a - L.length with
          | zero => rw [hz] at e; cases e; rw [o] at op; cases op
          | succ m =>
            rw [hz] at e
            exact ⟨a - 1, by rw [List.getElem?_append_right (by omega), show a - 1 - L.length = m by omega]; exact e, .inr ⟨by omega, by omega⟩⟩
      obtain ⟨x, hx, cx⟩ := at_ a p h1 o1
      obtain ⟨y, hy, cy⟩ := at_ b q h2 o2
      exact S.nd x y p q j (by omega) hx hy o1 o2 e1 e2
  exact mid.set i
theorem set_sl {L : Ps} {i : Nat} {sp : Sp} {w : Option Val} : Ps.sl (L.set i (sp, w)) = L.sl.set i w := List.map_set
theorem set_cs {L : Ps} {i : Nat} {sp : Sp} {w : Option Val} : Ps.cs (L.set i (sp, w)) = L.cs.set i sp := List.map_set
theorem jg_name {i : Nat} {y : PyData} : JG Γ (gN i) [i] y (Γ.set i (.v y)) :=
  ⟨fun L P B M hL S => ⟨L.set i (.v y, some (.d y)), by rw [set_sl]; rfl, by rw [set_cs, hL], sat_put (sp := .v y) (w := some (.d y)) S rfl rfl i, List.length_set, fun a ha => List.getElem?_set_ne fun z => ha (by rw [z]; exact List.mem_cons_self ..)⟩⟩
theorem jgs_nil : JGs Γ gsNil [] [] Γ := ⟨fun L P B M hL S => ⟨L, rfl, hL, S, rfl, fun _ _ => rfl⟩⟩
theorem jgs_cons {g : GM} {gs : GMs} {is js : List Nat} {y : PyData} {ys : List PyData} {Γ1 Γ2 : Cs} (h : JG Γ g is y Γ1) (h2 : JGs Γ1 gs js ys Γ2) : JGs Γ (gsCons g gs) (is ++ js) (y :: ys) Γ2 :=
  ⟨fun L P B M hL S => by
    obtain ⟨L1, e1, c1, S1, l1, k1⟩ := h.run L P B M hL S
    obtain ⟨L2, e2, c2, S2, l2, k2⟩ := h2.run L1 P B M c1 S1
    refine ⟨L2, ?_, c2, S2, by rw [l2, l1], fun i hi => ?_⟩
    · show (g (.d y) L.sl M).bind _ = _
      rw [e1]
      exact e2
    · rw [k2 i fun z => hi (List.mem_append_right _ z), k1 i fun z => hi (List.mem_append_left _ z)]⟩
theorem jg_tup {gs : GMs} {is : List Nat} {ys : List PyData} {n : Nat} {Γ' : Cs} (h : JGs Γ gs is ys Γ') (hn : ys.length = n := by rfl) : JG Γ (gT n gs) is (.tuple ys) Γ' :=
  ⟨fun L P B M hL S => by
    obtain ⟨L', e, c, S', l, k⟩ := h.run L P B M hL S
    refine ⟨L', ?_, c, S', l, k⟩
    show (if ys.length = n then gs (ys.map .d) L.sl M else none) = _
    rw [if_pos hn, e]⟩
/-- back to the slots as they were -/
def isN_at (Γ : Cs) (is : List Nat) : Bool := is.all fun i => match Γ[i]? with
  | some .n => true
  | _ => false
theorem sat_back {L L' P : Ps} {B M : Mm} {is : List Nat} (S : Sat (L' ++ P) B M) (hl : L'.length = L.length) (hk : ∀ i, i ∉ is → L'[i]? = L[i]?) (hn : isN_at L.cs is = true) : Sat (L ++ P) B M := by
  have at_ : ∀ (a : Nat) p, (L ++ P)[a]? = some p → p.1 = .n ∨ (L' ++ P)[a]? = some p := fun a p e => by
    by_cases ha : a < L.length
    · rw [List.getElem?_append_left ha] at e
      by_cases hi : a ∈ is
      · left
        have := List.all_eq_true.mp hn a hi
        rw [List.getElem?_map, e] at this
        obtain ⟨sp, w⟩ := p
        dsimp only [Option.map] at this
        cases sp <;> first | rfl | cases this
      · right
        rw [List.getElem?_append_left (by omega), hk a hi, e]
    · right
      rw [List.getElem?_append_right (by omega)] at e ⊢
      rw [hl]; exact e
  refine S.sub (fun p hp => ?_) fun a b p q j hab h1 h2 o1 o2 e1 e2 => ?_
  · obtain ⟨a, ha⟩ := List.getElem?_of_mem hp
    exact (at_ a p ha).symm.imp List.mem_of_getElem? id
  · rcases at_ a p h1 with z | h1
    · rw [z] at o1; cases o1
    · rcases at_ b q h2 with z | h2
      · rw [z] at o2; cases o2
      · exact S.nd a b p q j hab h1 h2 o1 o2 e1 e2
/-! ### comprehensions -/
def cmpM (t : τ → μ Bool) (e : τ → μ γ) : List τ → μ (List γ)
  | [] => pu []
  | x :: xs => bd (t x) fun b => if b = true then bd (e x) fun y => bd (cmpM t e xs) fun r => pu (y :: r) else cmpM t e xs
def lim (r : List γ) : Option (List γ) := if r.length ≤ 16777216 then some r else none
def wipeC (Γ : Cs) : List Nat → Cs
  | [] => Γ
  | i :: is => (wipeC Γ is).set i .n
def wipeP (L : Ps) : List Nat → Ps
  | [] => L
  | i :: is => (wipeP L is).set i (.n, none)
theorem wipeP_sl (L : Ps) : ∀ is, (wipeP L is).sl = wipeS L.sl is
  | [] => rfl
  | i :: is => by
    show Ps.sl ((wipeP L is).set i (.n, none)) = (wipeS L.sl is).set i none
    rw [set_sl, wipeP_sl L is]
theorem wipeP_cs (L : Ps) : ∀ is, (wipeP L is).cs = wipeC L.cs is
  | [] => rfl
  | i :: is => by
    show Ps.cs ((wipeP L is).set i (.n, none)) = (wipeC L.cs is).set i .n
    rw [set_cs, wipeP_cs L is]
/-- what was at the wiped slots -/
def wiped (L : Ps) (is : List Nat) : Ps := is.filterMap fun i => L[i]?
theorem wipeP_at (L : Ps) {i : Nat} : ∀ {is : List Nat}, i ∉ is → (wipeP L is)[i]? = L[i]?
  | [], _ => rfl
  | j :: is, h => by
    show ((wipeP L is).set j (.n, none))[i]? = _
    rw [List.getElem?_set_ne (fun z => h (by rw [z]; exact List.mem_cons_self ..)), wipeP_at L fun z => h (List.mem_cons_of_mem _ z)]
theorem sat_wipe {L P : Ps} {B M : Mm} (S : Sat (L ++ P) B M) : ∀ is : List Nat, (∀ i ∈ is, ∀ p, L[i]? = some p → p.1.own = false) → Sat (wipeP L is ++ (P ++ wiped L is)) B M := by
  intro is hno
  have S1 : ∀ W : Ps, (∀ p ∈ W, SpOk M p.1 p.2 ∧ p.1.own = false) → Sat (L ++ (P ++ W)) B M := by
    intro W
    induction W generalizing P with
    | nil => intro _; rw [List.append_nil]; exact S
    | cons p W ih =>
      intro hW
      have := ih (P := P ++ [p]) (app1 (S.push (hW p (List.mem_cons_self ..)).1 (hW p (List.mem_cons_self ..)).2)) fun q hq => hW q (List.mem_cons_of_mem _ hq)
      rwa [List.append_assoc] at this
  have S2 := S1 (wiped L is) fun p hp => by
    obtain ⟨i, hi, e⟩ := List.mem_filterMap.mp hp
    exact ⟨S.ok p (List.mem_append_left _ (List.mem_of_getElem? e)), hno i hi p e⟩
  clear S1
  have : ∀ js : List Nat, Sat (wipeP L js ++ (P ++ wiped L is)) B M := by
    intro js
    induction js with
    | nil => exact S2
    | cons j js ih => exact sat_put ih (by trivial) rfl j
  exact this is
theorem sat_unwipe {L : Ps} {B M : Mm} : ∀ {is : List Nat} {P : Ps}, is.Nodup → Sat (wipeP L is ++ (P ++ wiped L is)) B M → Sat (L ++ P) B M
  | [], P, _, S => by
    rw [show wiped L [] = [] from rfl, List.append_nil] at S
    exact S
  | i :: is, P, nd, S => by
    rw [List.nodup_cons] at nd
    cases e : L[i]? with
    | none =>
      have hw : wiped L (i :: is) = wiped L is := by unfold wiped; rw [List.filterMap_cons_none e]
      rw [hw] at S
      have hs : wipeP L (i :: is) = wipeP L is := by
        show (wipeP L is).set i (.n, none) = _
        rw [List.set_eq_of_length_le]
        have := wipeP_at L nd.1
        rw [e] at this
        exact List.getElem?_eq_none_iff.mp this
      rw [hs] at S
      exact sat_unwipe nd.2 S
    | some p =>
      have hw : wiped L (i :: is) = p :: wiped L is := by unfold wiped; rw [List.filterMap_cons_some e]
      rw [hw] at S
      obtain ⟨sp, w⟩ := p
      have hset : ((wipeP L is).set i (.n, none)).set i (sp, w) = wipeP L is := by
        rw [List.set_set]
        refine List.ext_getElem? fun j => ?_
        by_cases z : i = j
        · subst z
          rw [wipeP_at L nd.1, e, List.getElem?_set_self]
          have := wipeP_at L nd.1
          rw [e] at this
          exact (List.getElem?_eq_some_iff.mp this).1
        · rw [List.getElem?_set_ne z]
      have S3 : Sat ((wipeP L is).set i (.n, none) ++ P ++ (sp, w) :: wiped L is) B M := by rw [List.append_assoc]; exact S
      have S4 : Sat (((wipeP L is).set i (.n, none) ++ P).set i (sp, w) ++ wiped L is) B M := S3.set i
      by_cases hi : i < (wipeP L is).length
      · rw [List.set_append_left _ _ (by rw [List.length_set]; exact hi), hset, List.append_assoc] at S4
        exact sat_unwipe nd.2 S4
      · have := wipeP_at L nd.1
        rw [e, List.getElem?_eq_none_iff.mpr (by omega)] at this
        cases this
theorem noer_wp {α : Type} {o : Out α} {K : α → Mm → Prop} {E : Exc → Mm → Prop} (h : WpE o K fun _ _ => False) : WpE o.noer K E := by
  cases o with
  | ok w M => exact h
  | er e M => exact h.elim
  | bad => exact h.elim
theorem compL_run [NE μ] {g : GM} {t : TM} {e : EM} {is : List Nat} {enc : τ → PyData} {y : γ → PyData} {ft : τ → μ Bool} {fe : τ → μ γ} {Γb : τ → Cs} (hg : ∀ x, JG Γ g is (enc x) (Γb x)) (ht : ∀ x, JT 𝔅 (Γb x) t (ft x)) (he : ∀ x, JX 𝔅 (Γb x) e (fe x) fun b => .v (y b)) (hn : isN_at Γ is = true) :
    ∀ (xs : List τ) (Q : Res (List γ) → Prop) (L P : Ps) (β : 𝔅.T) (M : Mm), WM.run (cmpM ft fe xs) Q → L.cs = Γ → Sat (L ++ P) (𝔅.mem β) M →
      WpE (compL g t e L.sl (dl enc xs) M) (fun vs M' => ∃ (bs : List γ) (β' : 𝔅.T), Q (.ok bs) ∧ vs = dl y bs ∧ Sat (L ++ P) (𝔅.mem β') M') fun _ _ => False
  | [], Q, L, P, β, M, r, hL, S => ⟨[], β, WM.run_pu r, rfl, S⟩
  | x :: xs, Q, L, P, β, M, r, hL, S => by
    have ih := compL_run hg ht he hn xs
    obtain ⟨L1, e1, c1, S1, l1, k1⟩ := (hg x).run L P _ M hL S
    show WpE (match g (.d (enc x)) L.sl M with
      | some (s1, M1) => (t s1 M1).noer.bind fun b M2 => if b = true then (e s1 M2).noer.bind fun y M3 => (compL g t e L.sl (dl enc xs) M3).bind fun r M4 => .ok (y :: r) M4 else compL g t e L.sl (dl enc xs) M2
      | none => .bad) _ _
    rw [e1]
    have r1 := NE.ne (WM.run_bd (x := ft x) (show WM.run (bd (ft x) fun b => if b = true then bd (fe x) fun y => bd (cmpM ft fe xs) fun r => pu (y :: r) else cmpM ft fe xs) Q from r))
    refine WpE.bind (noer_wp (((ht x).run _ L1 P β M r1 c1 S1).mono (fun b M2 ⟨β2, q2, S2⟩ => ?_) fun _ _ h => h.1))
    dsimp only at q2
    cases b with
    | false => exact ih Q L P β2 M2 q2 hL (sat_back S2 l1 k1 (by rw [hL]; exact hn))
    | true =>
      have r2 := NE.ne (WM.run_bd q2)
      rw [if_pos rfl]
      refine WpE.bind (noer_wp ((jx_at (he x) _ L1 P β2 M2 r2 c1 S2).mono (fun w M3 ⟨b, β3, q3, ew, S3⟩ => ?_) fun _ _ h => h.1))
      dsimp only at q3
      refine WpE.bind ((ih _ L P β3 M3 (NE.ne (WM.run_bd q3)) hL (sat_back S3 l1 k1 (by rw [hL]; exact hn))).mono (fun vs M4 ⟨bs, β4, q4, ev, S4⟩ => ?_) fun _ _ h => h)
      dsimp only at q4
      exact ⟨b :: bs, β4, WM.run_pu q4, by rw [ew, ev]; rfl, S4⟩
/-- no slot of these is a place of one's own -/
def noOwn (Γ : Cs) (is : List Nat) : Bool := is.all fun i => match Γ[i]? with
  | some sp => !sp.own
  | none => true
theorem noOwn_ok {L : Ps} {is : List Nat} (h : noOwn L.cs is = true) : ∀ i ∈ is, ∀ p, L[i]? = some p → p.1.own = false := fun i hi p e => by
  have := List.all_eq_true.mp h i hi
  rw [List.getElem?_map, e] at this
  simpa using this
theorem allD_dl {y : γ → PyData} (bs : List γ) : allD (dl y bs) = some (bs.map y) := by
  show allD (bs.map (Val.d ∘ y)) = _
  rw [← List.map_map, z_allDm]
/-- [e for g in it if t] -/
theorem jx_comp [NE μ] {it : AM} {g : GM} {t : TM} {e : EM} {own is : List Nat} {enc : τ → PyData} {y : γ → PyData} {fi : μ (List τ)} {ft : τ → μ Bool} {fe : τ → μ γ} {Γb : τ → Cs} (hi : JI 𝔅 Γ it fi enc) (hg : ∀ x, JG (wipeC Γ own) g is (enc x) (Γb x)) (ht : ∀ x, JT 𝔅 (Γb x) t (ft x)) (he : ∀ x, JX 𝔅 (Γb x) e (fe x) fun b => .v (y b))
    (hn : isN_at (wipeC Γ own) is = true := by rfl) (ho : noOwn Γ own = true := by rfl) (nd : own.Nodup := by decide) : JX 𝔅 Γ (mComp lcK it g t e own) (bd fi fun xs => bd (cmpM ft fe xs) fun r => lf (lim r)) fun r => .v (.list (r.map y)) :=
  ⟨fun Q L P β M r hL S => WpE.bind ((hi.run _ L P β M (WM.run_bd r) hL S).mono (fun vs M1 ⟨xs, β1, q1, ev, S1⟩ => by
    dsimp only at q1
    have S2 := sat_wipe S1 own (noOwn_ok (by rw [hL]; exact ho))
    have e2 := wipeP_sl L own
    rw [ev, ← e2]
    refine WpE.bind ((compL_run hg ht he hn xs _ (wipeP L own) _ β1 M1 (WM.run_bd q1) (by rw [wipeP_cs, hL]) S2).mono (fun us M2 ⟨bs, β2, q2, eu, S3⟩ => ?_) fun _ _ h => h.elim)
    obtain ⟨c, hc, q3⟩ := LO.run_lf q2
    unfold lim at hc
    split at hc
    · rename_i hl
      cases hc
      rw [eu]
      show WpE (lcK (dl y bs) M2) _ _
      unfold lcK
      rw [allD_dl]
      have hl2 : fitsL (dl y bs).length = true := by unfold dl; rw [List.length_map]; exact fits_le hl
      rw [hl2]
      exact ⟨bs, β2, q3, app1 ((sat_unwipe nd S3).push rfl rfl)⟩
    · cases hc) fun _ _ h => h)⟩
/-- .. into a place of one's own -/
theorem jx_compN [NE μ] {it : AM} {g : GM} {t : TM} {e : EM} {own is : List Nat} {enc : τ → PyData} {y : γ → PyData} {fi : μ (List τ)} {ft : τ → μ Bool} {fe : τ → μ γ} {Γb : τ → Cs} (hi : JI 𝔅 Γ it fi enc) (hg : ∀ x, JG (wipeC Γ own) g is (enc x) (Γb x)) (ht : ∀ x, JT 𝔅 (Γb x) t (ft x)) (he : ∀ x, JX 𝔅 (Γb x) e (fe x) fun b => .v (y b))
    (hn : isN_at (wipeC Γ own) is = true := by rfl) (ho : noOwn Γ own = true := by rfl) (nd : own.Nodup := by decide) : JX 𝔅 Γ (mComp lcN it g t e own) (bd fi fun xs => bd (cmpM ft fe xs) fun r => lf (lim r)) fun r => .l (r.map y) :=
  ⟨fun Q L P β M r hL S => WpE.bind ((hi.run _ L P β M (WM.run_bd r) hL S).mono (fun vs M1 ⟨xs, β1, q1, ev, S1⟩ => by
    dsimp only at q1
    have S2 := sat_wipe S1 own (noOwn_ok (by rw [hL]; exact ho))
    have e2 := wipeP_sl L own
    rw [ev, ← e2]
    refine WpE.bind ((compL_run hg ht he hn xs _ (wipeP L own) _ β1 M1 (WM.run_bd q1) (by rw [wipeP_cs, hL]) S2).mono (fun us M2 ⟨bs, β2, q2, eu, S3⟩ => ?_) fun _ _ h => h.elim)
    obtain ⟨c, hc, q3⟩ := LO.run_lf q2
    unfold lim at hc
    split at hc
    · rename_i hl
      cases hc
      rw [eu]
      show WpE (lcN (dl y bs) M2) _ _
      unfold lcN
      have hl2 : fitsL (dl y bs).length = true := by unfold dl; rw [List.length_map]; exact fits_le hl
      rw [hl2]
      have eq : dl y bs = (bs.map y).map .d := by rw [List.map_map]; rfl
      have S4 := (sat_unwipe nd S3).grow (sp := .l (bs.map y)) (u := .lst (dl y bs)) (by rw [eq]; exact below_lst) ⟨_, rfl, by rw [eq]; simp⟩
      exact ⟨bs, β2, q3, app1 S4⟩
    · cases hc) fun _ _ h => h)⟩
end Zm
namespace Zm
open PySem PySem.Spec PyProof.Rows L2
open WM (pu bd)
open LO (lf)
variable {𝔅 : Bas} {μ : Type → Type} [LO μ] {α γ δ τ ρ σ φ ψ : Type} {Γ Γx : Cs}
/-! ### blocks -/
/-- what is left of what was known -/
inductive Wk : Cs → Cs → Prop where
  | nil : Wk [] []
  | keep {Γ Δ : Cs} {s : Sp} : Wk Γ Δ → Wk (s :: Γ) (s :: Δ)
  | drop {Γ Δ : Cs} {s : Sp} : Wk Γ Δ → Wk (s :: Γ) (.n :: Δ)
theorem Wk.refl : ∀ {Γ : Cs}, Wk Γ Γ
  | [] => .nil
  | _ :: _ => .keep .refl
theorem Wk.len {Γ Δ : Cs} (w : Wk Γ Δ) : Γ.length = Δ.length := by induction w <;> simp_all
theorem Wk.at_ {Γ Δ : Cs} (w : Wk Γ Δ) : ∀ (i : Nat) (s : Sp), Δ[i]? = some s → s = .n ∨ Γ[i]? = some s := by
  induction w with
  | nil => intro i s h; simp at h
  | keep w ih =>
    intro i s h
    cases i with
    | zero => exact .inr h
    | succ i => exact ih i s h
  | drop w ih =>
    intro i s h
    cases i with
    | zero => exact .inl (by simpa using h.symm)
    | succ i => exact ih i s h
theorem sat_weak {L : Ps} {B M : Mm} {Δ : Cs} (S : Sat L B M) (w : Wk L.cs Δ) : ∃ L' : Ps, L'.sl = L.sl ∧ L'.cs = Δ ∧ Sat L' B M := by
  have hl : Δ.length = L.length := by have := w.len; simpa using this.symm
  refine ⟨Δ.zip L.sl, ?_, ?_, ?_⟩
  · show List.map _ _ = _
    rw [List.map_snd_zip]
    show L.sl.length ≤ _
    unfold Ps.sl
    rw [List.length_map]; omega
  · show List.map _ _ = _
    rw [List.map_fst_zip]
    unfold Ps.sl
    rw [List.length_map]; omega
  · have at_ : ∀ (i : Nat) p, (Δ.zip L.sl)[i]? = some p → p.1 = .n ∨ L[i]? = some p := fun i p e => by
      rw [List.getElem?_zip_eq_some] at e
      rcases w.at_ i p.1 e.1 with h | h
      · exact .inl h
      · right
        obtain ⟨v, h1, h2⟩ := Ps.get h
        have := e.2
        rw [h2] at this
        cases this
        exact h1
    refine S.sub (fun p hp => ?_) fun a b p q j hab h1 h2 o1 o2 e1 e2 => ?_
    · obtain ⟨a, ha⟩ := List.getElem?_of_mem hp
      exact (at_ a p ha).symm.imp List.mem_of_getElem? id
    · rcases at_ a p h1 with z | h1
      · rw [z] at o1; cases o1
      · rcases at_ b q h2 with z | h2
        · rw [z] at o2; cases o2
        · exact S.nd a b p q j hab h1 h2 o1 o2 e1 e2
/-- errors leave with what Γx knows, or there are none -/
def XO (μ : Type → Type) [LO μ] (Γ Γx : Cs) : Prop := NE μ ∨ Wk Γ Γx
section
variable (𝔅)
def ErS (Γx : Cs) (Q : Exc → Prop) (o : SO) : Prop := ∃ (e : Exc) (L' : Ps) (M' : Mm) (β' : 𝔅.T), Q e ∧ o = .er e L'.sl M' ∧ L'.cs = Γx ∧ Sat L' (𝔅.mem β') M'
structure JS (Γ Γx : Cs) (b : SM) (f : μ φ) (K : φ → SO → 𝔅.T → Prop) : Prop where
  run : ∀ (Q : Res φ → Prop) (L : Ps) (β : 𝔅.T) (M : Mm), WM.run f Q → L.cs = Γ → Sat L (𝔅.mem β) M → (∃ a β', Q (.ok a) ∧ K a (b L.sl M) β') ∨ ErS 𝔅 Γx (fun e => Q (.er e)) (b L.sl M)
/-- it goes on, with these slots -/
def Kn (Γ1 : φ → Cs) (a : φ) (o : SO) (β' : 𝔅.T) : Prop := ∃ (L' : Ps) (M' : Mm), o = .nx L'.sl M' ∧ L'.cs = Γ1 a ∧ Sat L' (𝔅.mem β') M'
/-- it returns -/
def Kt (y : ρ → PyData) (a : ρ) (o : SO) (β' : 𝔅.T) : Prop := ∃ M', o = .rt (.d (y a)) M' ∧ ∃ R, M' = 𝔅.mem β' ++ R
/-- .. or falls off the end -/
def Kr (y : ρ → PyData) (a : ρ) (o : SO) (β' : 𝔅.T) : Prop := Kt 𝔅 y a o β' ∨ (y a = .none ∧ ∃ s M', o = .nx s M' ∧ ∃ R, M' = 𝔅.mem β' ++ R)
end
/-- the turn of a loop -/
inductive Tn (σ ρ : Type) where
  | go (s : σ)
  | br (s : σ)
  | rt (r : ρ)
/-- .. that ends by continue, break, return -/
def Ktt (𝔅 : Bas) (Γσ : σ → Cs) (y : ρ → PyData) (a : Tn σ ρ) (o : SO) (β' : 𝔅.T) : Prop := match a with
  | .go st => ∃ (L' : Ps) (M' : Mm), o = .ct L'.sl M' ∧ L'.cs = Γσ st ∧ Sat L' (𝔅.mem β') M'
  | .br st => ∃ (L' : Ps) (M' : Mm), o = .bk L'.sl M' ∧ L'.cs = Γσ st ∧ Sat L' (𝔅.mem β') M'
  | .rt r => Kt 𝔅 y r o β'
def Ks (𝔅 : Bas) (Γσ : σ → Cs) (y : ρ → PyData) (a : Tn σ ρ) (o : SO) (β' : 𝔅.T) : Prop := Ktt 𝔅 Γσ y a o β' ∨ ∃ st, a = .go st ∧ Kn 𝔅 Γσ st o β'
theorem JS.cv {b : SM} {f f' : μ φ} {K : φ → SO → 𝔅.T → Prop} (h : JS 𝔅 Γ Γx b f K) (e : f = f') : JS 𝔅 Γ Γx b f' K := e ▸ h
theorem JS.imp {b : SM} {f : μ φ} {K K' : φ → SO → 𝔅.T → Prop} (h : JS 𝔅 Γ Γx b f K) (i : ∀ a o β, K a o β → K' a o β) : JS 𝔅 Γ Γx b f K' :=
  ⟨fun Q L β M r hL S => (h.run Q L β M r hL S).imp (fun ⟨a, β', q, k⟩ => ⟨a, β', q, i _ _ _ k⟩) id⟩
theorem JS.ret {b : SM} {f : μ ρ} {y : ρ → PyData} (h : JS 𝔅 Γ Γx b f (Kt 𝔅 y)) : JS 𝔅 Γ Γx b f (Kr 𝔅 y) := h.imp fun _ _ _ k => .inl k
theorem JS.turn {b : SM} {Γσ : σ → Cs} {y : ρ → PyData} {f : μ (Tn σ ρ)} (h : JS 𝔅 Γ Γx b f (Ktt 𝔅 Γσ y)) : JS 𝔅 Γ Γx b f (Ks 𝔅 Γσ y) := h.imp fun _ _ _ k => .inl k
/-- a statement ends the others -/
def Ends_ {φ : Type} {T : Type} (K : φ → SO → T → Prop) : Prop := ∀ a o β, K a o β → ∀ f, o.seq f = o
theorem ends_kt {y : ρ → PyData} : Ends_ (Kt 𝔅 y) := fun a o β ⟨_, e, _⟩ f => by rw [e]; rfl
theorem ends_ktt {Γσ : σ → Cs} {y : ρ → PyData} : Ends_ (Ktt 𝔅 Γσ y) := fun a o β k f => by
  cases a with
  | go st => obtain ⟨_, _, e, _⟩ := k; rw [e]; rfl
  | br st => obtain ⟨_, _, e, _⟩ := k; rw [e]; rfl
  | rt r => obtain ⟨_, e, _⟩ := k; rw [e]; rfl
theorem js_end {a b : SM} {f : μ φ} {K : φ → SO → 𝔅.T → Prop} (h : JS 𝔅 Γ Γx a f K) (e : Ends_ K) : JS 𝔅 Γ Γx (sSeq a b) f K :=
  ⟨fun Q L β M r hL S => (h.run Q L β M r hL S).imp (fun ⟨x, β', q, k⟩ => ⟨x, β', q, by show K x ((a L.sl M).seq b) β'; rw [e _ _ _ k]; exact k⟩) fun ⟨x, L', M', β', q, h1, h2, h3⟩ => ⟨x, L', M', β', q, by show (a L.sl M).seq b = _; rw [h1]; rfl, h2, h3⟩⟩
theorem js_seq {a b : SM} {f : μ ψ} {g : ψ → μ φ} {Γ1 : ψ → Cs} {K : φ → SO → 𝔅.T → Prop} (h : JS 𝔅 Γ Γx a f (Kn 𝔅 Γ1)) (h2 : ∀ x, JS 𝔅 (Γ1 x) Γx b (g x) K) : JS 𝔅 Γ Γx (sSeq a b) (bd f g) K :=
  ⟨fun Q L β M r hL S => by
    rcases h.run _ L β M (WM.run_bd r) hL S with ⟨x, β1, q1, L1, M1, e1, c1, S1⟩ | ⟨x, L', M', β', q, h1, h2, h3⟩
    · rcases (h2 x).run Q L1 β1 M1 q1 c1 S1 with ⟨a', β', q, k⟩ | ⟨x', L', M', β', q, k1, k2, k3⟩
      · exact .inl ⟨a', β', q, by show K a' ((a L.sl M).seq b) β'; rw [e1]; exact k⟩
      · exact .inr ⟨x', L', M', β', q, by show (a L.sl M).seq b = _; rw [e1]; exact k1, k2, k3⟩
    · exact .inr ⟨x, L', M', β', q, by show (a L.sl M).seq b = _; rw [h1]; rfl, h2, h3⟩⟩
/-- less is known -/
theorem js_weak {b : SM} {f : μ φ} {K : φ → SO → 𝔅.T → Prop} {Δ : Cs} (w : Wk Γ Δ) (h : JS 𝔅 Δ Γx b f K) : JS 𝔅 Γ Γx b f K :=
  ⟨fun Q L β M r hL S => by
    obtain ⟨L', e1, e2, S'⟩ := sat_weak S (by rw [hL]; exact w)
    rw [← e1]
    exact h.run Q L' β M r e2 S'⟩
theorem js_nil (x : φ) {Γ1 : φ → Cs} (w : Wk Γ (Γ1 x)) : JS (μ := μ) 𝔅 Γ Γx sNil (pu x) (Kn 𝔅 Γ1) :=
  ⟨fun Q L β M r hL S => by
    obtain ⟨L', e1, e2, S'⟩ := sat_weak S (by rw [hL]; exact w)
    exact .inl ⟨x, β, WM.run_pu r, L', M, by rw [e1]; rfl, e2, S'⟩⟩
theorem js_nilS {b : SM} {f : μ φ} {K : φ → SO → 𝔅.T → Prop} (h : JS 𝔅 Γ Γx b f K) : JS 𝔅 Γ Γx (sSeq sNil b) f K := ⟨fun Q L β M r hL S => h.run Q L β M r hL S⟩
/-- what a statement leaves, told in other words -/
theorem js_then {a : SM} {f : μ ψ} {Γ1 : ψ → Cs} {Γ2 : φ → Cs} (g : ψ → φ) (h : JS 𝔅 Γ Γx a f (Kn 𝔅 Γ1)) (w : ∀ x, Wk (Γ1 x) (Γ2 (g x))) : JS 𝔅 Γ Γx a (bd f fun x => pu (g x)) (Kn 𝔅 Γ2) :=
  ⟨fun Q L β M r hL S => (h.run _ L β M (WM.run_bd r) hL S).imp (fun ⟨x, β1, q1, L1, M1, e1, c1, S1⟩ => by
    obtain ⟨L', e2, e3, S'⟩ := sat_weak S1 (by rw [c1]; exact w x)
    exact ⟨g x, β1, WM.run_pu q1, L', M1, by rw [e1, e2], e3, S'⟩) id⟩
/-- .. at the end of a turn -/
theorem js_go {a : SM} {f : μ ψ} {Γ1 : ψ → Cs} {Γσ : σ → Cs} {y : ρ → PyData} (g : ψ → σ) (h : JS 𝔅 Γ Γx a f (Kn 𝔅 Γ1)) (w : ∀ x, Wk (Γ1 x) (Γσ (g x))) : JS 𝔅 Γ Γx a (bd f fun x => pu (.go (g x))) (Ks 𝔅 Γσ y) :=
  ⟨fun Q L β M r hL S => (h.run _ L β M (WM.run_bd r) hL S).imp (fun ⟨x, β1, q1, L1, M1, e1, c1, S1⟩ => by
    obtain ⟨L', e2, e3, S'⟩ := sat_weak S1 (by rw [c1]; exact w x)
    exact ⟨.go (g x), β1, WM.run_pu q1, .inr ⟨g x, rfl, L', M1, by rw [e1, e2], e3, S'⟩⟩) id⟩
/-- a block that falls off the end of a def -/
theorem js_fall {a : SM} {f : μ ψ} {Γ1 : ψ → Cs} {y : ρ → PyData} (r0 : ρ) (hr : y r0 = .none) (h : JS 𝔅 Γ Γx a f (Kn 𝔅 Γ1)) : JS 𝔅 Γ Γx a (bd f fun _ => pu r0) (Kr 𝔅 y) :=
  ⟨fun Q L β M r hL S => (h.run _ L β M (WM.run_bd r) hL S).imp (fun ⟨x, β1, q1, L1, M1, e1, c1, S1⟩ => ⟨r0, β1, WM.run_pu q1, .inr ⟨hr, _, _, e1, S1.pre⟩⟩) id⟩
theorem js_cont (st : σ) {Γσ : σ → Cs} {y : ρ → PyData} (w : Wk Γ (Γσ st)) : JS (μ := μ) 𝔅 Γ Γx sCnt (pu (.go st)) (Ktt 𝔅 Γσ y) :=
  ⟨fun Q L β M r hL S => by
    obtain ⟨L', e2, e3, S'⟩ := sat_weak S (by rw [hL]; exact w)
    exact .inl ⟨.go st, β, WM.run_pu r, L', M, by rw [e2]; rfl, e3, S'⟩⟩
theorem js_break (st : σ) {Γσ : σ → Cs} {y : ρ → PyData} (w : Wk Γ (Γσ st)) : JS (μ := μ) 𝔅 Γ Γx sBrk (pu (.br st)) (Ktt 𝔅 Γσ y) :=
  ⟨fun Q L β M r hL S => by
    obtain ⟨L', e2, e3, S'⟩ := sat_weak S (by rw [hL]; exact w)
    exact .inl ⟨.br st, β, WM.run_pu r, L', M, by rw [e2]; rfl, e3, S'⟩⟩
/-! ### expressions at a block's top -/
/-- an expression, with nothing at hand: its errors leave by Γx -/
theorem jx_top {m : EM} {f : μ α} {sp : α → Sp} (h : JX 𝔅 Γ m f sp) (x : XO μ Γ Γx) {Q : Res α → Prop} {L : Ps} {β : 𝔅.T} {M : Mm} (r : WM.run f Q) (hL : L.cs = Γ) (S : Sat L (𝔅.mem β) M) :
    (∃ a β' w M', Q (.ok a) ∧ m L.sl M = .ok w M' ∧ Sat (L ++ [(sp a, some w)]) (𝔅.mem β') M') ∨ ∃ e M' β' L', Q (.er e) ∧ m L.sl M = .er e M' ∧ L'.sl = L.sl ∧ L'.cs = Γx ∧ Sat L' (𝔅.mem β') M' := by
  rcases x with hn | w
  · have := h.run _ L [] β M (NE.ne r) hL (by rw [List.append_nil]; exact S)
    cases em : m L.sl M with
    | ok w M' =>
      rw [em] at this
      obtain ⟨a, β', q, S'⟩ := this
      exact .inl ⟨a, β', w, M', q, rfl, S'⟩
    | er e M' => rw [em] at this; exact this.1.elim
    | bad => rw [em] at this; exact this.elim
  · have := h.run Q L [] β M r hL (by rw [List.append_nil]; exact S)
    cases em : m L.sl M with
    | ok w M' =>
      rw [em] at this
      obtain ⟨a, β', q, S'⟩ := this
      exact .inl ⟨a, β', w, M', q, rfl, S'⟩
    | er e M' =>
      rw [em] at this
      obtain ⟨q, β', S'⟩ := this
      rw [List.append_nil] at S'
      obtain ⟨L', e1, e2, S2⟩ := sat_weak S' (by rw [hL]; exact w)
      exact .inr ⟨e, M', β', L', q, rfl, e1, e2, S2⟩
    | bad => rw [em] at this; exact this.elim
theorem jt_top {m : TM} {f : μ Bool} (h : JT 𝔅 Γ m f) (x : XO μ Γ Γx) {Q : Res Bool → Prop} {L : Ps} {β : 𝔅.T} {M : Mm} (r : WM.run f Q) (hL : L.cs = Γ) (S : Sat L (𝔅.mem β) M) :
    (∃ a β' M', Q (.ok a) ∧ m L.sl M = .ok a M' ∧ Sat L (𝔅.mem β') M') ∨ ∃ e M' β' L', Q (.er e) ∧ m L.sl M = .er e M' ∧ L'.sl = L.sl ∧ L'.cs = Γx ∧ Sat L' (𝔅.mem β') M' := by
  rcases x with hn | w
  · have := h.run _ L [] β M (NE.ne r) hL (by rw [List.append_nil]; exact S)
    cases em : m L.sl M with
    | ok w M' =>
      rw [em] at this
      obtain ⟨β', q, S'⟩ := this
      rw [List.append_nil] at S'
      exact .inl ⟨w, β', M', q, rfl, S'⟩
    | er e M' => rw [em] at this; exact this.1.elim
    | bad => rw [em] at this; exact this.elim
  · have := h.run Q L [] β M r hL (by rw [List.append_nil]; exact S)
    cases em : m L.sl M with
    | ok w M' =>
      rw [em] at this
      obtain ⟨β', q, S'⟩ := this
      rw [List.append_nil] at S'
      exact .inl ⟨w, β', M', q, rfl, S'⟩
    | er e M' =>
      rw [em] at this
      obtain ⟨q, β', S'⟩ := this
      rw [List.append_nil] at S'
      obtain ⟨L', e1, e2, S2⟩ := sat_weak S' (by rw [hL]; exact w)
      exact .inr ⟨e, M', β', L', q, rfl, e1, e2, S2⟩
    | bad => rw [em] at this; exact this.elim
theorem ja_top {m : AM} {f : μ α} {sps : α → List Sp} (h : JA 𝔅 Γ m f sps) (x : XO μ Γ Γx) {Q : Res α → Prop} {L : Ps} {β : 𝔅.T} {M : Mm} (r : WM.run f Q) (hL : L.cs = Γ) (S : Sat L (𝔅.mem β) M) :
    (∃ a β' vs M', Q (.ok a) ∧ m L.sl M = .ok vs M' ∧ vs.length = (sps a).length ∧ Sat (L ++ zs (sps a) vs) (𝔅.mem β') M') ∨ ∃ e M' β' L', Q (.er e) ∧ m L.sl M = .er e M' ∧ L'.sl = L.sl ∧ L'.cs = Γx ∧ Sat L' (𝔅.mem β') M' := by
  rcases x with hn | w
  · have := h.run _ L [] β M (NE.ne r) hL (by rw [List.append_nil]; exact S)
    cases em : m L.sl M with
    | ok w M' =>
      rw [em] at this
      obtain ⟨a, β', q, hl, S'⟩ := this
      exact .inl ⟨a, β', w, M', q, rfl, hl, S'⟩
    | er e M' => rw [em] at this; exact this.1.elim
    | bad => rw [em] at this; exact this.elim
  · have := h.run Q L [] β M r hL (by rw [List.append_nil]; exact S)
    cases em : m L.sl M with
    | ok w M' =>
      rw [em] at this
      obtain ⟨a, β', q, hl, S'⟩ := this
      exact .inl ⟨a, β', w, M', q, rfl, hl, S'⟩
    | er e M' =>
      rw [em] at this
      obtain ⟨q, β', S'⟩ := this
      rw [List.append_nil] at S'
      obtain ⟨L', e1, e2, S2⟩ := sat_weak S' (by rw [hL]; exact w)
      exact .inr ⟨e, M', β', L', q, rfl, e1, e2, S2⟩
    | bad => rw [em] at this; exact this.elim
theorem xo_ne [h : NE μ] : XO μ Γ Γx := .inl h
theorem js_asg {i : Nat} {m : EM} {f : μ α} {sp : α → Sp} (h : JX 𝔅 Γ m f sp) (x : XO μ Γ Γx) : JS 𝔅 Γ Γx (sAsg m (gN i)) f (Kn 𝔅 fun a => Γ.set i (sp a)) :=
  ⟨fun Q L β M r hL S => by
    rcases jx_top h x r hL S with ⟨a, β', w, M', q, e, S'⟩ | ⟨e, M', β', L', q, em, e1, e2, S2⟩
    · have S2 : Sat (L.set i (sp a, some w) ++ []) (𝔅.mem β') M' := Sat.set S' i
      rw [List.append_nil] at S2
      exact .inl ⟨a, β', q, L.set i (sp a, some w), M', by show (m L.sl M).asg L.sl (gN i) = _; rw [e, set_sl]; rfl, by rw [set_cs, hL], S2⟩
    · exact .inr ⟨e, L', M', β', q, by show (m L.sl M).asg L.sl (gN i) = _; rw [em, e1]; rfl, e2, S2⟩⟩
/-- through a target of names -/
theorem js_asgT {is : List Nat} {m : EM} {g : GM} {f : μ α} {x : α → PyData} {Γ1 : α → Cs} (h : JX 𝔅 Γ m f fun a => .v (x a)) (hg : ∀ a, JG Γ g is (x a) (Γ1 a)) (xo : XO μ Γ Γx) : JS 𝔅 Γ Γx (sAsg m g) f (Kn 𝔅 Γ1) :=
  ⟨fun Q L β M r hL S => by
    rcases jx_top h xo r hL S with ⟨a, β', w, M', q, e, S'⟩ | ⟨e, M', β', L', q, em, e1, e2, S2⟩
    · have s : some w = some (Val.d (x a)) := S'.ok (.v (x a), some w) (by simp)
      cases s
      obtain ⟨L', e1, c1, S1, _, _⟩ := (hg a).run L [] _ M' hL (by rw [List.append_nil]; exact S'.left)
      rw [List.append_nil] at S1
      exact .inl ⟨a, β', q, L', M', by show (m L.sl M).asg L.sl g = _; rw [e]; show (match g (.d (x a)) L.sl M' with | some (s', M') => SO.nx s' M' | none => .bad) = _; rw [e1], c1, S1⟩
    · exact .inr ⟨e, L', M', β', q, by show (m L.sl M).asg L.sl g = _; rw [em, e1]; rfl, e2, S2⟩⟩
def setsC (Γ : Cs) : List (Nat × Sp) → Cs
  | [] => Γ
  | p :: r => setsC (Γ.set p.1 p.2) r
theorem sets_ok {B M : Mm} : ∀ (is : List Nat) (sps : List Sp) (vs : List Val) (L : Ps), vs.length = sps.length → is.length = sps.length → Sat (L ++ zs sps vs) B M →
    ∃ L' : Ps, L'.sl = (is.zip vs).foldl (fun s p => s.set p.1 (some p.2)) L.sl ∧ L'.cs = setsC L.cs (is.zip sps) ∧ Sat L' B M
  | [], [], [], L, _, _, S => ⟨L, rfl, rfl, by rw [show L ++ zs [] [] = L from List.append_nil _] at S; exact S⟩
  | i :: is, sp :: sps, v :: vs, L, h1, h2, S => by
    rw [zs_cons] at S
    have S2 := S.set i
    obtain ⟨L', e1, e2, S'⟩ := sets_ok is sps vs (L.set i (sp, some v)) (by simpa using h1) (by simpa using h2) S2
    exact ⟨L', by rw [e1, set_sl]; rfl, by rw [e2, set_cs]; rfl, S'⟩
  | [], _ :: _, _, _, _, h, _ => by cases h
  | _ :: _, [], _, _, _, h, _ => by cases h
  | _, _ :: _, [], _, h, _, _ => by cases h
  | _, [], _ :: _, _, h, _, _ => by cases h
theorem js_par {is : List Nat} {ms : AM} {f : μ α} {sps : α → List Sp} (h : JA 𝔅 Γ ms f sps) (x : XO μ Γ Γx) (hl : ∀ a, is.length = (sps a).length := by intro _; rfl) : JS 𝔅 Γ Γx (sPar is ms) f (Kn 𝔅 fun a => setsC Γ (is.zip (sps a))) :=
  ⟨fun Q L β M r hL S => by
    rcases ja_top h x r hL S with ⟨a, β', vs, M', q, e, hv, S'⟩ | ⟨e, M', β', L', q, em, e1, e2, S2⟩
    · obtain ⟨L', e1, e2, S2⟩ := sets_ok is (sps a) vs L hv (hl a) S'
      refine .inl ⟨a, β', q, L', M', ?_, by rw [e2, hL], S2⟩
      show (ms L.sl M).bindS L.sl _ = _
      rw [e]
      show (if vs.length = is.length then SO.nx _ M' else .bad) = _
      rw [if_pos (by rw [hv, hl a]), e1]
    · exact .inr ⟨e, L', M', β', q, by show (ms L.sl M).bindS L.sl _ = _; rw [em, e1]; rfl, e2, S2⟩⟩
/-- a, b, c = x, y, z: names alone -/
def gNs : List Nat → GMs
  | [] => gsNil
  | i :: is => gsCons (gN i) (gNs is)
theorem gNs_ok : ∀ (is : List Nat) (vs : List Val) (s : Sl) (M : Mm), vs.length = is.length → gNs is vs s M = some ((is.zip vs).foldl (fun s p => s.set p.1 (some p.2)) s, M)
  | [], [], _, _, _ => rfl
  | i :: is, v :: vs, s, M, h => by
    show ((gN i v s M).bind fun p => gNs is vs p.1 p.2) = _
    exact gNs_ok is vs _ M (by simpa using h)
  | [], _ :: _, _, _, h => by cases h
  | _ :: _, [], _, _, h => by cases h
theorem js_tup {n : Nat} (is : List Nat) {g : GMs} {ms : AM} {f : μ α} {sps : α → List Sp} (h : JA 𝔅 Γ ms f sps) (x : XO μ Γ Γx) (hg : g = gNs is := by rfl) (hl : ∀ a, is.length = (sps a).length := by intro _; rfl) (hn : is.length = n := by rfl) (hn2 : n ≤ 1000 := by decide) :
    JS 𝔅 Γ Γx (sTup n ms g) f (Kn 𝔅 fun a => setsC Γ (is.zip (sps a))) :=
  ⟨fun Q L β M r hL S => by
    subst hg
    rcases ja_top h x r hL S with ⟨a, β', vs, M', q, e, hv, S'⟩ | ⟨e, M', β', L', q, em, e1, e2, S2⟩
    · obtain ⟨L', e1, e2, S2⟩ := sets_ok is (sps a) vs L hv (hl a) S'
      refine .inl ⟨a, β', q, L', M', ?_, by rw [e2, hL], S2⟩
      show (ms L.sl M).bindS L.sl _ = _
      rw [e]
      have hvi : vs.length = is.length := by rw [hv, hl a]
      show (if vs.length = n ∧ n ≤ 1000 then match gNs is vs L.sl M' with
        | some (s', M') => SO.nx s' M'
        | none => .bad else .bad) = _
      rw [if_pos ⟨by rw [hvi, hn], hn2⟩, gNs_ok is vs L.sl M' hvi, e1]
    · exact .inr ⟨e, L', M', β', q, by show (ms L.sl M).bindS L.sl _ = _; rw [em, e1]; rfl, e2, S2⟩⟩
theorem js_ret {m : EM} {f : μ ρ} {y : ρ → PyData} (h : JX 𝔅 Γ m f fun r => .v (y r)) (x : XO μ Γ Γx) : JS 𝔅 Γ Γx (sRet m) f (Kt 𝔅 y) :=
  ⟨fun Q L β M r hL S => by
    rcases jx_top h x r hL S with ⟨a, β', w, M', q, e, S'⟩ | ⟨e, M', β', L', q, em, e1, e2, S2⟩
    · have s : some w = some (Val.d (y a)) := S'.ok (.v (y a), some w) (by simp)
      cases s
      exact .inl ⟨a, β', q, M', by show (m L.sl M).bindS L.sl _ = _; rw [e]; rfl, S'.pre⟩
    · exact .inr ⟨e, L', M', β', q, by show (m L.sl M).bindS L.sl _ = _; rw [em, e1]; rfl, e2, S2⟩⟩
theorem js_retN (r0 : ρ) {y : ρ → PyData} (hr : y r0 = .none := by rfl) : JS (μ := μ) 𝔅 Γ Γx sRetN (pu r0) (Kt 𝔅 y) :=
  ⟨fun Q L β M r hL S => .inl ⟨r0, β, WM.run_pu r, M, by rw [hr]; rfl, S.pre⟩⟩
theorem js_retL {m : EM} {f : μ ρ} {y : ρ → PyData} {Γσ : σ → Cs} (h : JX 𝔅 Γ m f fun r => .v (y r)) (x : XO μ Γ Γx) : JS 𝔅 Γ Γx (sRet m) (bd f fun r => pu (Tn.rt r)) (Ktt 𝔅 Γσ y) :=
  ⟨fun Q L β M r hL S => ((js_ret h x).run _ L β M (WM.run_bd r) hL S).imp (fun ⟨a, β', q, k⟩ => ⟨.rt a, β', WM.run_pu q, k⟩) id⟩
theorem js_retNL (r0 : ρ) {y : ρ → PyData} {Γσ : σ → Cs} (hr : y r0 = .none := by rfl) : JS (μ := μ) 𝔅 Γ Γx sRetN (pu (Tn.rt r0)) (Ktt 𝔅 Γσ y) :=
  ⟨fun Q L β M r hL S => .inl ⟨.rt r0, β, WM.run_pu r, M, by rw [hr]; rfl, S.pre⟩⟩
theorem js_drop {m : EM} {f : μ α} {sp : α → Sp} (h : JX 𝔅 Γ m f sp) (x : XO μ Γ Γx) : JS 𝔅 Γ Γx (sDrop m) f (Kn 𝔅 fun _ => Γ) :=
  ⟨fun Q L β M r hL S => by
    rcases jx_top h x r hL S with ⟨a, β', w, M', q, e, S'⟩ | ⟨e, M', β', L', q, em, e1, e2, S2⟩
    · exact .inl ⟨a, β', q, L, M', by show (m L.sl M).bindS L.sl _ = _; rw [e]; rfl, hL, S'.left⟩
    · exact .inr ⟨e, L', M', β', q, by show (m L.sl M).bindS L.sl _ = _; rw [em, e1]; rfl, e2, S2⟩⟩
theorem js_if {c : TM} {a b : SM} {fc : μ Bool} {fa fb : μ φ} {K : φ → SO → 𝔅.T → Prop} (hc : JT 𝔅 Γ c fc) (x : XO μ Γ Γx) (ha : JS 𝔅 Γ Γx a fa K) (hb : JS 𝔅 Γ Γx b fb K) : JS 𝔅 Γ Γx (sIf c a b) (bd fc fun k => if k = true then fa else fb) K :=
  ⟨fun Q L β M r hL S => by
    rcases jt_top hc x (WM.run_bd r) hL S with ⟨k, β', M', q, e, S'⟩ | ⟨e, M', β', L', q, em, e1, e2, S2⟩
    · have hs : sIf c a b L.sl M = if k = true then a L.sl M' else b L.sl M' := by show (c L.sl M).bindS L.sl _ = _; rw [e]; rfl
      rw [hs]
      cases k with
      | true => exact ha.run Q L β' M' q hL S'
      | false => exact hb.run Q L β' M' q hL S'
    · exact .inr ⟨e, L', M', β', q, by show (c L.sl M).bindS L.sl _ = _; rw [em, e1]; rfl, e2, S2⟩⟩
/-- if, and what follows it -/
theorem js_ifS {c : TM} {a b r : SM} {fc : μ Bool} {fa fb : μ φ} {K : φ → SO → 𝔅.T → Prop} (hc : JT 𝔅 Γ c fc) (x : XO μ Γ Γx) (ha : JS 𝔅 Γ Γx (sSeq a r) fa K) (hb : JS 𝔅 Γ Γx (sSeq b r) fb K) : JS 𝔅 Γ Γx (sSeq (sIf c a b) r) (bd fc fun k => if k = true then fa else fb) K :=
  ⟨fun Q L β M w hL S => by
    rcases jt_top hc x (WM.run_bd w) hL S with ⟨k, β', M', q, e, S'⟩ | ⟨e, M', β', L', q, em, e1, e2, S2⟩
    · have hs : sSeq (sIf c a b) r L.sl M = if k = true then sSeq a r L.sl M' else sSeq b r L.sl M' := by
        show ((c L.sl M).bindS L.sl _).seq r = _
        rw [e]
        cases k <;> rfl
      rw [hs]
      cases k with
      | true => exact ha.run Q L β' M' q hL S'
      | false => exact hb.run Q L β' M' q hL S'
    · exact .inr ⟨e, L', M', β', q, by show ((c L.sl M).bindS L.sl _).seq r = _; rw [em, e1]; rfl, e2, S2⟩⟩
/-- (a; b); c is a; (b; c) -/
theorem js_assoc {a b c : SM} {f : μ φ} {K : φ → SO → 𝔅.T → Prop} (h : JS 𝔅 Γ Γx (sSeq a (sSeq b c)) f K) : JS 𝔅 Γ Γx (sSeq (sSeq a b) c) f K := by
  have e : sSeq (sSeq a b) c = sSeq a (sSeq b c) := by
    funext s M
    show ((a s M).seq b).seq c = (a s M).seq (sSeq b c)
    cases a s M <;> rfl
  rw [e]
  exact h
end Zm
namespace Zm
open PySem PySem.Spec PyProof.Rows L2
open WM (pu bd)
open LO (lf)
variable {𝔅 : Bas} {μ : Type → Type} [LO μ] {α β γ δ τ ρ σ φ ψ κ : Type} {Γ Γx : Cs}
/-! ### loops -/
inductive Fi (σ ρ : Type) where
  | dn (s : σ)
  | rt (r : ρ)
def fiE (d : σ → μ φ) (r : ρ → μ φ) : Fi σ ρ → μ φ
  | .dn s => d s
  | .rt x => r x
def forT (b : σ → τ → μ (Tn σ ρ)) : List τ → σ → μ (Fi σ ρ)
  | [], s => pu (.dn s)
  | x :: xs, s => bd (b s x) fun t => match t with
    | .go s' => forT b xs s'
    | .br s' => pu (.dn s')
    | .rt r => pu (.rt r)
def forM' (b : σ → τ → μ σ) : List τ → σ → μ σ
  | [], s => pu s
  | x :: xs, s => bd (b s x) fun s' => forM' b xs s'
/-- how a turn without break and return ends -/
def Kg (𝔅 : Bas) (Γσ : σ → Cs) (st : σ) (o : SO) (β' : 𝔅.T) : Prop := ∃ (L' : Ps) (M' : Mm), (o = .nx L'.sl M' ∨ o = .ct L'.sl M') ∧ L'.cs = Γσ st ∧ Sat L' (𝔅.mem β') M'
def Kgt (𝔅 : Bas) (Γσ : σ → Cs) (st : σ) (o : SO) (β' : 𝔅.T) : Prop := ∃ (L' : Ps) (M' : Mm), o = .ct L'.sl M' ∧ L'.cs = Γσ st ∧ Sat L' (𝔅.mem β') M'
theorem ends_kgt {Γσ : σ → Cs} : Ends_ (Kgt 𝔅 Γσ) := fun a o β ⟨_, _, e, _⟩ f => by rw [e]; rfl
theorem JS.goes {b : SM} {Γσ : σ → Cs} {f : μ σ} (h : JS 𝔅 Γ Γx b f (Kgt 𝔅 Γσ)) : JS 𝔅 Γ Γx b f (Kg 𝔅 Γσ) := h.imp fun _ _ _ ⟨L', M', e, c, S⟩ => ⟨L', M', .inr e, c, S⟩
theorem js_goG {a : SM} {f : μ ψ} {Γ1 : ψ → Cs} {Γσ : σ → Cs} (g : ψ → σ) (h : JS 𝔅 Γ Γx a f (Kn 𝔅 Γ1)) (w : ∀ x, Wk (Γ1 x) (Γσ (g x))) : JS 𝔅 Γ Γx a (bd f fun x => pu (g x)) (Kg 𝔅 Γσ) :=
  (js_then g h w).imp fun _ _ _ ⟨L', M', e, c, S⟩ => ⟨L', M', .inl e, c, S⟩
theorem js_contG (st : σ) {Γσ : σ → Cs} (w : Wk Γ (Γσ st)) : JS (μ := μ) 𝔅 Γ Γx sCnt (pu st) (Kgt 𝔅 Γσ) :=
  ⟨fun Q L β M r hL S => by
    obtain ⟨L', e2, e3, S'⟩ := sat_weak S (by rw [hL]; exact w)
    exact .inl ⟨st, β, WM.run_pu r, L', M, by rw [e2]; rfl, e3, S'⟩⟩
theorem forG_run {g : GM} {b : SM} {is : List Nat} {enc : τ → PyData} {Γσ : σ → Cs} {Γb : σ → τ → Cs} {fb : σ → τ → μ σ} (hg : ∀ st x, JG (Γσ st) g is (enc x) (Γb st x)) (hb : ∀ st x, JS 𝔅 (Γb st x) Γx b (fb st x) (Kg 𝔅 Γσ)) :
    ∀ (xs : List τ) (st : σ) (Q : Res σ → Prop) (L : Ps) (β : 𝔅.T) (M : Mm), WM.run (forM' fb xs st) Q → L.cs = Γσ st → Sat L (𝔅.mem β) M →
      (∃ a β', Q (.ok a) ∧ Kn 𝔅 Γσ a (forL g b (dl enc xs) L.sl M) β') ∨ ErS 𝔅 Γx (fun e => Q (.er e)) (forL g b (dl enc xs) L.sl M)
  | [], st, Q, L, β, M, r, hL, S => .inl ⟨st, β, WM.run_pu r, L, M, rfl, hL, S⟩
  | x :: xs, st, Q, L, β, M, r, hL, S => by
    obtain ⟨L1, e1, c1, S1, _, _⟩ := (hg st x).run L [] _ M hL (by rw [List.append_nil]; exact S)
    rw [List.append_nil] at S1
    have hf : forL g b (dl enc (x :: xs)) L.sl M = match b L1.sl M with
        | .nx s2 M2 => forL g b (dl enc xs) s2 M2
        | .ct s2 M2 => forL g b (dl enc xs) s2 M2
        | .bk s2 M2 => .nx s2 M2
        | o => o := by
      show (match g (.d (enc x)) L.sl M with | some (s1, M1) => _ | none => _) = _
      rw [e1]
      rfl
    rw [hf]
    rcases (hb st x).run _ L1 β M (WM.run_bd r) c1 S1 with ⟨a, β', q, L', M', eb, c', S'⟩ | ⟨e, L', M', β', q, eb, c', S'⟩
    · have ih := forG_run hg hb xs a Q L' β' M' q c' S'
      rcases eb with eb | eb <;> rw [eb] <;> exact ih
    · rw [eb]
      exact .inr ⟨e, L', M', β', q, rfl, c', S'⟩
theorem ji_top {m : AM} {f : μ (List τ)} {enc : τ → PyData} (h : JI 𝔅 Γ m f enc) (x : XO μ Γ Γx) {Q : Res (List τ) → Prop} {L : Ps} {β : 𝔅.T} {M : Mm} (r : WM.run f Q) (hL : L.cs = Γ) (S : Sat L (𝔅.mem β) M) :
    (∃ a β' M', Q (.ok a) ∧ m L.sl M = .ok (dl enc a) M' ∧ Sat L (𝔅.mem β') M') ∨ ∃ e M' β' L', Q (.er e) ∧ m L.sl M = .er e M' ∧ L'.sl = L.sl ∧ L'.cs = Γx ∧ Sat L' (𝔅.mem β') M' := by
  rcases x with hn | w
  · have := h.run _ L [] β M (NE.ne r) hL (by rw [List.append_nil]; exact S)
    cases em : m L.sl M with
    | ok w M' =>
      rw [em] at this
      obtain ⟨a, β', q, rfl, S'⟩ := this
      rw [List.append_nil] at S'
      exact .inl ⟨a, β', M', q, rfl, S'⟩
    | er e M' => rw [em] at this; exact this.1.elim
    | bad => rw [em] at this; exact this.elim
  · have := h.run Q L [] β M r hL (by rw [List.append_nil]; exact S)
    cases em : m L.sl M with
    | ok w M' =>
      rw [em] at this
      obtain ⟨a, β', q, rfl, S'⟩ := this
      rw [List.append_nil] at S'
      exact .inl ⟨a, β', M', q, rfl, S'⟩
    | er e M' =>
      rw [em] at this
      obtain ⟨q, β', S'⟩ := this
      rw [List.append_nil] at S'
      obtain ⟨L', e1, e2, S2⟩ := sat_weak S' (by rw [hL]; exact w)
      exact .inr ⟨e, M', β', L', q, rfl, e1, e2, S2⟩
    | bad => rw [em] at this; exact this.elim
/-- for g in it, with what the turns hand on -/
theorem js_for {it : AM} {g : GM} {b : SM} {is : List Nat} {enc : τ → PyData} {fi : μ (List τ)} {Γσ : σ → Cs} {Γb : σ → τ → Cs} {fb : σ → τ → μ σ} (st : σ) (hi : JI 𝔅 Γ it fi enc) (x : XO μ Γ Γx) (w : Wk Γ (Γσ st)) (hg : ∀ st x, JG (Γσ st) g is (enc x) (Γb st x)) (hb : ∀ st x, JS 𝔅 (Γb st x) Γx b (fb st x) (Kg 𝔅 Γσ)) :
    JS 𝔅 Γ Γx (sFor it g b) (bd fi fun xs => forM' fb xs st) (Kn 𝔅 Γσ) :=
  ⟨fun Q L β M r hL S => by
    rcases ji_top hi x (WM.run_bd r) hL S with ⟨a, β', M', q, em, S'⟩ | ⟨e, M', β', L', q, em, e1, e2, S2⟩
    · have hs : sFor it g b L.sl M = forL g b (dl enc a) L.sl M' := by show (it L.sl M).bindS L.sl _ = _; rw [em]; rfl
      rw [hs]
      obtain ⟨L', e1, c1, S1⟩ := sat_weak S' (by rw [hL]; exact w)
      rw [← e1]
      exact forG_run hg hb a st Q L' β' M' q c1 S1
    · exact .inr ⟨e, L', M', β', q, by show (it L.sl M).bindS L.sl _ = _; rw [em, e1]; rfl, e2, S2⟩⟩
/-- how a loop ends -/
def Kf (𝔅 : Bas) (Γσ : σ → Cs) (y : ρ → PyData) (a : Fi σ ρ) (o : SO) (β' : 𝔅.T) : Prop := match a with
  | .dn st => Kn 𝔅 Γσ st o β'
  | .rt r => Kt 𝔅 y r o β'
theorem forT_run {g : GM} {b : SM} {is : List Nat} {enc : τ → PyData} {Γσ : σ → Cs} {y : ρ → PyData} {Γb : σ → τ → Cs} {fb : σ → τ → μ (Tn σ ρ)} (hg : ∀ st x, JG (Γσ st) g is (enc x) (Γb st x)) (hb : ∀ st x, JS 𝔅 (Γb st x) Γx b (fb st x) (Ks 𝔅 Γσ y)) :
    ∀ (xs : List τ) (st : σ) (Q : Res (Fi σ ρ) → Prop) (L : Ps) (β : 𝔅.T) (M : Mm), WM.run (forT fb xs st) Q → L.cs = Γσ st → Sat L (𝔅.mem β) M →
      (∃ a β', Q (.ok a) ∧ Kf 𝔅 Γσ y a (forL g b (dl enc xs) L.sl M) β') ∨ ErS 𝔅 Γx (fun e => Q (.er e)) (forL g b (dl enc xs) L.sl M)
  | [], st, Q, L, β, M, r, hL, S => .inl ⟨.dn st, β, WM.run_pu r, L, M, rfl, hL, S⟩
  | x :: xs, st, Q, L, β, M, r, hL, S => by
    obtain ⟨L1, e1, c1, S1, _, _⟩ := (hg st x).run L [] _ M hL (by rw [List.append_nil]; exact S)
    rw [List.append_nil] at S1
    have hf : forL g b (dl enc (x :: xs)) L.sl M = match b L1.sl M with
        | .nx s2 M2 => forL g b (dl enc xs) s2 M2
        | .ct s2 M2 => forL g b (dl enc xs) s2 M2
        | .bk s2 M2 => .nx s2 M2
        | o => o := by
      show (match g (.d (enc x)) L.sl M with | some (s1, M1) => _ | none => _) = _
      rw [e1]
      rfl
    rw [hf]
    rcases (hb st x).run _ L1 β M (WM.run_bd r) c1 S1 with ⟨a, β', q, k⟩ | ⟨e, L', M', β', q, eb, c', S'⟩
    · dsimp only at q
      rcases k with k | ⟨s', rfl, L', M', eb, c', S'⟩
      · cases a with
        | go s' =>
          obtain ⟨L', M', eb, c', S'⟩ := k
          rw [eb]
          exact forT_run hg hb xs s' Q L' β' M' q c' S'
        | br s' =>
          obtain ⟨L', M', eb, c', S'⟩ := k
          rw [eb]
          exact .inl ⟨.dn s', β', WM.run_pu q, L', M', rfl, c', S'⟩
        | rt r' =>
          obtain ⟨M', eb, hp⟩ := k
          rw [eb]
          exact .inl ⟨.rt r', β', WM.run_pu q, M', rfl, hp⟩
      · rw [eb]
        exact forT_run hg hb xs s' Q L' β' M' q c' S'
    · rw [eb]
      exact .inr ⟨e, L', M', β', q, rfl, c', S'⟩
theorem js_forT {it : AM} {g : GM} {b : SM} {is : List Nat} {enc : τ → PyData} {fi : μ (List τ)} {Γσ : σ → Cs} {y : ρ → PyData} {Γb : σ → τ → Cs} {fb : σ → τ → μ (Tn σ ρ)} (st : σ) (hi : JI 𝔅 Γ it fi enc) (x : XO μ Γ Γx) (w : Wk Γ (Γσ st)) (hg : ∀ st x, JG (Γσ st) g is (enc x) (Γb st x)) (hb : ∀ st x, JS 𝔅 (Γb st x) Γx b (fb st x) (Ks 𝔅 Γσ y)) :
    JS 𝔅 Γ Γx (sFor it g b) (bd fi fun xs => forT fb xs st) (Kf 𝔅 Γσ y) :=
  ⟨fun Q L β M r hL S => by
    rcases ji_top hi x (WM.run_bd r) hL S with ⟨a, β', M', q, em, S'⟩ | ⟨e, M', β', L', q, em, e1, e2, S2⟩
    · have hs : sFor it g b L.sl M = forL g b (dl enc a) L.sl M' := by show (it L.sl M).bindS L.sl _ = _; rw [em]; rfl
      rw [hs]
      obtain ⟨L', e1, c1, S1⟩ := sat_weak S' (by rw [hL]; exact w)
      rw [← e1]
      exact forT_run hg hb a st Q L' β' M' q c1 S1
    · exact .inr ⟨e, L', M', β', q, by show (it L.sl M).bindS L.sl _ = _; rw [em, e1]; rfl, e2, S2⟩⟩
/-- a loop, and what follows it -/
theorem js_seqF {a b : SM} {f : μ (Fi σ ρ)} {Γσ : σ → Cs} {y : ρ → PyData} {g : σ → μ φ} {K : φ → SO → 𝔅.T → Prop} (inj : ρ → φ) (i : ∀ r o β, Kt 𝔅 y r o β → K (inj r) o β) (h : JS 𝔅 Γ Γx a f (Kf 𝔅 Γσ y)) (h2 : ∀ x, JS 𝔅 (Γσ x) Γx b (g x) K) :
    JS 𝔅 Γ Γx (sSeq a b) (bd f (fiE g fun r => pu (inj r))) K :=
  ⟨fun Q L β M r hL S => by
    rcases h.run _ L β M (WM.run_bd r) hL S with ⟨x, β1, q1, k⟩ | ⟨x, L', M', β', q, h1, h2, h3⟩
    · dsimp only at q1
      cases x with
      | dn st =>
        obtain ⟨L1, M1, e1, c1, S1⟩ := k
        have hs : sSeq a b L.sl M = b L1.sl M1 := by show (a L.sl M).seq b = _; rw [e1]; rfl
        rw [hs]
        exact (h2 st).run Q L1 β1 M1 q1 c1 S1
      | rt r' =>
        have hs : sSeq a b L.sl M = a L.sl M := by
          obtain ⟨M', e, _⟩ := k
          show (a L.sl M).seq b = _
          rw [e]; rfl
        rw [hs]
        exact .inl ⟨inj r', β1, WM.run_pu q1, i r' _ _ k⟩
    · exact .inr ⟨x, L', M', β', q, by show (a L.sl M).seq b = _; rw [h1]; rfl, h2, h3⟩⟩
/-- a loop at the end of a block -/
theorem js_lastF {a : SM} {f : μ (Fi σ ρ)} {Γσ : σ → Cs} {y : ρ → PyData} {K : φ → SO → 𝔅.T → Prop} (inj : ρ → φ) (i : ∀ r o β, Kt 𝔅 y r o β → K (inj r) o β) (d : σ → φ) (j : ∀ st o β, Kn 𝔅 Γσ st o β → K (d st) o β) (h : JS 𝔅 Γ Γx a f (Kf 𝔅 Γσ y)) :
    JS 𝔅 Γ Γx a (bd f (fiE (fun st => pu (d st)) fun r => pu (inj r))) K :=
  ⟨fun Q L β M r hL S => by
    rcases h.run _ L β M (WM.run_bd r) hL S with ⟨x, β1, q1, k⟩ | ⟨x, L', M', β', q, h1, h2, h3⟩
    · dsimp only at q1
      cases x with
      | dn st => exact .inl ⟨d st, β1, WM.run_pu q1, j st _ _ k⟩
      | rt r' => exact .inl ⟨inj r', β1, WM.run_pu q1, i r' _ _ k⟩
    · exact .inr ⟨x, L', M', β', q, h1, h2, h3⟩⟩
theorem kt_kr {y : ρ → PyData} : ∀ r o β, Kt 𝔅 y r o β → Kr 𝔅 y r o β := fun _ _ _ k => .inl k
theorem kt_ks {Γσ : σ → Cs} {y : ρ → PyData} : ∀ r o β, Kt 𝔅 y r o β → Ks 𝔅 Γσ y (.rt r) o β := fun _ _ _ k => .inl k
theorem kn_kr {Γσ : σ → Cs} {y : ρ → PyData} {r0 : ρ} (h : y r0 = .none := by rfl) : ∀ st o β, Kn 𝔅 Γσ st o β → Kr 𝔅 y r0 o β := fun _ _ _ ⟨_, _, e, _, S⟩ => .inr ⟨h, _, _, e, S.pre⟩
theorem kn_ks {Γσ : σ → Cs} {Γτ : τ → Cs} {y : ρ → PyData} (g : σ → τ) (w : ∀ st, Wk (Γσ st) (Γτ (g st))) : ∀ st o β, Kn 𝔅 Γσ st o β → Ks 𝔅 Γτ y (.go (g st)) o β := fun st _ _ ⟨L, M, e, c, S⟩ => by
  obtain ⟨L', e1, c1, S1⟩ := sat_weak S (by rw [c]; exact w st)
  exact .inr ⟨g st, rfl, L', M, by rw [e, e1], c1, S1⟩
/-! ### a list, a dict of one's own -/
theorem own_at {L : Ps} {B M : Mm} {i : Nat} {ys : List PyData} (S : Sat L B M) (h : L.cs[i]? = some (.l ys)) : ∃ j : Nat, L[i]? = some (.l ys, some (.obj j)) ∧ M[j]? = some (.lst (ys.map Val.d)) := by
  obtain ⟨w, h1, _⟩ := Ps.get h
  obtain ⟨j, e, e2⟩ := S.ok _ (List.mem_of_getElem? h1)
  exact ⟨j, by rw [h1]; rw [show w = _ from e], e2⟩
theorem ownK_at {L : Ps} {B M : Mm} {i : Nat} {ys : List (PyData × PyData)} (S : Sat L B M) (h : L.cs[i]? = some (.k ys)) : ∃ j : Nat, L[i]? = some (.k ys, some (.obj j)) ∧ M[j]? = some (.dct (ys.map fun p => (p.1, Val.d p.2))) := by
  obtain ⟨w, h1, _⟩ := Ps.get h
  obtain ⟨j, e, e2⟩ := S.ok _ (List.mem_of_getElem? h1)
  exact ⟨j, by rw [h1]; rw [show w = _ from e], e2⟩
theorem rd_lst {M : Mm} {j : Nat} {vs : List Val} (h : M[j]? = some (.lst vs)) : rd (.obj j) M = .obj j := by
  show (match M[j]? with | some (.frz x) => Val.d x | _ => Val.obj j) = _
  rw [h]
theorem rd_dct {M : Mm} {j : Nat} {vs : List (PyData × Val)} (h : M[j]? = some (.dct vs)) : rd (.obj j) M = .obj j := by
  show (match M[j]? with | some (.frz x) => Val.d x | _ => Val.obj j) = _
  rw [h]
theorem ty_lst {M : Mm} {j : Nat} {vs : List Val} (h : M[j]? = some (.lst vs)) : tyOk "list" (.obj j) M = true := by
  show (match M[j]? with
    | some (.lst _) => "list" == "list"
    | some (.dct _) => "list" == "dict"
    | _ => false) = true
  rw [h]
  rfl
def psh (xs : List α) (a : α) : Option (List α) := if xs.length < 16777216 then some (xs ++ [a]) else none
def ext (xs ys : List α) : Option (List α) := if xs.length + ys.length ≤ 16777216 then some (xs ++ ys) else none
/-- the slots behind a write at a place of one's own -/
theorem write_at {L : Ps} {B M : Mm} {i j : Nat} {sp sp' : Sp} {u : MO} (S : Sat L B M) (hi : L[i]? = some (sp, some (.obj j))) (o : sp.own = true) (hu : MO.below M.length u = true) (h : SpOk (M.set j u) sp' (some (.obj j))) :
    ∃ L' : Ps, L'.sl = L.sl ∧ L'.cs = L.cs.set i sp' ∧ Sat L' B (M.set j u) := by
  refine ⟨_, ?_, set_cs, S.write hi o hu h⟩
  rw [set_sl]
  refine List.ext_getElem? fun a => ?_
  by_cases z : i = a
  · subst z
    rw [List.getElem?_set_self (by unfold Ps.sl; rw [List.length_map]; exact (List.getElem?_eq_some_iff.mp hi).1), List.getElem?_map, hi]
    rfl
  · rw [List.getElem?_set_ne z]
theorem js_append {i : Nat} {e : EM} {f : μ α} {y : α → PyData} (xs : List α) (h : JX 𝔅 Γ e f fun a => .v (y a)) (hi : Γ[i]? = some (.l (xs.map y))) (x : XO μ Γ Γx) : JS 𝔅 Γ Γx (sDrop (mM "list" vAppend (mVar i) (mCons e mNil))) (bd f fun a => lf (psh xs a)) (Kn 𝔅 fun zs => Γ.set i (.l (zs.map y))) :=
  ⟨fun Q L β M r hL S => by
    obtain ⟨j, h1, h2⟩ := own_at S (by rw [hL]; exact hi)
    have hs : sDrop (mM "list" vAppend (mVar i) (mCons e mNil)) L.sl M = (e L.sl M).bindS L.sl fun w M2 => (vAppend (.obj j) [w] M2).bindS L.sl fun _ M3 => .nx L.sl M3 := by
      show ((mVar i L.sl M).bind fun v M1 => if tyOk "list" v M1 = true then _ else _).bindS _ _ = _
      rw [mVar_at h1 rfl, rd_lst h2]
      show (if tyOk "list" (.obj j) M = true then ((e L.sl M).bind fun x M1 => Out.ok [x] M1).bind fun vs M2 => vAppend (.obj j) vs M2 else _).bindS _ _ = _
      rw [if_pos (ty_lst h2)]
      cases e L.sl M <;> rfl
    rw [hs]
    rcases jx_top h x (WM.run_bd r) hL S with ⟨a, β', w, M', q, em, S'⟩ | ⟨e, M', β', L', q, em, e1, e2, S2⟩
    · have s : some w = some (Val.d (y a)) := S'.ok (.v (y a), some w) (by simp)
      cases s
      obtain ⟨zs, hz, q2⟩ := LO.run_lf q
      unfold psh at hz
      split at hz
      · rename_i hl
        cases hz
        obtain ⟨j', k1, k2⟩ := own_at S'.left (by rw [hL]; exact hi)
        rw [h1] at k1
        cases k1
        have k3 := (List.getElem?_eq_some_iff.mp k2).1
        obtain ⟨L2, e1, e2, S2⟩ := write_at (sp' := .l ((xs ++ [a]).map y)) (u := .lst (((xs ++ [a]).map y).map Val.d)) S'.left h1 rfl below_lst ⟨j, rfl, by rw [List.getElem?_set_self k3]⟩
        refine .inl ⟨xs ++ [a], β', q2, L2, _, ?_, by rw [e2, hL], S2⟩
        rw [em]
        show (vAppend (.obj j) [.d (y a)] M').bindS L.sl _ = _
        have ha : vAppend (.obj j) [.d (y a)] M' = .ok (.d .none) (M'.set j (.lst (((xs ++ [a]).map y).map Val.d))) := by
          show (match M'[j]? with
            | some (.lst us) => if us.length < 16777216 then Out.ok (Val.d .none) (M'.set j (.lst (us ++ [Val.d (y a)]))) else .bad
            | _ => .bad) = _
          rw [k2]
          show (if ((xs.map y).map Val.d).length < 16777216 then _ else _) = _
          rw [if_pos (by rw [List.length_map, List.length_map]; exact hl), List.map_append, List.map_append]
          rfl
        rw [ha, e1]
        rfl
      · cases hz
    · exact .inr ⟨e, L', M', β', q, by rw [em, e1]; rfl, e2, S2⟩⟩
theorem js_extend {i : Nat} {e : EM} {f : μ (List α)} {y : α → PyData} (xs : List α) (h : JX 𝔅 Γ e f fun a => .v (.list (a.map y))) (hi : Γ[i]? = some (.l (xs.map y))) (x : XO μ Γ Γx) : JS 𝔅 Γ Γx (sDrop (mM "list" vExtend (mVar i) (mCons e mNil))) (bd f fun a => lf (ext xs a)) (Kn 𝔅 fun zs => Γ.set i (.l (zs.map y))) :=
  ⟨fun Q L β M r hL S => by
    obtain ⟨j, h1, h2⟩ := own_at S (by rw [hL]; exact hi)
    have hs : sDrop (mM "list" vExtend (mVar i) (mCons e mNil)) L.sl M = (e L.sl M).bindS L.sl fun w M2 => (vExtend (.obj j) [w] M2).bindS L.sl fun _ M3 => .nx L.sl M3 := by
      show ((mVar i L.sl M).bind fun v M1 => if tyOk "list" v M1 = true then _ else _).bindS _ _ = _
      rw [mVar_at h1 rfl, rd_lst h2]
      show (if tyOk "list" (.obj j) M = true then ((e L.sl M).bind fun x M1 => Out.ok [x] M1).bind fun vs M2 => vExtend (.obj j) vs M2 else _).bindS _ _ = _
      rw [if_pos (ty_lst h2)]
      cases e L.sl M <;> rfl
    rw [hs]
    rcases jx_top h x (WM.run_bd r) hL S with ⟨a, β', w, M', q, em, S'⟩ | ⟨e, M', β', L', q, em, e1, e2, S2⟩
    · have s : some w = some (Val.d (.list (a.map y))) := S'.ok (.v (.list (a.map y)), some w) (by simp)
      cases s
      obtain ⟨zs, hz, q2⟩ := LO.run_lf q
      unfold ext at hz
      split at hz
      · rename_i hl
        cases hz
        obtain ⟨j', k1, k2⟩ := own_at S'.left (by rw [hL]; exact hi)
        rw [h1] at k1
        cases k1
        have k3 := (List.getElem?_eq_some_iff.mp k2).1
        obtain ⟨L2, e1, e2, S2⟩ := write_at (sp' := .l ((xs ++ a).map y)) (u := .lst (((xs ++ a).map y).map Val.d)) S'.left h1 rfl below_lst ⟨j, rfl, by rw [List.getElem?_set_self k3]⟩
        refine .inl ⟨xs ++ a, β', q2, L2, _, ?_, by rw [e2, hL], S2⟩
        rw [em]
        show (vExtend (.obj j) [.d (.list (a.map y))] M').bindS L.sl _ = _
        have ha : vExtend (.obj j) [.d (.list (a.map y))] M' = .ok (.d .none) (M'.set j (.lst (((xs ++ a).map y).map Val.d))) := by
          show (match M'[j]?, some (a.map y) with
            | some (.lst us), some ds => if us.length + ds.length ≤ 16777216 then Out.ok (Val.d .none) (M'.set j (.lst (us ++ ds.map Val.d))) else .bad
            | _, _ => .bad) = _
          rw [k2]
          show (if ((xs.map y).map Val.d).length + (a.map y).length ≤ 16777216 then _ else _) = _
          rw [if_pos (by rw [List.length_map, List.length_map, List.length_map]; exact hl), List.map_append, List.map_append]
        rw [ha, e1]
        rfl
      · cases hz
    · exact .inr ⟨e, L', M', β', q, by rw [em, e1]; rfl, e2, S2⟩⟩
/-- dicts as lists of pairs -/
def dget [DecidableEq κ] (kvs : List (κ × α)) (k : κ) : Option α := (kvs.find? fun p => decide (p.1 = k)).map (·.2)
def dput [DecidableEq κ] (kvs : List (κ × α)) (k : κ) (v : α) : List (κ × α) := if (kvs.any fun p => decide (p.1 = k)) = true then kvs.map (fun p => if p.1 = k then (p.1, v) else p) else kvs ++ [(k, v)]
def dputO [DecidableEq κ] (kvs : List (κ × α)) (k : κ) (v : α) : Option (List (κ × α)) := if kvs.length < 16777216 then some (dput kvs k v) else none
/-- how a dict is laid -/
abbrev eKs (ek : κ → PyData) (ev : α → PyData) (kvs : List (κ × α)) : List (PyData × PyData) := kvs.map fun p => (ek p.1, ev p.2)
structure KeyE [DecidableEq κ] (ek : κ → PyData) : Prop where
  eq : ∀ a b, eqK (ek a) (ek b) = decide (a = b)
  kv : ∀ a, keyV (.d (ek a)) = some (ek a)
theorem key_int : KeyE PyData.int := ⟨fun a b => rfl, fun _ => rfl⟩
theorem key_str : KeyE PyData.str := ⟨fun a b => rfl, fun _ => rfl⟩
theorem find_eKs [DecidableEq κ] {ek : κ → PyData} {ev : α → PyData} (K : KeyE ek) (k : κ) : ∀ kvs : List (κ × α), findD (ek k) ((eKs ek ev kvs).map fun p => (p.1, Val.d p.2)) = (dget kvs k).map fun v => .d (ev v)
  | [] => rfl
  | p :: r => by
    unfold findD dget
    show Option.map _ (List.find? _ ((ek p.1, Val.d (ev p.2)) :: (eKs ek ev r).map fun p => (p.1, Val.d p.2))) = _
    rw [List.find?_cons, List.find?_cons]
    show Option.map _ (match eqK (ek p.1) (ek k) with | true => _ | false => _) = _
    rw [K.eq]
    cases decide (p.1 = k) with
    | true => rfl
    | false => exact find_eKs K k r
theorem put_eKs [DecidableEq κ] {ek : κ → PyData} {ev : α → PyData} (K : KeyE ek) (k : κ) (v : α) (kvs : List (κ × α)) : putD ((eKs ek ev kvs).map fun p => (p.1, Val.d p.2)) (ek k) (.d (ev v)) = (eKs ek ev (dput kvs k v)).map fun p => (p.1, .d p.2) := by
  have ha : (((eKs ek ev kvs).map fun p => (p.1, Val.d p.2)).any fun p => eqK p.1 (ek k)) = kvs.any fun p => decide (p.1 = k) := by
    rw [List.map_map, List.any_map]
    congr 1
    funext p
    exact K.eq _ _
  unfold putD dput
  rw [ha]
  split
  · rw [List.map_map, List.map_map, List.map_map, List.map_map]
    refine List.map_congr_left fun p _ => ?_
    show (if eqK (ek p.1) (ek k) = true then (ek p.1, Val.d (ev v)) else (ek p.1, .d (ev p.2))) = _
    rw [K.eq]
    by_cases e : p.1 = k
    · rw [decide_eq_true e, if_pos rfl]
      show _ = (fun p : PyData × PyData => (p.1, Val.d p.2)) ((fun p : κ × α => (ek p.1, ev p.2)) (if p.1 = k then (p.1, v) else p))
      rw [if_pos e]
    · rw [decide_eq_false e, if_neg (by decide)]
      show _ = (fun p : PyData × PyData => (p.1, Val.d p.2)) ((fun p : κ × α => (ek p.1, ev p.2)) (if p.1 = k then (p.1, v) else p))
      rw [if_neg e]
  · rw [show eKs ek ev (kvs ++ [(k, v)]) = eKs ek ev kvs ++ [(ek k, ev v)] from List.map_append, List.map_append]
    rfl
theorem isDct_at {M : Mm} {j : Nat} {vs : List (PyData × Val)} (h : M[j]? = some (.dct vs)) : isDct (.obj j) M = true := by
  unfold isDct dctV
  dsimp only
  rw [h]
  rfl
theorem js_put [DecidableEq κ] {ek : κ → PyData} {ev : α → PyData} (K : KeyE ek) {i : Nat} {mv mk : EM} {f : μ α} {fk : Option κ} (kvs : List (κ × α)) (h : JX 𝔅 Γ mv f fun a => .v (ev a)) (hk : JX (μ := Option) 𝔅 Γ mk fk fun k => .v (ek k)) (hi : Γ[i]? = some (.k (eKs ek ev kvs))) (x : XO μ Γ Γx) :
    JS 𝔅 Γ Γx (sAsg mv (gSet (mVar i) mk vSetX)) (bd f fun a => bd (lf fk) fun k => lf (dputO kvs k a)) (Kn 𝔅 fun zs => Γ.set i (.k (eKs ek ev zs))) :=
  ⟨fun Q L β M r hL S => by
    rcases jx_top h x (WM.run_bd r) hL S with ⟨a, β', w, M', q, em, S'⟩ | ⟨e, M', β', L', q, em, e1, e2, S2⟩
    · have s : some w = some (Val.d (ev a)) := S'.ok (.v (ev a), some w) (by simp)
      cases s
      obtain ⟨k, hk2, q2⟩ := LO.run_lf (WM.run_bd q)
      obtain ⟨zs, hz, q3⟩ := LO.run_lf q2
      unfold dputO at hz
      split at hz
      · rename_i hl
        cases hz
        have := jx_at hk (fun r => match r with | .ok k' => k' = k | .er _ => False) L [] β' M' ⟨k, hk2, rfl⟩ hL (by rw [List.append_nil]; exact S'.left)
        cases ek2 : mk L.sl M' with
        | bad => rw [ek2] at this; exact this.elim
        | er _ _ => rw [ek2] at this; exact this.1.elim
        | ok wk M2 =>
          rw [ek2] at this
          obtain ⟨k', β2, e0, e3, S3⟩ := this
          cases e0
          subst e3
          rw [List.append_nil] at S3
          obtain ⟨j0, g1, g2⟩ := ownK_at S'.left (by rw [hL]; exact hi)
          obtain ⟨j, k1, k2⟩ := ownK_at S3 (by rw [hL]; exact hi)
          rw [g1] at k1
          cases k1
          have k3 := (List.getElem?_eq_some_iff.mp k2).1
          obtain ⟨L2, e1, e2, S2⟩ := write_at (sp' := .k (eKs ek ev (dput kvs k a))) (u := .dct ((eKs ek ev (dput kvs k a)).map fun p => (p.1, Val.d p.2))) S3 g1 rfl below_dct ⟨_, rfl, by rw [List.getElem?_set_self k3]⟩
          refine .inl ⟨_, β2, q3, L2, _, ?_, by rw [e2, hL], S2⟩
          show (mv L.sl M).asg L.sl _ = _
          rw [em]
          show (match gSet (mVar i) mk vSetX (.d (ev a)) L.sl M' with
            | some (s', M') => SO.nx s' M'
            | none => .bad) = _
          unfold gSet
          rw [mVar_at g1 rfl, rd_dct g2]
          dsimp only
          rw [ek2]
          dsimp only
          have hv : vSetX (.obj j0) (.d (ek k)) (.d (ev a)) M2 = some (M2.set j0 (.dct ((eKs ek ev (dput kvs k a)).map fun p => (p.1, .d p.2)))) := by
            unfold vSetX
            rw [if_pos (isDct_at k2)]
            unfold vSetD
            rw [K.kv]
            dsimp only
            rw [k2]
            dsimp only
            rw [if_pos (by rw [List.length_map, List.length_map]; exact hl), put_eKs K]
          rw [hv, e1]
          rfl
      · cases hz
    · exact .inr ⟨e, L', M', β', q, by show (mv L.sl M).asg L.sl _ = _; rw [em, e1]; rfl, e2, S2⟩⟩
/-! ### fixed ahead of a statement -/
theorem fzD_d : ∀ (kvs : List (PyData × PyData)) (M : Mm), fzD (kvs.map fun p => (p.1, .d p.2)) M = some kvs
  | [], _ => rfl
  | p :: r, M => by
    rw [List.map_cons]
    unfold fzD
    rw [fzD_d r M]
    rfl
theorem js_ghL {i : Nat} {b : SM} {f : μ φ} {K : φ → SO → 𝔅.T → Prop} {ys : List PyData} (hi : Γ[i]? = some (.l ys)) (h : JS 𝔅 (Γ.set i (.f (.list ys))) Γx b f K) : JS 𝔅 Γ Γx (sGh i b) f K :=
  ⟨fun Q L β M r hL S => by
    obtain ⟨j, h1, h2⟩ := own_at S (by rw [hL]; exact hi)
    have k3 := (List.getElem?_eq_some_iff.mp h2).1
    obtain ⟨L2, e1, e2, S2⟩ := write_at (sp' := .f (.list ys)) (u := .frz (.list ys)) S h1 rfl rfl ⟨j, rfl, by rw [List.getElem?_set_self k3]⟩
    have hf : frzAt i L.sl M = M.set j (.frz (.list ys)) := by
      unfold frzAt
      rw [show L.sl[i]? = some (some (.obj j)) by rw [List.getElem?_map, h1]; rfl]
      dsimp only
      rw [h2]
      dsimp only
      rw [fzL_d]
    show (∃ a β', Q (.ok a) ∧ K a (b L.sl (frzAt i L.sl M)) β') ∨ ErS 𝔅 Γx _ (b L.sl (frzAt i L.sl M))
    rw [hf, ← e1]
    exact h.run Q L2 β _ r (by rw [e2, hL]) S2⟩
theorem js_ghK {i : Nat} {b : SM} {f : μ φ} {K : φ → SO → 𝔅.T → Prop} {ys : List (PyData × PyData)} (hi : Γ[i]? = some (.k ys)) (h : JS 𝔅 (Γ.set i (.f (.dict ys))) Γx b f K) : JS 𝔅 Γ Γx (sGh i b) f K :=
  ⟨fun Q L β M r hL S => by
    obtain ⟨j, h1, h2⟩ := ownK_at S (by rw [hL]; exact hi)
    have k3 := (List.getElem?_eq_some_iff.mp h2).1
    obtain ⟨L2, e1, e2, S2⟩ := write_at (sp' := .f (.dict ys)) (u := .frz (.dict ys)) S h1 rfl rfl ⟨j, rfl, by rw [List.getElem?_set_self k3]⟩
    have hf : frzAt i L.sl M = M.set j (.frz (.dict ys)) := by
      unfold frzAt
      rw [show L.sl[i]? = some (some (.obj j)) by rw [List.getElem?_map, h1]; rfl]
      dsimp only
      rw [h2]
      dsimp only
      rw [fzD_d]
    show (∃ a β', Q (.ok a) ∧ K a (b L.sl (frzAt i L.sl M)) β') ∨ ErS 𝔅 Γx _ (b L.sl (frzAt i L.sl M))
    rw [hf, ← e1]
    exact h.run Q L2 β _ r (by rw [e2, hL]) S2⟩
theorem js_ghF {i : Nat} {b : SM} {f : μ φ} {K : φ → SO → 𝔅.T → Prop} {y : PyData} (hi : Γ[i]? = some (.f y)) (h : JS 𝔅 Γ Γx b f K) : JS 𝔅 Γ Γx (sGh i b) f K :=
  ⟨fun Q L β M r hL S => by
    have hi2 := hi
    rw [← hL] at hi2
    obtain ⟨w, h1, h0⟩ := Ps.get hi2
    obtain ⟨j, e1, e2⟩ := S.ok _ (List.mem_of_getElem? h1)
    have hf : frzAt i L.sl M = M := by
      unfold frzAt
      rw [h0, show w = some (Val.obj j) from e1]
      dsimp only
      rw [e2]
    show (∃ a β', Q (.ok a) ∧ K a (b L.sl (frzAt i L.sl M)) β') ∨ ErS 𝔅 Γx _ (b L.sl (frzAt i L.sl M))
    rw [hf]
    exact h.run Q L β M r hL S⟩
theorem js_ghV {i : Nat} {b : SM} {f : μ φ} {K : φ → SO → 𝔅.T → Prop} {y : PyData} (hi : Γ[i]? = some (.v y)) (h : JS 𝔅 Γ Γx b f K) : JS 𝔅 Γ Γx (sGh i b) f K :=
  ⟨fun Q L β M r hL S => by
    have hi2 := hi
    rw [← hL] at hi2
    obtain ⟨w, h1, h0⟩ := Ps.get hi2
    have e1 : w = some (.d y) := S.ok _ (List.mem_of_getElem? h1)
    have hf : frzAt i L.sl M = M := by
      unfold frzAt
      rw [h0, e1]
    show (∃ a β', Q (.ok a) ∧ K a (b L.sl (frzAt i L.sl M)) β') ∨ ErS 𝔅 Γx _ (b L.sl (frzAt i L.sl M))
    rw [hf]
    exact h.run Q L β M r hL S⟩
end Zm
namespace Zm
open PySem PySem.Spec PyProof.Rows L2
open WM (pu bd)
open LO (lf)
variable {𝔅 : Bas} {μ : Type → Type} [LO μ] {α β γ δ τ ρ σ φ ψ κ : Type} {Γ Γx : Cs}
/-! ### how data is laid -/
abbrev eD : PyData → PyData := id
abbrev eN : Unit → PyData := fun _ => .none
abbrev eL (e : α → PyData) : List α → PyData := fun xs => .list (xs.map e)
abbrev eT (e : α → PyData) : List α → PyData := fun xs => .tuple (xs.map e)
abbrev eP1 (e : α → PyData) : α → PyData := fun p => .tuple [e p]
abbrev eP2 (e : α → PyData) (f : β → PyData) : α × β → PyData := fun p => .tuple [e p.1, f p.2]
abbrev eP3 (e : α → PyData) (f : β → PyData) (g : γ → PyData) : α × β × γ → PyData := fun p => .tuple [e p.1, f p.2.1, g p.2.2]
abbrev eP4 (e : α → PyData) (f : β → PyData) (g : γ → PyData) (h : δ → PyData) : α × β × γ × δ → PyData := fun p => .tuple [e p.1, f p.2.1, g p.2.2.1, h p.2.2.2]
abbrev eP5 (e : α → PyData) (f : β → PyData) (g : γ → PyData) (h : δ → PyData) (i : τ → PyData) : α × β × γ × δ × τ → PyData := fun p => .tuple [e p.1, f p.2.1, g p.2.2.1, h p.2.2.2.1, i p.2.2.2.2]
def eO (e : α → PyData) : Option α → PyData
  | none => .none
  | some x => e x
abbrev eK (ek : κ → PyData) (ev : α → PyData) : List (κ × α) → PyData := fun kvs => .dict (eKs ek ev kvs)
/-! ### .. and read back -/
def DecOk (dec : PyData → Option α) (enc : α → PyData) : Prop := ∀ x a, dec x = some a → x = enc a
def toI : PyData → Option Int
  | .int i => some i
  | _ => none
def toB : PyData → Option Bool
  | .bool i => some i
  | _ => none
def toS : PyData → Option Str
  | .str i => some i
  | _ => none
def toN : PyData → Option Unit
  | .none => some ()
  | _ => none
def toLd (d : PyData → Option α) : PyData → Option (List α)
  | .list xs => xs.mapM d
  | _ => none
def toTd (d : PyData → Option α) : PyData → Option (List α)
  | .tuple xs => xs.mapM d
  | _ => none
def toP1 (d : PyData → Option α) : PyData → Option α
  | .tuple [x] => d x
  | _ => none
def toP2 (d : PyData → Option α) (e : PyData → Option β) : PyData → Option (α × β)
  | .tuple [x, y] => (d x).bind fun a => (e y).map fun b => (a, b)
  | _ => none
def toP3 (d : PyData → Option α) (e : PyData → Option β) (f : PyData → Option γ) : PyData → Option (α × β × γ)
  | .tuple [x, y, z] => (d x).bind fun a => (e y).bind fun b => (f z).map fun c => (a, b, c)
  | _ => none
def toOd (d : PyData → Option α) : PyData → Option (Option α)
  | .none => some none
  | x => (d x).map some
theorem dec_D : DecOk some eD := fun x a h => by cases h; rfl
theorem dec_I : DecOk toI PyData.int := fun x a h => by
  unfold toI at h; split at h
  · cases h; rfl
  · cases h
theorem dec_B : DecOk toB PyData.bool := fun x a h => by
  unfold toB at h; split at h
  · cases h; rfl
  · cases h
theorem dec_S : DecOk toS PyData.str := fun x a h => by
  unfold toS at h; split at h
  · cases h; rfl
  · cases h
theorem dec_N : DecOk toN eN := fun x a h => by
  unfold toN at h; split at h
  · rfl
  · cases h
theorem mapM_ok {d : PyData → Option α} {e : α → PyData} (h : DecOk d e) : ∀ {xs : List PyData} {as : List α}, xs.mapM d = some as → xs = as.map e
  | [], as, q => by cases q; rfl
  | x :: xs, as, q => by
    rw [List.mapM_cons] at q
    cases e1 : d x with
    | none => rw [e1] at q; cases q
    | some a =>
      rw [e1] at q
      cases e2 : xs.mapM d with
      | none => rw [e2] at q; cases q
      | some bs =>
        rw [e2] at q
        cases q
        rw [h _ _ e1, mapM_ok h e2]
        rfl
theorem dec_L {d : PyData → Option α} {e : α → PyData} (h : DecOk d e) : DecOk (toLd d) (eL e) := fun x a q => by
  unfold toLd at q; split at q
  · rw [mapM_ok h q]
  · cases q
theorem dec_T {d : PyData → Option α} {e : α → PyData} (h : DecOk d e) : DecOk (toTd d) (eT e) := fun x a q => by
  unfold toTd at q; split at q
  · rw [mapM_ok h q]
  · cases q
theorem dec_P1 {d : PyData → Option α} {e : α → PyData} (h : DecOk d e) : DecOk (toP1 d) (eP1 e) := fun x a q => by
  unfold toP1 at q; split at q
  · rw [h _ _ q]
  · cases q
theorem dec_P2 {d : PyData → Option α} {e : α → PyData} {d' : PyData → Option β} {e' : β → PyData} (h : DecOk d e) (h' : DecOk d' e') : DecOk (toP2 d d') (eP2 e e') := fun x a q => by
  unfold toP2 at q; split at q
  · rename_i y z
    cases e1 : d y with
    | none => rw [e1] at q; cases q
    | some b =>
      cases e2 : d' z with
      | none => rw [e1, e2] at q; cases q
      | some c => rw [e1, e2] at q; cases q; rw [h _ _ e1, h' _ _ e2]
  · cases q
theorem dec_P3 {d : PyData → Option α} {e : α → PyData} {d' : PyData → Option β} {e' : β → PyData} {d2 : PyData → Option γ} {e2 : γ → PyData} (h : DecOk d e) (h' : DecOk d' e') (h2 : DecOk d2 e2) : DecOk (toP3 d d' d2) (eP3 e e' e2) := fun x a q => by
  unfold toP3 at q; split at q
  · rename_i y z w
    cases q1 : d y with
    | none => rw [q1] at q; cases q
    | some b =>
      cases q2 : d' z with
      | none => rw [q1, q2] at q; cases q
      | some c =>
        cases q3 : d2 w with
        | none => rw [q1, q2, q3] at q; cases q
        | some f => rw [q1, q2, q3] at q; cases q; rw [h _ _ q1, h' _ _ q2, h2 _ _ q3]
  · cases q
theorem dec_O {d : PyData → Option α} {e : α → PyData} (h : DecOk d e) : DecOk (toOd d) (eO e) := fun x a q => by
  unfold toOd at q; split at q
  · cases q; rfl
  · cases e1 : d x with
    | none => rw [e1] at q; cases q
    | some b => rw [e1] at q; cases q; exact h _ _ e1
/-! ### what can be compared -/
structure EqE [DecidableEq α] (e : α → PyData) (d : Nat) : Prop where
  lay : ∀ x, (e x).canLay0 = true
  dep : ∀ x, (e x).depth ≤ d
  eq : ∀ x y, PyData.eqv (e x) (e y) = decide (x = y)
theorem EqE.sh [DecidableEq α] {e : α → PyData} {d : Nat} (h : EqE e d) (hd : d ≤ 64 := by decide) (x : α) : SeqAt.shaped (e x) = true := by
  unfold SeqAt.shaped
  rw [h.lay, decide_eq_true (Nat.le_trans (h.dep x) hd)]
  rfl
theorem eqe_I : EqE PyData.int 0 := ⟨fun _ => rfl, fun _ => Nat.le_refl _, fun x y => rfl⟩
theorem eqe_B : EqE PyData.bool 0 := ⟨fun _ => rfl, fun _ => Nat.le_refl _, fun x y => by cases x <;> cases y <;> rfl⟩
theorem eqvAll_map [DecidableEq α] {e : α → PyData} (h : ∀ x y, PyData.eqv (e x) (e y) = decide (x = y)) : ∀ xs ys : List α, PyData.eqvAll (xs.map e) (ys.map e) = decide (xs = ys)
  | [], [] => rfl
  | [], _ :: _ => rfl
  | _ :: _, [] => rfl
  | x :: xs, y :: ys => by
    rw [List.map_cons, List.map_cons, PyData.eqvAll, h, eqvAll_map h xs ys, ← Bool.decide_and]
    simp
theorem layAll_map {e : α → PyData} (h : ∀ x, (e x).canLay0 = true) : ∀ xs : List α, PyData.canLayAll0 (xs.map e) = true
  | [] => rfl
  | x :: xs => by rw [List.map_cons, PyData.canLayAll0, h, layAll_map h xs]; rfl
theorem depAll_map {e : α → PyData} {d : Nat} (h : ∀ x, (e x).depth ≤ d) : ∀ xs : List α, PyData.depthAll (xs.map e) ≤ d
  | [] => Nat.zero_le _
  | x :: xs => by rw [List.map_cons, PyData.depthAll]; exact Nat.max_le.mpr ⟨h x, depAll_map h xs⟩
theorem eqe_L [DecidableEq α] {e : α → PyData} {d : Nat} (h : EqE e d) : EqE (eL e) (d + 1) :=
  ⟨fun x => by rw [PyData.canLay0]; exact layAll_map h.lay x, fun x => by rw [PyData.depth]; have := depAll_map h.dep x; omega, fun x y => by rw [PyData.eqv]; exact eqvAll_map h.eq x y⟩
theorem eqe_T [DecidableEq α] {e : α → PyData} {d : Nat} (h : EqE e d) : EqE (eT e) (d + 1) :=
  ⟨fun x => by rw [PyData.canLay0]; exact layAll_map h.lay x, fun x => by rw [PyData.depth]; have := depAll_map h.dep x; omega, fun x y => by rw [PyData.eqv]; exact eqvAll_map h.eq x y⟩
theorem eqe_P2 [DecidableEq α] [DecidableEq β] {e : α → PyData} {f : β → PyData} {d d' : Nat} (h : EqE e d) (h' : EqE f d') : EqE (eP2 e f) (max d d' + 1) :=
  ⟨fun x => by simp [PyData.canLay0, PyData.canLayAll0, h.lay, h'.lay], fun x => by simp only [PyData.depth, PyData.depthAll]; have := h.dep x.1; have := h'.dep x.2; omega, fun x y => by
    obtain ⟨a, b⟩ := x; obtain ⟨c, g⟩ := y
    simp [PyData.eqv, PyData.eqvAll, h.eq, h'.eq, Prod.ext_iff, Bool.decide_and]⟩
theorem eqe_P3 [DecidableEq α] [DecidableEq β] [DecidableEq γ] {e : α → PyData} {f : β → PyData} {g : γ → PyData} {d d' d2 : Nat} (h : EqE e d) (h' : EqE f d') (h2 : EqE g d2) : EqE (eP3 e f g) (max d (max d' d2) + 1) :=
  ⟨fun x => by simp [PyData.canLay0, PyData.canLayAll0, h.lay, h'.lay, h2.lay], fun x => by simp only [PyData.depth, PyData.depthAll]; have := h.dep x.1; have := h'.dep x.2.1; have := h2.dep x.2.2; omega, fun x y => by
    obtain ⟨a, b, c⟩ := x; obtain ⟨a', b', c'⟩ := y
    simp [PyData.eqv, PyData.eqvAll, h.eq, h'.eq, h2.eq, Prod.ext_iff, Bool.decide_and]⟩
/-! ### reading, one by one -/
theorem rd_int {v : Val} {M : Mm} {i : Int} (r : RdAs v M (.int i)) : v = .d (.int i) := by
  rcases r with h | ⟨_, _, _, _, h⟩ | ⟨_, _, _, _, h⟩
  · exact h
  all_goals cases h
theorem rd_bool {v : Val} {M : Mm} {i : Bool} (r : RdAs v M (.bool i)) : v = .d (.bool i) := by
  rcases r with h | ⟨_, _, _, _, h⟩ | ⟨_, _, _, _, h⟩
  · exact h
  all_goals cases h
theorem rd_str {v : Val} {M : Mm} {i : Str} (r : RdAs v M (.str i)) : v = .d (.str i) := by
  rcases r with h | ⟨_, _, _, _, h⟩ | ⟨_, _, _, _, h⟩
  · exact h
  all_goals cases h
theorem rd_none {v : Val} {M : Mm} (r : RdAs v M .none) : v = .d .none := by
  rcases r with h | ⟨_, _, _, _, h⟩ | ⟨_, _, _, _, h⟩
  · exact h
  all_goals cases h
theorem rd_tup {v : Val} {M : Mm} {xs : List PyData} (r : RdAs v M (.tuple xs)) : v = .d (.tuple xs) := by
  rcases r with h | ⟨_, _, _, _, h⟩ | ⟨_, _, _, _, h⟩
  · exact h
  all_goals cases h
theorem rd_listD {v : Val} {M : Mm} {xs : List PyData} (r : RdAs v M (.list xs)) : listD v M = some xs ∧ seqD v M = some xs ∧ lenOf v M = some xs.length ∧ datum v M = some (.list xs) ∧ isDct v M = false ∧ trackD v M = some xs := by
  rcases r with h | ⟨j, ys, h, h2, h3⟩ | ⟨_, _, _, _, h⟩
  · subst h; exact ⟨rfl, rfl, rfl, rfl, rfl, rfl⟩
  · cases h3
    subst h
    have e1 : seqD (.obj j) M = some xs := seqD_obj h2
    refine ⟨e1, e1, ?_, ?_, ?_, e1⟩
    · show (match M[j]? with | some (.lst vs) => some vs.length | _ => none) = _
      rw [h2]
      show some ((xs.map Val.d).length) = _
      rw [List.length_map]
    · show (seqD (.obj j) M).map PyData.list = _
      rw [e1]; rfl
    · unfold isDct dctV
      dsimp only
      rw [h2]
      rfl
  · cases h
theorem rd_datum {v : Val} {M : Mm} {x : PyData} (r : RdAs v M x) (h : ∀ kvs, x ≠ .dict kvs) : datum v M = some x := by
  rcases r with rfl | ⟨j, ys, h1, h2, rfl⟩ | ⟨_, _, _, _, z⟩
  · rfl
  · exact (rd_listD (.inr (.inl ⟨j, ys, h1, h2, rfl⟩))).2.2.2.1
  · exact absurd z (h _)
theorem rd_dctV {v : Val} {M : Mm} {kvs : List (PyData × PyData)} (r : RdAs v M (.dict kvs)) : dctV v M = some (kvs.map fun p => (p.1, .d p.2)) := by
  rcases r with rfl | ⟨_, _, _, _, h⟩ | ⟨j, ys, rfl, h2, h3⟩
  · rfl
  · cases h
  · cases h3
    unfold dctV
    dsimp only
    rw [h2]
theorem rd_nodict {v : Val} {M : Mm} {x : PyData} (r : RdAs v M x) (h : ∀ kvs, x ≠ .dict kvs) : isDct v M = false := by
  rcases r with rfl | ⟨j, ys, h1, h2, rfl⟩ | ⟨_, _, _, _, z⟩
  · cases x with
    | dict kvs => exact absurd rfl (h kvs)
    | _ => rfl
  · exact (rd_listD (.inr (.inl ⟨j, ys, h1, h2, rfl⟩))).2.2.2.2.1
  · exact absurd z (h _)
/-! ### operations -/
theorem o2_add (a b : Int) : Op2 vAdd (.int a) (.int b) (.int (a + b)) := fun v w M r1 r2 => by rw [rd_int r1, rd_int r2]; rfl
theorem o2_sub (a b : Int) : Op2 vSub (.int a) (.int b) (.int (a - b)) := fun v w M r1 r2 => by rw [rd_int r1, rd_int r2]; rfl
def mulO (a b : Int) : Option Int := if (smallI a || smallI b) = true then some (a * b) else none
theorem o2_mul (a b c : Int) (h : mulO a b = some c) : Op2 vMulX (.int a) (.int b) (.int c) := fun v w M r1 r2 => by
  rw [rd_int r1, rd_int r2, z_mulx]
  unfold mulO at h
  split at h
  · rename_i q; cases h; rw [if_pos q]
  · cases h
def divO (a b : Int) : Option Int := if b ≠ 0 ∧ b.natAbs < 1073741824 then some (a.fdiv b) else none
theorem o2_div (a b c : Int) (h : divO a b = some c) : Op2 vDiv (.int a) (.int b) (.int c) := fun v w M r1 r2 => by
  rw [rd_int r1, rd_int r2]
  unfold divO at h
  split at h
  · rename_i q; cases h
    show (if (decide (b ≠ 0) && decide (b.natAbs < 1073741824)) = true then _ else _) = _
    rw [if_pos (by rw [decide_eq_true q.1, decide_eq_true q.2]; rfl)]
  · cases h
def modO (a b : Int) : Option Int := if b ≠ 0 then some (a.fmod b) else none
theorem o2_mod (a b c : Int) (h : modO a b = some c) : Op2 vMod (.int a) (.int b) (.int c) := fun v w M r1 r2 => by
  rw [rd_int r1, rd_int r2]
  unfold modO at h
  split at h
  · rename_i q; cases h
    show (if decide (b ≠ 0) = true then _ else _) = _
    rw [if_pos (decide_eq_true q)]
  · cases h
def powO (a b : Int) : Option Int := if 0 ≤ b ∧ b ≤ 1000000 ∧ a.natAbs < 18446744073709551616 then some (a ^ b.toNat) else none
theorem o2_pow (a b c : Int) (h : powO a b = some c) : Op2 vPow (.int a) (.int b) (.int c) := fun v w M r1 r2 => by
  rw [rd_int r1, rd_int r2]
  unfold powO at h
  split at h
  · rename_i q; cases h
    show (if (decide (0 ≤ b) && decide (b ≤ 1000000) && decide (a.natAbs < 18446744073709551616)) = true then _ else _) = _
    rw [if_pos (by rw [decide_eq_true q.1, decide_eq_true q.2.1, decide_eq_true q.2.2]; rfl)]
  · cases h
theorem o2_lt (a b : Int) : Op2 vLt (.int a) (.int b) (.bool (decide (a < b))) := fun v w M r1 r2 => by rw [rd_int r1, rd_int r2]; rfl
theorem o2_gt (a b : Int) : Op2 vGt (.int a) (.int b) (.bool (decide (b < a))) := fun v w M r1 r2 => by rw [rd_int r1, rd_int r2]; rfl
theorem o2_ge (a b : Int) : Op2 vGe (.int a) (.int b) (.bool (decide (b ≤ a))) := fun v w M r1 r2 => by rw [rd_int r1, rd_int r2]; rfl
theorem o2_le (a b : Int) : Op2 vLe (.int a) (.int b) (.bool (decide (a ≤ b))) := fun v w M r1 r2 => by rw [rd_int r1, rd_int r2]; rfl
/-- == -/
def eqO (x y : PyData) : Option Bool := match eqAtom x y with
  | some r => some r
  | none => if (SeqAt.shaped x && SeqAt.shaped y) = true then some (PyData.eqv x y) else none
theorem shaped_nodict {x : PyData} (h : SeqAt.shaped x = true) : ∀ kvs, x ≠ .dict kvs := fun kvs e => by subst e; cases h
theorem eqAtom_no {x y : PyData} {r : Bool} (h : eqAtom x y = some r) : (∀ kvs, x ≠ .dict kvs) ∧ (∀ kvs, x ≠ .list kvs) ∧ (∀ kvs, y ≠ .list kvs) ∧ ∀ kvs, y ≠ .dict kvs := by
  refine ⟨fun _ e => ?_, fun _ e => ?_, fun _ e => ?_, fun _ e => ?_⟩ <;> subst e
  · cases h
  · cases h
  · cases x <;> cases h
  · cases x <;> cases h
theorem rd_atom {v : Val} {M : Mm} {x : PyData} (r : RdAs v M x) (h1 : ∀ kvs, x ≠ .list kvs) (h2 : ∀ kvs, x ≠ .dict kvs) : v = .d x := by
  rcases r with rfl | ⟨_, _, _, _, z⟩ | ⟨_, _, _, _, z⟩
  · rfl
  · exact absurd z (h1 _)
  · exact absurd z (h2 _)
theorem eqOut_rd {neg : Bool} {v w : Val} {M : Mm} {x y : PyData} {r : Bool} (h : eqO x y = some r) (r1 : RdAs v M x) (r2 : RdAs w M y) : eqOut neg v w M = some (xor neg r) := by
  unfold eqO at h
  cases q : eqAtom x y with
  | some b =>
    rw [q] at h
    cases h
    obtain ⟨n1, n2, n3, n4⟩ := eqAtom_no q
    rw [rd_atom r1 n2 n1, rd_atom r2 n3 n4]
    show (match eqAtom x y with | some r => some (xor neg r) | none => _) = _
    rw [q]
  | none =>
    rw [q] at h
    dsimp only at h
    split at h
    · rename_i hs
      cases h
      have hs2 := hs
      rw [Bool.and_eq_true] at hs2
      have d1 := rd_datum r1 (shaped_nodict hs2.1)
      have d2 := rd_datum r2 (shaped_nodict hs2.2)
      have gen : (match datum v M, datum w M with
        | some a, some b => if (SeqAt.shaped a && SeqAt.shaped b) = true then some (xor neg (PyData.eqv a b)) else none
        | _, _ => none) = some (xor neg (PyData.eqv x y)) := by
        rw [d1, d2]
        dsimp only
        rw [if_pos hs]
      cases v with
      | d a =>
        cases d1
        cases w with
        | d b =>
          cases d2
          show (match eqAtom x y with | some r => some (xor neg r) | none => if (SeqAt.shaped x && SeqAt.shaped y) = true then some (xor neg (PyData.eqv x y)) else none) = _
          rw [q]
          dsimp only
          rw [if_pos hs]
        | obj _ => exact gen
        | scr _ => exact gen
      | obj _ => exact gen
      | scr _ => exact gen
    · cases h
theorem o2_eqD (x y : PyData) (r : Bool) (h : eqO x y = some r) : Op2 vEq x y (.bool r) := fun v w M r1 r2 => by
  unfold vEq
  rw [eqOut_rd h r1 r2, Bool.false_xor]
def neO (x y : PyData) : Option Bool := (eqO x y).map (!·)
theorem o2_neD (x y : PyData) (r : Bool) (h : neO x y = some r) : Op2 vNe x y (.bool r) := fun v w M r1 r2 => by
  unfold neO at h
  cases q : eqO x y with
  | none => rw [q] at h; cases h
  | some b =>
    rw [q] at h
    cases h
    unfold vNe
    rw [eqOut_rd q r1 r2, Bool.true_xor]
theorem eqO_I (a b : Int) : eqO (.int a) (.int b) = some (decide (a = b)) := rfl
theorem eqO_S (a b : Str) : eqO (.str a) (.str b) = some (decide (a = b)) := rfl
theorem eqO_B (a b : Bool) : eqO (.bool a) (.bool b) = some (decide (a = b)) := rfl
theorem eqO_E [DecidableEq α] {e : α → PyData} {d : Nat} (h : EqE e d) (hd : d ≤ 64 := by decide) (a b : α) : eqO (e a) (e b) = some (decide (a = b)) := by
  unfold eqO
  rw [h.sh hd, h.sh hd]
  cases q : eqAtom (e a) (e b) with
  | none => rw [← h.eq]; rfl
  | some r =>
    have := h.eq a b
    dsimp only
    rw [← this]
    unfold eqAtom at q
    split at q <;> first | (cases q; done) | (rename_i h1 h2; cases q; rw [h1, h2]; rfl)
theorem o2_eqI (a b : Int) : Op2 vEq (.int a) (.int b) (.bool (decide (a = b))) := o2_eqD _ _ _ rfl
theorem o2_neI (a b : Int) : Op2 vNe (.int a) (.int b) (.bool (!decide (a = b))) := o2_neD _ _ _ rfl
theorem o2_eqS (a b : Str) : Op2 vEq (.str a) (.str b) (.bool (decide (a = b))) := o2_eqD _ _ _ rfl
theorem o2_neS (a b : Str) : Op2 vNe (.str a) (.str b) (.bool (!decide (a = b))) := o2_neD _ _ _ rfl
theorem o2_eqE [DecidableEq α] {e : α → PyData} {d : Nat} (h : EqE e d) (hd : d ≤ 64 := by decide) (a b : α) : Op2 vEq (e a) (e b) (.bool (decide (a = b))) := o2_eqD _ _ _ (eqO_E h hd a b)
theorem o2_neE [DecidableEq α] {e : α → PyData} {d : Nat} (h : EqE e d) (hd : d ≤ 64 := by decide) (a b : α) : Op2 vNe (e a) (e b) (.bool (!decide (a = b))) := o2_neD _ _ _ (by unfold neO; rw [eqO_E h hd a b]; rfl)
end Zm
namespace Zm
open PySem PySem.Spec PyProof.Rows L2
open WM (pu bd)
open LO (lf)
variable {𝔅 : Bas} {μ : Type → Type} [LO μ] {α β γ δ τ ρ σ φ ψ κ : Type} {Γ Γx : Cs}
/-! ### in -/
def inO (neg : Bool) (x : PyData) (ys : List PyData) : Option Bool := if (SeqAt.shaped x && PyData.canLayAll0 ys) = true then some (xor neg (ys.any fun z => PyData.eqv z x)) else none
theorem o2_inD {neg : Bool} (x : PyData) (ys : List PyData) (r : Bool) (h : inO neg x ys = some r) : Op2 (vInX neg) x (.list ys) (.bool r) := fun v w M r1 r2 => by
  unfold inO at h
  split at h
  · rename_i hs
    cases h
    have hs2 := hs
    rw [Bool.and_eq_true] at hs2
    have l := rd_listD r2
    unfold vInX
    rw [if_neg (by rw [l.2.2.2.2.1]; decide)]
    unfold vIn
    rw [rd_datum r1 (shaped_nodict hs2.1), l.2.1]
    dsimp only
    rw [if_pos hs]
  · cases h
theorem o2_inDT {neg : Bool} (x : PyData) (ys : List PyData) (r : Bool) (h : inO neg x ys = some r) : Op2 (vInX neg) x (.tuple ys) (.bool r) := fun v w M r1 r2 => by
  unfold inO at h
  split at h
  · rename_i hs
    cases h
    have hs2 := hs
    rw [Bool.and_eq_true] at hs2
    have l := rd_tup r2
    subst l
    show (if isDct (.d (.tuple ys)) M = true then vDIn neg v (.d (.tuple ys)) M else vIn neg v (.d (.tuple ys)) M) = _
    rw [if_neg (show ¬ isDct (.d (.tuple ys)) M = true from fun z => by cases z)]
    unfold vIn
    rw [rd_datum r1 (shaped_nodict hs2.1)]
    show (if (SeqAt.shaped x && PyData.canLayAll0 ys) = true then _ else _) = _
    rw [if_pos hs]
  · cases h
def mem [DecidableEq α] (x : α) (xs : List α) : Bool := decide (x ∈ xs)
theorem inO_E [DecidableEq α] {e : α → PyData} {d : Nat} (h : EqE e d) (hd : d ≤ 64 := by decide) (neg : Bool) (x : α) (xs : List α) : inO neg (e x) (xs.map e) = some (xor neg (mem x xs)) := by
  unfold inO
  rw [h.sh hd, layAll_map h.lay]
  show some _ = some _
  congr 2
  unfold mem
  induction xs with
  | nil => rfl
  | cons y ys ih =>
    rw [List.map_cons, List.any_cons, ih, h.eq, ← Bool.decide_or]
    by_cases e : y = x
    · subst e; simp
    · have : ¬ x = y := fun z => e z.symm
      simp [e, this]
theorem o2_in [DecidableEq α] {e : α → PyData} {d : Nat} (h : EqE e d) (hd : d ≤ 64 := by decide) (x : α) (xs : List α) : Op2 (vInX false) (e x) (eL e xs) (.bool (mem x xs)) := o2_inD _ _ _ (by rw [inO_E h hd, Bool.false_xor])
theorem o2_ni [DecidableEq α] {e : α → PyData} {d : Nat} (h : EqE e d) (hd : d ≤ 64 := by decide) (x : α) (xs : List α) : Op2 (vInX true) (e x) (eL e xs) (.bool (!mem x xs)) := o2_inD _ _ _ (by rw [inO_E h hd, Bool.true_xor])
theorem o2_inT [DecidableEq α] {e : α → PyData} {d : Nat} (h : EqE e d) (hd : d ≤ 64 := by decide) (x : α) (xs : List α) : Op2 (vInX false) (e x) (eT e xs) (.bool (mem x xs)) := o2_inDT _ _ _ (by rw [inO_E h hd, Bool.false_xor])
theorem o2_niT [DecidableEq α] {e : α → PyData} {d : Nat} (h : EqE e d) (hd : d ≤ 64 := by decide) (x : α) (xs : List α) : Op2 (vInX true) (e x) (eT e xs) (.bool (!mem x xs)) := o2_inDT _ _ _ (by rw [inO_E h hd, Bool.true_xor])
theorem o2_inK [DecidableEq κ] {ek : κ → PyData} {ev : α → PyData} (K : KeyE ek) (x : κ) (kvs : List (κ × α)) : Op2 (vInX false) (ek x) (eK ek ev kvs) (.bool (dget kvs x).isSome) := fun v w M r1 r2 => by
  have hk := K.kv x
  have d := rd_dctV r2
  have hv : v = .d (ek x) := rd_atom r1 (fun _ e => by rw [e] at hk; cases hk) fun _ e => by rw [e] at hk; cases hk
  subst hv
  unfold vInX isDct
  rw [d]
  show vDIn false (.d (ek x)) w M = _
  unfold vDIn
  rw [K.kv, d]
  dsimp only
  rw [find_eKs K, Bool.false_xor]
  cases dget kvs x <;> rfl
theorem o2_niK [DecidableEq κ] {ek : κ → PyData} {ev : α → PyData} (K : KeyE ek) (x : κ) (kvs : List (κ × α)) : Op2 (vInX true) (ek x) (eK ek ev kvs) (.bool (!(dget kvs x).isSome)) := fun v w M r1 r2 => by
  have hk := K.kv x
  have d := rd_dctV r2
  have hv : v = .d (ek x) := rd_atom r1 (fun _ e => by rw [e] at hk; cases hk) fun _ e => by rw [e] at hk; cases hk
  subst hv
  unfold vInX isDct
  rw [d]
  show vDIn true (.d (ek x)) w M = _
  unfold vDIn
  rw [K.kv, d]
  dsimp only
  rw [find_eKs K, Bool.true_xor]
  cases dget kvs x <;> rfl
/-! ### [] -/
def ixO (xs : List α) (i : Int) : Option α := atI xs i
theorem atI_map (e : α → PyData) (xs : List α) (i : Int) : atI (xs.map e) i = (atI xs i).map e := by
  unfold atI
  rw [List.length_map]
  cases ixN xs.length i with
  | none => rfl
  | some j => exact List.getElem?_map
theorem o2_ixL {e : α → PyData} (xs : List α) (i : Int) (c : α) (h : ixO xs i = some c) : Op2 vIxX (eL e xs) (.int i) (e c) := fun v w M r1 r2 => by
  have l := rd_listD r1
  have ha : atI (xs.map e) i = some (e c) := by rw [atI_map]; unfold ixO at h; rw [h]; rfl
  rw [rd_int r2]
  unfold vIxX
  rw [if_neg (by rw [l.2.2.2.2.1]; decide)]
  rcases r1 with rfl | ⟨j, ys, rfl, h2, h3⟩ | ⟨_, _, _, _, z⟩
  · show (match atI (xs.map e) i with | some d => Out.ok (Val.d d) M | none => .bad) = _
    rw [ha]
  · cases h3
    show (match M[j]? with
    | some (.lst vs) => match atI vs i with
      | some v => Out.ok (rd v M) M
      | none => .bad
    | _ => .bad) = _
    rw [h2]
    dsimp only
    have : atI ((xs.map e).map Val.d) i = some (.d (e c)) := by
      unfold atI at ha ⊢
      rw [List.length_map]
      cases q : ixN (xs.map e).length i with
      | none => rw [q] at ha; cases ha
      | some j =>
        rw [q] at ha
        show ((xs.map e).map Val.d)[j]? = _
        rw [List.getElem?_map, show (xs.map e)[j]? = some (e c) from ha]
        rfl
    rw [this]
    rfl
  · cases z
theorem o2_ixT {e : α → PyData} (xs : List α) (i : Int) (c : α) (h : ixO xs i = some c) : Op2 vIxX (eT e xs) (.int i) (e c) := fun v w M r1 r2 => by
  have ha : atI (xs.map e) i = some (e c) := by rw [atI_map]; unfold ixO at h; rw [h]; rfl
  rw [rd_int r2, rd_tup r1]
  show (match atI (xs.map e) i with | some d => Out.ok (Val.d d) M | none => .bad) = _
  rw [ha]
/-- a datum at an index -/
def ixD (x : PyData) (i : Int) : Option PyData := match x with
  | .list ds => atI ds i
  | .tuple ds => atI ds i
  | _ => none
theorem o2_ixD (x : PyData) (i : Int) (c : PyData) (h : ixD x i = some c) : Op2 vIxX x (.int i) c := fun v w M r1 r2 => by
  unfold ixD at h
  split at h
  · rename_i ds
    have := o2_ixL (e := eD) ds i c h v w M (by rw [show eL eD ds = .list ds by show PyData.list (ds.map id) = _; rw [List.map_id]]; exact r1) r2
    exact this
  · rename_i ds
    have := o2_ixT (e := eD) ds i c h v w M (by rw [show eT eD ds = .tuple ds by show PyData.tuple (ds.map id) = _; rw [List.map_id]]; exact r1) r2
    exact this
  · cases h
theorem o2_ixP (xs : List PyData) (i : Nat) (c : PyData) (h : xs[i]? = some c) : Op2 vIxX (.tuple xs) (.int (i : Nat)) c := o2_ixD _ _ _ (atI_at h)
def strAt (x : Str) (i : Int) : Option Str := if fitsL x.length = true then (atI x.cps.toList i).map fun c => ⟨#[c]⟩ else none
theorem o2_ixS (x : Str) (i : Int) (c : Str) (h : strAt x i = some c) : Op2 vIxX (.str x) (.int i) (.str c) := fun v w M r1 r2 => by
  rw [rd_int r2, rd_str r1]
  unfold strAt at h
  split at h
  · rename_i hf
    show (if fitsL x.length = true then match atI x.cps.toList i with
      | some c => Out.ok (Val.d (.str ⟨#[c]⟩)) M
      | none => .bad else .bad) = _
    rw [if_pos hf]
    cases q : atI x.cps.toList i with
    | none => rw [q] at h; cases h
    | some d => rw [q] at h; cases h; rfl
  · cases h
theorem o2_ixK [DecidableEq κ] {ek : κ → PyData} {ev : α → PyData} (K : KeyE ek) (kvs : List (κ × α)) (x : κ) (c : α) (h : dget kvs x = some c) : Op2 vIxX (eK ek ev kvs) (ek x) (ev c) := fun v w M r1 r2 => by
  have hk := K.kv x
  have d := rd_dctV r1
  have hv : w = .d (ek x) := rd_atom r2 (fun _ e => by rw [e] at hk; cases hk) fun _ e => by rw [e] at hk; cases hk
  subst hv
  unfold vIxX isDct
  rw [d]
  show vDIx v (.d (ek x)) M = _
  unfold vDIx
  rw [K.kv, d]
  dsimp only
  rw [find_eKs K, h]
  rfl
/-! ### slices, lengths, kinds -/
structure JN (𝔅 : Bas) (Γ : Cs) (m : OM) (f : μ (Option Int)) : Prop where
  run : ∀ (Q : Res (Option Int) → Prop) (L P : Ps) (β : 𝔅.T) (M : Mm), WM.run f Q → L.cs = Γ → Sat (L ++ P) (𝔅.mem β) M →
    WpE (m L.sl M) (fun w M' => ∃ (β' : 𝔅.T), Q (.ok w) ∧ Sat (L ++ P) (𝔅.mem β') M') (ErE 𝔅 L P fun e => Q (.er e))
theorem jn_none : JN (μ := μ) 𝔅 Γ oNone (pu none) := ⟨fun Q L P β M r hL S => ⟨β, WM.run_pu r, S⟩⟩
theorem jn_some {m : EM} {f : μ Int} (h : JX 𝔅 Γ m f fun i => .v (.int i)) : JN 𝔅 Γ (oSome m) (bd f fun i => pu (some i)) :=
  ⟨fun Q L P β M r hL S => WpE.bind ((jx_at h _ L P β M (WM.run_bd r) hL S).mono (fun w M' ⟨a, β', q, e, S'⟩ => by
    rw [e]
    exact ⟨β', WM.run_pu q, S'⟩) fun _ _ h => h)⟩
theorem jx_slice {m : EM} {l h : OM} {f : μ α} {fl fh : μ (Option Int)} {x : α → PyData} {y : γ → PyData} (g : α → Option Int → Option Int → Option γ) (hm : JO 𝔅 Γ m f x) (hl : JN 𝔅 Γ l fl) (hh : JN 𝔅 Γ h fh) (op : ∀ a lo hi r v M, g a lo hi = some r → RdAs v M (x a) → vSl v lo hi M = .ok (.d (y r)) M) :
    JX 𝔅 Γ (mSl m l h) (bd f fun a => bd fl fun lo => bd fh fun hi => lf (g a lo hi)) fun r => .v (y r) :=
  ⟨fun Q L P β M r hL S => WpE.bind ((hm.run _ L P β M (WM.run_bd r) hL S).mono (fun w M1 ⟨a, β1, q1, S1, d⟩ => WpE.bind ((hl.run _ L P β1 M1 (WM.run_bd q1) hL S1).mono (fun lo M2 ⟨β2, q2, S2⟩ => WpE.bind ((hh.run _ L P β2 M2 (WM.run_bd q2) hL S2).mono (fun hi M3 ⟨β3, q3, S3⟩ => by
    obtain ⟨c, hc, q4⟩ := LO.run_lf q3
    rw [op a lo hi c w M3 hc (d.at_ S3)]
    exact ⟨c, β3, q4, app1 (S3.push rfl rfl)⟩) fun _ _ h => h)) fun _ _ h => h)) fun _ _ h => h)⟩
theorem jx_sliceT {m : EM} {l h : OM} {f : μ α} {fl fh : μ (Option Int)} {x : α → PyData} {y : γ → PyData} (g : α → Option Int → Option Int → γ) (hm : JO 𝔅 Γ m f x) (hl : JN 𝔅 Γ l fl) (hh : JN 𝔅 Γ h fh) (op : ∀ a lo hi v M, RdAs v M (x a) → vSl v lo hi M = .ok (.d (y (g a lo hi))) M) :
    JX 𝔅 Γ (mSl m l h) (bd f fun a => bd fl fun lo => bd fh fun hi => pu (g a lo hi)) fun r => .v (y r) :=
  ⟨fun Q L P β M r hL S => WpE.bind ((hm.run _ L P β M (WM.run_bd r) hL S).mono (fun w M1 ⟨a, β1, q1, S1, d⟩ => WpE.bind ((hl.run _ L P β1 M1 (WM.run_bd q1) hL S1).mono (fun lo M2 ⟨β2, q2, S2⟩ => WpE.bind ((hh.run _ L P β2 M2 (WM.run_bd q2) hL S2).mono (fun hi M3 ⟨β3, q3, S3⟩ => by
    rw [op a lo hi w M3 (d.at_ S3)]
    exact ⟨_, β3, WM.run_pu q3, app1 (S3.push rfl rfl)⟩) fun _ _ h => h)) fun _ _ h => h)) fun _ _ h => h)⟩
theorem cutL_map (e : α → β) (xs : List α) (lo hi : Option Int) : cutL (xs.map e) lo hi = (cutL xs lo hi).map e := by
  unfold cutL
  rw [List.length_map, ← List.map_drop, ← List.map_take]
theorem sl_L {e : α → PyData} (xs : List α) (lo hi : Option Int) (v : Val) (M : Mm) (r : RdAs v M (eL e xs)) : vSl v lo hi M = .ok (.d (eL e (cutL xs lo hi))) M := by
  have l := rd_listD r
  show _ = Out.ok (Val.d (.list ((cutL xs lo hi).map e))) M
  rw [← cutL_map]
  have gen : (match listD v M with
    | some ds => Out.ok (Val.d (.list (cutL ds lo hi))) M
    | none => .bad) = .ok (.d (.list (cutL (xs.map e) lo hi))) M := by rw [l.1]
  rcases r with rfl | ⟨j, ys, rfl, _, _⟩ | ⟨_, _, _, _, z⟩
  · exact gen
  · exact gen
  · cases z
theorem sl_T {e : α → PyData} (xs : List α) (lo hi : Option Int) (v : Val) (M : Mm) (r : RdAs v M (eT e xs)) : vSl v lo hi M = .ok (.d (eT e (cutL xs lo hi))) M := by
  rw [rd_tup r]
  show Out.ok (Val.d (.tuple (cutL (xs.map e) lo hi))) M = _
  rw [cutL_map]
def slS (x : Str) (lo hi : Option Int) : Option Str := if fitsL x.length = true then some (cutS x lo hi) else none
theorem sl_S (x : Str) (lo hi : Option Int) (c : Str) (v : Val) (M : Mm) (h : slS x lo hi = some c) (r : RdAs v M (.str x)) : vSl v lo hi M = .ok (.d (.str c)) M := by
  rw [rd_str r]
  unfold slS at h
  split at h
  · rename_i hf
    cases h
    show (if fitsL x.length = true then _ else _) = _
    rw [if_pos hf]
  · cases h
def slD (x : PyData) (lo hi : Option Int) : Option PyData := match x with
  | .list ds => some (.list (cutL ds lo hi))
  | .tuple ds => some (.tuple (cutL ds lo hi))
  | .str z => (slS z lo hi).map .str
  | _ => none
theorem sl_D (x : PyData) (lo hi : Option Int) (c : PyData) (v : Val) (M : Mm) (h : slD x lo hi = some c) (r : RdAs v M x) : vSl v lo hi M = .ok (.d c) M := by
  unfold slD at h
  split at h
  · rename_i ds
    cases h
    have := sl_L (e := eD) ds lo hi v M (by rw [show eL eD ds = .list ds by show PyData.list (ds.map id) = _; rw [List.map_id]]; exact r)
    rwa [show eL eD (cutL ds lo hi) = .list (cutL ds lo hi) by show PyData.list (List.map id _) = _; rw [List.map_id]] at this
  · rename_i ds
    cases h
    have := sl_T (e := eD) ds lo hi v M (by rw [show eT eD ds = .tuple ds by show PyData.tuple (ds.map id) = _; rw [List.map_id]]; exact r)
    rwa [show eT eD (cutL ds lo hi) = .tuple (cutL ds lo hi) by show PyData.tuple (List.map id _) = _; rw [List.map_id]] at this
  · rename_i z
    cases q : slS z lo hi with
    | none => rw [q] at h; cases h
    | some s => rw [q] at h; cases h; exact sl_S z lo hi s v M q r
  · cases h
theorem jx_rev {m : EM} {f : μ α} {x : α → PyData} {y : α → PyData} (hm : JX 𝔅 Γ m f fun a => .v (x a)) (op : ∀ a M, vRev (.d (x a)) M = .ok (.d (y a)) M) : JX 𝔅 Γ (mRev m) f fun r => .v (y r) :=
  ⟨fun Q L P β M r hL S => WpE.bind ((jx_at hm _ L P β M r hL S).mono (fun w M' ⟨a, β', q, e, S'⟩ => by
    rw [e, op]
    exact ⟨a, β', q, app1 (S'.push rfl rfl)⟩) fun _ _ h => h)⟩
theorem jx_revT {m : EM} {f : μ (List α)} {e : α → PyData} (hm : JX 𝔅 Γ m f fun a => .v (eT e a)) : JX 𝔅 Γ (mRev m) (bd f fun a => pu a.reverse) fun r => .v (eT e r) :=
  (JX.map (jx_rev (y := fun a => eT e a.reverse) hm fun a M => by show Out.ok (Val.d (.tuple (a.map e).reverse)) M = _; rw [← List.map_reverse]) List.reverse fun _ => rfl)
theorem jx_revL {m : EM} {f : μ (List α)} {e : α → PyData} (hm : JX 𝔅 Γ m f fun a => .v (eL e a)) : JX 𝔅 Γ (mRev m) (bd f fun a => pu a.reverse) fun r => .v (eL e r) :=
  (JX.map (jx_rev (y := fun a => eL e a.reverse) hm fun a M => by show Out.ok (Val.d (.list (a.map e).reverse)) M = _; rw [← List.map_reverse]) List.reverse fun _ => rfl)
theorem cz_lenL {e : α → PyData} (xs : List α) (v : Val) (M : Mm) (r : RdAs v M (eL e xs)) : vLen [v] M = .ok (.d (.int (xs.length : Int))) M := by
  show (match lenOf v M with | some n => Out.ok (Val.d (.int n)) M | none => .bad) = _
  rw [(rd_listD r).2.2.1, List.length_map]
theorem cz_lenT {e : α → PyData} (xs : List α) (v : Val) (M : Mm) (r : RdAs v M (eT e xs)) : vLen [v] M = .ok (.d (.int (xs.length : Int))) M := by
  rw [rd_tup r]
  show Out.ok (Val.d (.int ((xs.map e).length : Int))) M = _
  rw [List.length_map]
def lenD (x : PyData) : Option Int := match x with
  | .list ds => some ds.length
  | .tuple ds => some ds.length
  | .str z => if fitsL z.length = true then some z.length else none
  | _ => none
theorem cz_lenD (x : PyData) (n : Int) (v : Val) (M : Mm) (h : lenD x = some n) (r : RdAs v M x) : vLen [v] M = .ok (.d (.int n)) M := by
  unfold lenD at h
  split at h
  · rename_i ds
    cases h
    show (match lenOf v M with | some n => Out.ok (Val.d (.int n)) M | none => .bad) = _
    rw [(rd_listD r).2.2.1]
  · cases h; rw [rd_tup r]; rfl
  · rename_i z
    split at h
    · rename_i hf
      cases h
      rw [rd_str r]
      show (match (if fitsL z.length then some z.length else none) with | some n => Out.ok (Val.d (.int n)) M | none => .bad) = _
      rw [if_pos hf]
    · cases h
  · cases h
theorem cz_tupL {e : α → PyData} (xs : List α) (v : Val) (M : Mm) (r : RdAs v M (eL e xs)) : vTuple [v] M = .ok (.d (eT e xs)) M := by
  show (match seqD v M with | some ds => Out.ok (Val.d (.tuple ds)) M | none => .bad) = _
  rw [(rd_listD r).2.1]
theorem cz_tupT {e : α → PyData} (xs : List α) (v : Val) (M : Mm) (r : RdAs v M (eT e xs)) : vTuple [v] M = .ok (.d (eT e xs)) M := by rw [rd_tup r]; rfl
theorem cz_lstL {e : α → PyData} (xs : List α) (v : Val) (M : Mm) (r : RdAs v M (eL e xs)) : vList [v] M = .ok (.d (eL e xs)) M := by
  show (match seqD v M with | some ds => Out.ok (Val.d (.list ds)) M | none => .bad) = _
  rw [(rd_listD r).2.1]
theorem cz_lstT {e : α → PyData} (xs : List α) (v : Val) (M : Mm) (r : RdAs v M (eT e xs)) : vList [v] M = .ok (.d (eL e xs)) M := by rw [rd_tup r]; rfl
def seqO (x : PyData) : Option (List PyData) := match x with
  | .list ds => some ds
  | .tuple ds => some ds
  | _ => none
theorem seqO_rd {x : PyData} {ds : List PyData} {v : Val} {M : Mm} (h : seqO x = some ds) (r : RdAs v M x) : seqD v M = some ds := by
  unfold seqO at h
  split at h
  · cases h; exact (rd_listD r).2.1
  · cases h; rw [rd_tup r]; rfl
  · cases h
theorem cz_tupD (x : PyData) (ds : List PyData) (v : Val) (M : Mm) (h : seqO x = some ds) (r : RdAs v M x) : vTuple [v] M = .ok (.d (eT eD ds)) M := by
  show (match seqD v M with | some ds => Out.ok (Val.d (.tuple ds)) M | none => .bad) = Out.ok (Val.d (.tuple (ds.map id))) M
  rw [seqO_rd h r, List.map_id]
theorem cz_lstD (x : PyData) (ds : List PyData) (v : Val) (M : Mm) (h : seqO x = some ds) (r : RdAs v M x) : vList [v] M = .ok (.d (eL eD ds)) M := by
  show (match seqD v M with | some ds => Out.ok (Val.d (.list ds)) M | none => .bad) = Out.ok (Val.d (.list (ds.map id))) M
  rw [seqO_rd h r, List.map_id]
theorem listD_rdL {xs : List PyData} {v : Val} {M : Mm} (r : RdAs v M (.list xs)) : listD v M = some xs := (rd_listD r).1
theorem cz_sortI (xs : List Int) (v : Val) (M : Mm) (r : RdAs v M (eL PyData.int xs)) : vSortX [v] M = .ok (.d (eL PyData.int (sortI xs))) M := z_sortX (listD_rdL r) (sortD_i xs)
theorem cz_sortP (xs : List (Int × Int)) (v : Val) (M : Mm) (r : RdAs v M (eL (eP2 PyData.int PyData.int) xs)) : vSortX [v] M = .ok (.d (eL (eP2 PyData.int PyData.int) (sortP xs))) M := z_sortX (listD_rdL r) (sortD_p xs)
def sortO (xs : List PyData) : Option (List PyData) := match sortD xs with
  | some es => some es
  | none => match headW xs with
    | some z => (allT z xs).map fun ps => (sortP ps).map (triD z)
    | none => none
theorem cz_sortD (xs ys : List PyData) (v : Val) (M : Mm) (h : sortO xs = some ys) (r : RdAs v M (.list xs)) : vSortX [v] M = .ok (.d (.list ys)) M := by
  have l := listD_rdL r
  show (match listD v M with
    | some ds => match sortD ds with
      | some es => Out.ok (Val.d (.list es)) M
      | none => match headW ds with
        | some z => match allT z ds with
          | some ps => .ok (.d (.list ((sortP ps).map (triD z)))) M
          | none => .bad
        | none => .bad
    | none => .bad) = _
  rw [l]
  dsimp only
  unfold sortO at h
  cases q : sortD xs with
  | some es => rw [q] at h; cases h; rfl
  | none =>
    rw [q] at h
    dsimp only at h ⊢
    cases q2 : headW xs with
    | none => rw [q2] at h; cases h
    | some z =>
      rw [q2] at h
      dsimp only at h ⊢
      cases q3 : allT z xs with
      | none => rw [q3] at h; cases h
      | some ps => rw [q3] at h; cases h; rfl
theorem cz_intI (i : Int) (v : Val) (M : Mm) (r : RdAs v M (.int i)) : vInt [v] M = .ok (.d (.int i)) M := by rw [rd_int r]; rfl
theorem cz_intB (i : Bool) (v : Val) (M : Mm) (r : RdAs v M (.bool i)) : vInt [v] M = .ok (.d (.int (if i = true then 1 else 0))) M := by rw [rd_bool r]; rfl
def reprO (x : PyData) : Option Str := if (x.showable && fitsL x.shown.length && decide (x.depth ≤ 64)) = true then some x.shown else none
theorem cz_reprD (x : PyData) (s : Str) (M : Mm) (h : reprO x = some s) : vRepr [.d x] M = .ok (.d (.str s)) M := by
  unfold reprO at h
  split at h
  · rename_i hs
    cases h
    show (if (x.showable && fitsL x.shown.length && decide (x.depth ≤ 64)) = true then _ else _) = _
    rw [if_pos hs]
  · cases h
/-- the kind of a datum -/
def tyD : PyData → String
  | .none => "NoneType"
  | .bool _ => "bool"
  | .int _ => "int"
  | .str _ => "str"
  | .list _ => "list"
  | .tuple _ => "tuple"
  | .dict _ => "dict"
def isD (T : String) (x : PyData) : Bool := isT (tyD x) T
theorem jx_isI {T : String} {m : EM} {f : μ α} {x : α → PyData} (h : JX 𝔅 Γ m f fun a => .v (x a)) : JX 𝔅 Γ (mIsI T m) (bd f fun a => pu (isD T (x a))) fun b => .v (.bool b) :=
  ⟨fun Q L P β M r hL S => WpE.bind ((jx_at h _ L P β M (WM.run_bd r) hL S).mono (fun w M' ⟨a, β', q, e, S'⟩ => by
    rw [e]
    have ht : tyNm (.d (x a)) M' = some (tyD (x a)) := by cases x a <;> rfl
    show WpE (match tyNm (.d (x a)) M' with | some n => Out.ok (Val.d (.bool (isT n T))) M' | none => .bad) _ _
    rw [ht]
    exact ⟨_, β', WM.run_pu q, app1 (S'.push rfl rfl)⟩) fun _ _ h => h)⟩
def isNd : PyData → Bool
  | .none => true
  | _ => false
theorem o2_isN (x : PyData) (h : (∀ k, x ≠ .list k) ∧ ∀ k, x ≠ .dict k ∨ True) : True := trivial
theorem o2_isD (x : PyData) : Op2 vIsN x .none (.bool (isNd x)) := fun v w M r1 r2 => by
  rw [rd_none r2]
  show Out.ok (Val.d (.bool (isN v))) M = _
  rcases r1 with rfl | ⟨j, ys, rfl, _, rfl⟩ | ⟨j, ys, rfl, _, rfl⟩
  · cases x <;> rfl
  · rfl
  · rfl
theorem o2_notD (x : PyData) : Op2 vNotN x .none (.bool (!isNd x)) := fun v w M r1 r2 => by
  rw [rd_none r2]
  show Out.ok (Val.d (.bool (!isN v))) M = _
  rcases r1 with rfl | ⟨j, ys, rfl, _, rfl⟩ | ⟨j, ys, rfl, _, rfl⟩
  · cases x <;> rfl
  · rfl
  · rfl
/-! ### displays -/
theorem jx_tup {ms : AM} {f : μ α} {xs : α → List PyData} (h : JA 𝔅 Γ ms f fun a => (xs a).map .v) (hn : ∀ a, (xs a).length ≤ 1000 := by intro _; exact Nat.le_of_ble_eq_true rfl) : JX 𝔅 Γ (mTup ms) f fun a => .v (.tuple (xs a)) :=
  ⟨fun Q L P β M r hL S => WpE.bind ((h.run _ L P β M r hL S).mono (fun vs M1 ⟨a, β1, q1, hl, S1⟩ => by
    rw [List.length_map] at hl
    have e := sat_ds hl S1
    rw [e, z_allDm]
    show WpE (if fitsL (xs a).length = true then _ else _) _ _
    rw [if_pos (fits_le (Nat.le_trans (hn a) (by decide)))]
    exact ⟨a, β1, q1, app1 ((sat_left S1).push rfl rfl)⟩) fun _ _ h => h)⟩
theorem jx_tupM {ms : AM} {f : μ α} {xs : α → List PyData} (h : JA 𝔅 Γ ms f fun a => (xs a).map .v) : JX 𝔅 Γ (mTup ms) (bd f fun a => lf (lim (xs a))) fun a => .v (.tuple a) :=
  ⟨fun Q L P β M r hL S => WpE.bind ((h.run _ L P β M (WM.run_bd r) hL S).mono (fun vs M1 ⟨a, β1, q1, hl, S1⟩ => by
    rw [List.length_map] at hl
    have e := sat_ds hl S1
    obtain ⟨c, hc, q2⟩ := LO.run_lf q1
    unfold lim at hc
    split at hc
    · rename_i hf
      cases hc
      rw [e, z_allDm]
      show WpE (if fitsL (xs a).length = true then _ else _) _ _
      rw [if_pos (fits_le hf)]
      exact ⟨_, β1, q2, app1 ((sat_left S1).push rfl rfl)⟩
    · cases hc) fun _ _ h => h)⟩
theorem jx_lst {ms : AM} {f : μ α} {xs : α → List PyData} (h : JA 𝔅 Γ ms f fun a => (xs a).map .v) (hn : ∀ a, (xs a).length ≤ 1000 := by intro _; exact Nat.le_of_ble_eq_true rfl) : JX 𝔅 Γ (mLst ms) f fun a => .v (.list (xs a)) :=
  ⟨fun Q L P β M r hL S => WpE.bind ((h.run _ L P β M r hL S).mono (fun vs M1 ⟨a, β1, q1, hl, S1⟩ => by
    rw [List.length_map] at hl
    have e := sat_ds hl S1
    rw [e, z_allDm]
    show WpE (if fitsL (xs a).length = true then _ else _) _ _
    rw [if_pos (fits_le (Nat.le_trans (hn a) (by decide)))]
    exact ⟨a, β1, q1, app1 ((sat_left S1).push rfl rfl)⟩) fun _ _ h => h)⟩
theorem jx_lstM {ms : AM} {f : μ α} {xs : α → List PyData} (h : JA 𝔅 Γ ms f fun a => (xs a).map .v) : JX 𝔅 Γ (mLst ms) (bd f fun a => lf (lim (xs a))) fun a => .v (.list a) :=
  ⟨fun Q L P β M r hL S => WpE.bind ((h.run _ L P β M (WM.run_bd r) hL S).mono (fun vs M1 ⟨a, β1, q1, hl, S1⟩ => by
    rw [List.length_map] at hl
    have e := sat_ds hl S1
    obtain ⟨c, hc, q2⟩ := LO.run_lf q1
    unfold lim at hc
    split at hc
    · rename_i hf
      cases hc
      rw [e, z_allDm]
      show WpE (if fitsL (xs a).length = true then _ else _) _ _
      rw [if_pos (fits_le hf)]
      exact ⟨_, β1, q2, app1 ((sat_left S1).push rfl rfl)⟩
    · cases hc) fun _ _ h => h)⟩
/-- a list of one's own -/
theorem jx_new {ms : AM} {f : μ α} {xs : α → List PyData} (h : JA 𝔅 Γ ms f fun a => (xs a).map .v) (hn : ∀ a, (xs a).length ≤ 1000 := by intro _; exact Nat.le_of_ble_eq_true rfl) : JX 𝔅 Γ (mNew ms) f fun a => .l (xs a) :=
  ⟨fun Q L P β M r hL S => WpE.bind ((h.run _ L P β M r hL S).mono (fun vs M1 ⟨a, β1, q1, hl, S1⟩ => by
    rw [List.length_map] at hl
    have e := sat_ds hl S1
    rw [e]
    show WpE (if fitsL ((xs a).map Val.d).length = true then _ else _) _ _
    rw [if_pos (fits_le (by rw [List.length_map]; exact Nat.le_trans (hn a) (by decide)))]
    exact ⟨a, β1, q1, app1 ((sat_left S1).grow below_lst ⟨_, rfl, by simp⟩)⟩) fun _ _ h => h)⟩
theorem jx_newM {ms : AM} {f : μ α} {xs : α → List PyData} (h : JA 𝔅 Γ ms f fun a => (xs a).map .v) : JX 𝔅 Γ (mNew ms) (bd f fun a => lf (lim (xs a))) fun a => .l a :=
  ⟨fun Q L P β M r hL S => WpE.bind ((h.run _ L P β M (WM.run_bd r) hL S).mono (fun vs M1 ⟨a, β1, q1, hl, S1⟩ => by
    rw [List.length_map] at hl
    have e := sat_ds hl S1
    obtain ⟨c, hc, q2⟩ := LO.run_lf q1
    unfold lim at hc
    split at hc
    · rename_i hf
      cases hc
      rw [e]
      show WpE (if fitsL ((xs a).map Val.d).length = true then _ else _) _ _
      rw [if_pos (fits_le (by rw [List.length_map]; exact hf))]
      exact ⟨_, β1, q2, app1 ((sat_left S1).grow below_lst ⟨_, rfl, by simp⟩)⟩
    · cases hc) fun _ _ h => h)⟩
theorem jx_dctN : JX (μ := μ) 𝔅 Γ mDctN (pu ()) fun _ => .k [] :=
  ⟨fun Q L P β M r hL S => ⟨(), β, WM.run_pu r, app1 (S.grow rfl ⟨_, rfl, by simp⟩)⟩⟩
theorem jx_dct0 : JX (μ := μ) 𝔅 Γ mDct0 (pu ()) fun _ => .v (.dict []) :=
  ⟨fun Q L P β M r hL S => ⟨(), β, WM.run_pu r, app1 (S.push rfl rfl)⟩⟩
theorem jx_disp1 {mk mv : EM} {f : μ κ} {g : μ α} {ek : κ → PyData} {ev : α → PyData} [DecidableEq κ] (K : KeyE ek) (hk : JX 𝔅 Γ mk f fun a => .v (ek a)) (hv : JX 𝔅 Γ mv g fun a => .v (ev a)) : JX 𝔅 Γ (mDisp1 mk mv) (bd f fun k => bd g fun v => pu [(k, v)]) fun a => .v (eK ek ev a) :=
  ⟨fun Q L P β M r hL S => WpE.bind ((jx_at hk _ L P β M (WM.run_bd r) hL S).mono (fun w M1 ⟨a, β1, q1, e1, S1⟩ => WpE.bind ((jx_at hv _ L P β1 M1 (WM.run_bd q1) hL S1).mono (fun u M2 ⟨b, β2, q2, e2, S2⟩ => by
    rw [e1, e2]
    have hd : vDisp1 (.d (ek a)) (.d (ev b)) M2 = .ok (.d (eK ek ev [(a, b)])) M2 := by
      unfold vDisp1
      rw [K.kv]
      rfl
    rw [hd]
    exact ⟨_, β2, WM.run_pu q2, app1 (S2.push rfl rfl)⟩) fun _ _ h => h)) fun _ _ h => h)⟩
/-- list(x), to be one's own -/
theorem jx_listN {m : EM} {f : μ (List α)} {e : α → PyData} {x : List α → PyData} (h : JO 𝔅 Γ m f x) (hx : ∀ a, x a = eL e a ∨ x a = eT e a) : JX 𝔅 Γ (mB vListN (mCons m mNil)) f fun a => .l (a.map e) :=
  ⟨fun Q L P β M r hL S => WpE.bind (WpE.bind ((h.run _ L P β M r hL S).mono (fun v M1 ⟨a, β1, q1, S1, d⟩ => by
    have hs : seqD v M1 = some (a.map e) := by
      have d := d.at_ S1
      rcases hx a with z | z
      · rw [z] at d; exact (rd_listD d).2.1
      · rw [z] at d; rw [rd_tup d]; rfl
    show WpE (match seqD v M1 with
      | some ds => Out.ok (Val.obj M1.length) (M1 ++ [.lst (ds.map .d)])
      | none => .bad) _ _
    rw [hs]
    exact ⟨a, β1, q1, app1 (S1.grow below_lst ⟨_, rfl, by simp⟩)⟩) fun _ _ h => h))⟩
/-- list(range(n)), list(range(a, b)) -/
def rgO (a b : Int) : Option (List Int) := if okR a = true ∧ okR b = true then some (ran a b) else none
def rg1 (b : Int) : Option (List Int) := if okR b = true then some (ran 0 b) else none
theorem ranD_ran (a b : Int) : ranD a b = (ran a b).map .int := by unfold ranD ran; rw [List.map_map]; rfl
theorem jx_lr1 {m : EM} {f : μ Int} (h : JX 𝔅 Γ m f fun a => .v (.int a)) : JX 𝔅 Γ (mLR1 m) (bd f fun a => lf (rg1 a)) fun a => .v (eL PyData.int a) :=
  ⟨fun Q L P β M r hL S => WpE.bind ((jx_at h _ L P β M (WM.run_bd r) hL S).mono (fun w M' ⟨a, β', q, e, S'⟩ => by
    obtain ⟨c, hc, q2⟩ := LO.run_lf q
    unfold rg1 at hc
    split at hc
    · rename_i hk
      cases hc
      rw [e]
      show WpE (if okR a = true then _ else _) _ _
      rw [if_pos hk, ranD_ran]
      exact ⟨_, β', q2, app1 (S'.push rfl rfl)⟩
    · cases hc) fun _ _ h => h)⟩
theorem jx_lr1N {m : EM} {f : μ Int} (h : JX 𝔅 Γ m f fun a => .v (.int a)) : JX 𝔅 Γ (mLR1N m) (bd f fun a => lf (rg1 a)) fun a => .l (a.map .int) :=
  ⟨fun Q L P β M r hL S => WpE.bind ((jx_at h _ L P β M (WM.run_bd r) hL S).mono (fun w M' ⟨a, β', q, e, S'⟩ => by
    obtain ⟨c, hc, q2⟩ := LO.run_lf q
    unfold rg1 at hc
    split at hc
    · rename_i hk
      cases hc
      rw [e]
      show WpE (if okR a = true then _ else _) _ _
      rw [if_pos hk, ranD_ran]
      exact ⟨_, β', q2, app1 (S'.grow below_lst ⟨_, rfl, by simp⟩)⟩
    · cases hc) fun _ _ h => h)⟩
/-! ### get -/
theorem jx_get1 [DecidableEq κ] {ek : κ → PyData} {ev : α → PyData} (K : KeyE ek) {o mk : EM} {f : μ (List (κ × α))} {fk : μ κ} (h : JO 𝔅 Γ o f (eK ek ev)) (hk : JX 𝔅 Γ mk fk fun k => .v (ek k)) : JX 𝔅 Γ (mGet o (mCons mk mNil)) (bd f fun d => bd fk fun k => pu (dget d k)) fun r => .v (eO ev r) :=
  ⟨fun Q L P β M r hL S => WpE.bind ((h.run _ L P β M (WM.run_bd r) hL S).mono (fun v M1 ⟨d, β1, q1, S1, dd⟩ => by
    have d1 := rd_dctV (dd.at_ S1)
    have hd : isDct v M1 = true := by unfold isDct; rw [d1]; rfl
    rw [if_pos hd]
    refine WpE.bind (WpE.bind ((jx_at hk _ L P β1 M1 (WM.run_bd q1) hL S1).mono (fun w M2 ⟨k, β2, q2, ew, S2⟩ => ?_) fun _ _ h => h))
    rw [ew]
    have d2 := rd_dctV (dd.at_ S2)
    have hv : vGet v [.d (ek k)] M2 = .ok (.d (eO ev (dget d k))) M2 := by
      unfold vGet
      dsimp only
      rw [d2, K.kv]
      dsimp only
      rw [find_eKs K]
      cases dget d k <;> rfl
    show WpE (vGet v [.d (ek k)] M2) _ _
    rw [hv]
    exact ⟨_, β2, WM.run_pu q2, app1 (S2.push rfl rfl)⟩) fun _ _ h => h)⟩
theorem jx_get2 [DecidableEq κ] {ek : κ → PyData} {ev : α → PyData} (K : KeyE ek) {o mk mx : EM} {f : μ (List (κ × α))} {fk : μ κ} {fx : μ α} (h : JO 𝔅 Γ o f (eK ek ev)) (hk : JX 𝔅 Γ mk fk fun k => .v (ek k)) (hx : JX 𝔅 Γ mx fx fun k => .v (ev k)) :
    JX 𝔅 Γ (mGet o (mCons mk (mCons mx mNil))) (bd f fun d => bd fk fun k => bd fx fun x => pu ((dget d k).getD x)) fun r => .v (ev r) :=
  ⟨fun Q L P β M r hL S => WpE.bind ((h.run _ L P β M (WM.run_bd r) hL S).mono (fun v M1 ⟨d, β1, q1, S1, dd⟩ => by
    have d1 := rd_dctV (dd.at_ S1)
    have hd : isDct v M1 = true := by unfold isDct; rw [d1]; rfl
    rw [if_pos hd]
    refine WpE.bind (WpE.bind ((jx_at hk _ L P β1 M1 (WM.run_bd q1) hL S1).mono (fun w M2 ⟨k, β2, q2, ew, S2⟩ => WpE.bind (WpE.bind ((jx_at hx _ L P β2 M2 (WM.run_bd q2) hL S2).mono (fun u M3 ⟨x, β3, q3, eu, S3⟩ => ?_) fun _ _ h => h))) fun _ _ h => h))
    rw [ew, eu]
    have d2 := rd_dctV (dd.at_ S3)
    have hv : vGet v [.d (ek k), .d (ev x)] M3 = .ok (.d (ev ((dget d k).getD x))) M3 := by
      unfold vGet
      dsimp only
      rw [d2, K.kv]
      dsimp only
      rw [find_eKs K]
      cases dget d k <;> rfl
    show WpE (vGet v [.d (ek k), .d (ev x)] M3) _ _
    rw [hv]
    exact ⟨_, β3, WM.run_pu q3, app1 (S3.push rfl rfl)⟩) fun _ _ h => h)⟩
end Zm
namespace Zm
open PySem PySem.Spec PyProof.Rows L2
open WM (pu bd)
open LO (lf)
variable {𝔅 : Bas} {μ : Type → Type} [LO μ] {α β γ δ τ ρ σ φ ψ κ : Type} {Γ Γx : Cs}
/-! ### short words of the printed proofs -/
def mask : List Bool → Cs → Cs
  | b :: bs, s :: Γ => (if b = true then s else .n) :: mask bs Γ
  | [], Γ => Γ
  | _, [] => []
theorem wk_mask : ∀ (bs : List Bool) (Γ : Cs), Wk Γ (mask bs Γ)
  | [], _ => .refl
  | true :: bs, _ :: Γ => .keep (wk_mask bs Γ)
  | false :: bs, _ :: Γ => .drop (wk_mask bs Γ)
  | _ :: _, [] => .nil
theorem wkm {Δ : Cs} (bs : List Bool) (h : mask bs Γ = Δ) : Wk Γ Δ := h ▸ wk_mask bs Γ
theorem js_ghLs {i : Nat} {b r : SM} {f : μ φ} {K : φ → SO → 𝔅.T → Prop} {ys : List PyData} (hi : Γ[i]? = some (.l ys)) (h : JS 𝔅 (Γ.set i (.f (.list ys))) Γx (sSeq b r) f K) : JS 𝔅 Γ Γx (sSeq (sGh i b) r) f K := js_ghL (b := sSeq b r) hi h
theorem js_ghKs {i : Nat} {b r : SM} {f : μ φ} {K : φ → SO → 𝔅.T → Prop} {ys : List (PyData × PyData)} (hi : Γ[i]? = some (.k ys)) (h : JS 𝔅 (Γ.set i (.f (.dict ys))) Γx (sSeq b r) f K) : JS 𝔅 Γ Γx (sSeq (sGh i b) r) f K := js_ghK (b := sSeq b r) hi h
theorem js_ghFs {i : Nat} {b r : SM} {f : μ φ} {K : φ → SO → 𝔅.T → Prop} {y : PyData} (hi : Γ[i]? = some (.f y)) (h : JS 𝔅 Γ Γx (sSeq b r) f K) : JS 𝔅 Γ Γx (sSeq (sGh i b) r) f K := js_ghF (b := sSeq b r) hi h
theorem js_ghVs {i : Nat} {b r : SM} {f : μ φ} {K : φ → SO → 𝔅.T → Prop} {y : PyData} (hi : Γ[i]? = some (.v y)) (h : JS 𝔅 Γ Γx (sSeq b r) f K) : JS 𝔅 Γ Γx (sSeq (sGh i b) r) f K := js_ghV (b := sSeq b r) hi h
/-! ### shorter forms -/
theorem lf_puo {μ : Type → Type} [LO μ] {α : Type} (a : α) : lf (pu (μ := Option) a) = pu (μ := μ) a := LO.lf_some
theorem lf_pu {μ : Type → Type} [LO μ] {α : Type} (a : α) : lf (some a) = pu (μ := μ) a := LO.lf_some
theorem cmpM_pu (p : τ → Bool) (g : τ → γ) : ∀ xs : List τ, cmpM (μ := μ) (fun x => pu (p x)) (fun x => pu (g x)) xs = pu ((xs.filter p).map g)
  | [] => rfl
  | x :: xs => by
    unfold cmpM
    rw [WM.pu_bd, cmpM_pu p g xs, List.filter_cons]
    cases p x with
    | true => rw [if_pos rfl, if_pos rfl, WM.pu_bd, WM.pu_bd, List.map_cons]
    | false => rw [if_neg (by decide), if_neg (by decide)]
theorem comp_pu {fi : μ (List τ)} (p : τ → Bool) (g : τ → γ) : (bd fi fun xs => bd (cmpM (fun x => pu (p x)) (fun x => pu (g x)) xs) fun r => lf (lim r)) = bd fi fun xs => lf (lim ((xs.filter p).map g)) := by
  congr 1
  funext xs
  rw [cmpM_pu, WM.pu_bd]
theorem comp_pu1 {fi : μ (List τ)} (g : τ → γ) : (bd fi fun xs => bd (cmpM (fun _ => pu true) (fun x => pu (g x)) xs) fun r => lf (lim r)) = bd fi fun xs => lf (lim (xs.map g)) := by
  rw [comp_pu (fun _ => true) g]
  congr 1
  funext xs
  rw [List.filter_eq_self.mpr fun _ _ => rfl]
theorem jt_yes : JT (μ := μ) 𝔅 Γ mYes (pu true) := ⟨fun Q L P β M r hL S => ⟨β, WM.run_pu r, S⟩⟩
theorem ji_down {m : AM} {f : μ (List τ)} {enc : τ → PyData} {enc' : γ → PyData} (h : JI 𝔅 Γ m f enc) (d : τ → Option γ) (hd : ∀ x a, d x = some a → enc x = enc' a) : JI 𝔅 Γ m (bd f fun xs => lf (xs.mapM d)) enc' :=
  ⟨fun Q L P β M r hL S => (h.run _ L P β M (WM.run_bd r) hL S).mono (fun vs M' ⟨a, β', q, e, S'⟩ => by
    obtain ⟨c, hc, q2⟩ := LO.run_lf q
    refine ⟨c, β', q2, ?_, S'⟩
    rw [e]
    clear e q q2
    induction a generalizing c with
    | nil => cases hc; rfl
    | cons x xs ih =>
      rw [List.mapM_cons] at hc
      cases e1 : d x with
      | none => rw [e1] at hc; cases hc
      | some y =>
        rw [e1] at hc
        cases e2 : xs.mapM d with
        | none => rw [e2] at hc; cases hc
        | some ys =>
          rw [e2] at hc
          cases hc
          show Val.d (enc x) :: dl enc xs = Val.d (enc' y) :: dl enc' ys
          rw [hd x y e1, ih ys e2]) fun _ _ h => h⟩
theorem ji_seqD {m : EM} {f : μ PyData} (h : JX 𝔅 Γ m f fun a => .v (eD a)) : JI 𝔅 Γ (mIt m) (bd f fun x => lf (seqO x)) eD :=
  ⟨fun Q L P β M r hL S => WpE.bind ((jx_at h _ L P β M (WM.run_bd r) hL S).mono (fun w M' ⟨a, β', q, e, S'⟩ => by
    obtain ⟨c, hc, q2⟩ := LO.run_lf q
    rw [e]
    unfold seqO at hc
    split at hc
    · cases hc; exact ⟨_, β', q2, rfl, S'⟩
    · cases hc; exact ⟨_, β', q2, rfl, S'⟩
    · cases hc) fun _ _ h => h)⟩
theorem jx_proj {a : EM} {fa : μ α} {ys : α → List PyData} {xa : α → PyData} {y : γ → PyData} (i : Nat) (g : α → γ) (ha : JO 𝔅 Γ a fa xa) (hx : ∀ p, xa p = .tuple (ys p)) (hy : ∀ p, (ys p)[i]? = some (y (g p))) : JX 𝔅 Γ (mOp vIxX a (mC (.int (i : Nat)))) (bd fa fun p => pu (g p)) fun r => .v (y r) :=
  ⟨fun Q L P β M r hL S => WpE.bind ((ha.run _ L P β M (WM.run_bd r) hL S).mono (fun v M1 ⟨p, β1, q1, S1, d1⟩ => by
    have d := d1.at_ S1
    rw [hx] at d
    show WpE (vIxX v (.d (.int (i : Nat))) M1) _ _
    rw [o2_ixP _ _ _ (hy p) v (.d (.int (i : Nat))) M1 d (.inl rfl)]
    exact ⟨g p, β1, WM.run_pu q1, app1 (S1.push rfl rfl)⟩) fun _ _ h => h)⟩
theorem jx_modC {a : EM} {fa : μ Int} {xa : Int → PyData} (c : Int) (ha : JO 𝔅 Γ a fa xa) (hx : ∀ p, xa p = .int p := by intro _; rfl) (hc : c ≠ 0 := by decide) : JX 𝔅 Γ (mOp vMod a (mC (.int c))) (bd fa fun p => pu (p.fmod c)) fun r => .v (.int r) :=
  ⟨fun Q L P β M r hL S => WpE.bind ((ha.run _ L P β M (WM.run_bd r) hL S).mono (fun v M1 ⟨p, β1, q1, S1, d1⟩ => by
    have d := d1.at_ S1
    rw [hx] at d
    show WpE (vMod v (.d (.int c)) M1) _ _
    rw [o2_mod p c (p.fmod c) (by unfold modO; rw [if_pos hc]) v (.d (.int c)) M1 d (.inl rfl)]
    exact ⟨_, β1, WM.run_pu q1, app1 (S1.push rfl rfl)⟩) fun _ _ h => h)⟩
theorem jx_divC {a : EM} {fa : μ Int} {xa : Int → PyData} (c : Int) (ha : JO 𝔅 Γ a fa xa) (hx : ∀ p, xa p = .int p := by intro _; rfl) (hc : c ≠ 0 ∧ c.natAbs < 1073741824 := by decide) : JX 𝔅 Γ (mOp vDiv a (mC (.int c))) (bd fa fun p => pu (p.fdiv c)) fun r => .v (.int r) :=
  ⟨fun Q L P β M r hL S => WpE.bind ((ha.run _ L P β M (WM.run_bd r) hL S).mono (fun v M1 ⟨p, β1, q1, S1, d1⟩ => by
    have d := d1.at_ S1
    rw [hx] at d
    show WpE (vDiv v (.d (.int c)) M1) _ _
    rw [o2_div p c (p.fdiv c) (by unfold divO; rw [if_pos hc]) v (.d (.int c)) M1 d (.inl rfl)]
    exact ⟨_, β1, WM.run_pu q1, app1 (S1.push rfl rfl)⟩) fun _ _ h => h)⟩
theorem jx_neg {a : EM} {fa : μ Int} {xa : Int → PyData} (ha : JO 𝔅 Γ a fa xa) (hx : ∀ p, xa p = .int p := by intro _; rfl) : JX 𝔅 Γ (mNeg a) (bd fa fun p => pu (-p)) fun r => .v (.int r) :=
  ⟨fun Q L P β M r hL S => WpE.bind ((ha.run _ L P β M (WM.run_bd r) hL S).mono (fun v M1 ⟨p, β1, q1, S1, d1⟩ => by
    have d := d1.at_ S1
    rw [hx] at d
    rw [rd_int d]
    exact ⟨_, β1, WM.run_pu q1, app1 (S1.push rfl rfl)⟩) fun _ _ h => h)⟩
theorem jx_repr {m : EM} {f : μ α} {x : α → PyData} (h : JX 𝔅 Γ m f fun a => .v (x a)) : JX 𝔅 Γ (mB vRepr (mCons m mNil)) (bd f fun a => lf (reprO (x a))) fun r => .v (.str r) :=
  ⟨fun Q L P β M r hL S => WpE.bind (WpE.bind ((jx_at h _ L P β M (WM.run_bd r) hL S).mono (fun w M1 ⟨a, β1, q1, e, S1⟩ => by
    obtain ⟨c, hc, q2⟩ := LO.run_lf q1
    rw [e]
    show WpE (vRepr [.d (x a)] M1) _ _
    rw [cz_reprD _ c M1 hc]
    exact ⟨c, β1, q2, app1 (S1.push rfl rfl)⟩) fun _ _ h => h))⟩
theorem o2_isO {e : α → PyData} (he : ∀ x, isNd (e x) = false) (p : Option α) : Op2 vIsN (eO e p) .none (.bool p.isNone) := by
  have := o2_isD (eO e p)
  cases p with
  | none => exact this
  | some x => rw [show isNd (eO e (some x)) = false from he x] at this; exact this
theorem o2_notO {e : α → PyData} (he : ∀ x, isNd (e x) = false) (p : Option α) : Op2 vNotN (eO e p) .none (.bool p.isSome) := by
  have := o2_notD (eO e p)
  cases p with
  | none => exact this
  | some x => rw [show isNd (eO e (some x)) = false from he x] at this; exact this
def catO (xs ys : List α) : Option (List α) := if xs.length + ys.length ≤ 16777216 then some (xs ++ ys) else none
theorem o2_catL {e : α → PyData} (xs ys zs : List α) (h : catO xs ys = some zs) : Op2 vAdd (eL e xs) (eL e ys) (eL e zs) := fun v w M r1 r2 => by
  unfold catO at h
  split at h
  · rename_i hl
    cases h
    have t1 := (rd_listD r1).2.2.2.2.2
    have t2 := (rd_listD r2).2.2.2.2.2
    have gen : (match trackD v M, trackD w M with
      | some a, some b => if fitsL (a.length + b.length) then Out.ok (Val.d (.list (a ++ b))) M else .bad
      | _, _ => .bad) = .ok (.d (eL e (xs ++ ys))) M := by
      rw [t1, t2]
      dsimp only
      rw [if_pos (fits_le (by rw [List.length_map, List.length_map]; exact hl)), ← List.map_append]
    rcases r1 with rfl | ⟨_, _, rfl, _, _⟩ | ⟨_, _, _, _, z⟩
    · rcases r2 with rfl | ⟨_, _, rfl, _, _⟩ | ⟨_, _, _, _, z⟩
      · exact gen
      · exact gen
      · cases z
    · exact gen
    · cases z
  · cases h
theorem o2_catT {e : α → PyData} (xs ys zs : List α) (h : catO xs ys = some zs) : Op2 vAdd (eT e xs) (eT e ys) (eT e zs) := fun v w M r1 r2 => by
  unfold catO at h
  split at h
  · rename_i hl
    cases h
    rw [rd_tup r1, rd_tup r2, z_addt' (by rw [List.length_map, List.length_map]; exact hl), ← List.map_append]
  · cases h
def catS (x y : Str) : Option Str := if fitsL (x.length + y.length) = true then some (x ++ y) else none
theorem o2_catS (x y z : Str) (h : catS x y = some z) : Op2 vAdd (.str x) (.str y) (.str z) := fun v w M r1 r2 => by
  unfold catS at h
  split at h
  · rename_i hl
    cases h
    rw [rd_str r1, rd_str r2]
    show (if fitsL (x.length + y.length) = true then _ else _) = _
    rw [if_pos hl]
  · cases h
theorem map_coe {e : α → PyData} {e' : γ → PyData} {c : α → γ} (h : ∀ x, e x = e' (c x)) (xs : List α) : xs.map e = (xs.map c).map e' := by
  rw [List.map_map]
  exact List.map_congr_left fun x _ => h x
theorem coe_L {e : α → PyData} {e' : γ → PyData} {c : α → γ} (h : ∀ x, e x = e' (c x)) (xs : List α) : eL e xs = eL e' (xs.map c) := congrArg PyData.list (map_coe h xs)
theorem coe_T {e : α → PyData} {e' : γ → PyData} {c : α → γ} (h : ∀ x, e x = e' (c x)) (xs : List α) : eT e xs = eT e' (xs.map c) := congrArg PyData.tuple (map_coe h xs)
theorem coe_O {e : α → PyData} {e' : γ → PyData} {c : α → γ} (h : ∀ x, e x = e' (c x)) (xs : Option α) : eO e xs = eO e' (xs.map c) := by cases xs <;> simp [eO, h]
def tp2 (xs : List α) : Option (α × α) := match xs with
  | [a, b] => some (a, b)
  | _ => none
theorem tp2_ok {e : α → PyData} (xs : List α) (a : α × α) (h : tp2 xs = some a) : eT e xs = eP2 e e a := by
  unfold tp2 at h
  split at h
  · cases h; rfl
  · cases h
/-! ### d[a], d[b], .. = x, y, .. -/
def gPuts (i : Nat) : List EM → GMs
  | [] => gsNil
  | mk :: r => gsCons (gSet (mVar i) mk vSetX) (gPuts i r)
inductive KeysE (𝔅 : Bas) (Γ : Cs) (i : Nat) (ek : κ → PyData) : List EM → List κ → Prop where
  | nil : KeysE 𝔅 Γ i ek [] []
  | cons {mk : EM} {k : κ} {mks : List EM} {ks : List κ} : (∀ z, JX (μ := Option) 𝔅 (Γ.set i (.k z)) mk (pu k) fun k => .v (ek k)) → KeysE 𝔅 Γ i ek mks ks → KeysE 𝔅 Γ i ek (mk :: mks) (k :: ks)
def dputs [DecidableEq κ] : List (κ × α) → List (κ × α) → Option (List (κ × α))
  | kvs, [] => some kvs
  | kvs, p :: r => (dputO kvs p.1 p.2).bind fun z => dputs z r
theorem puts_ok [DecidableEq κ] {ek : κ → PyData} {ev : α → PyData} (K : KeyE ek) {i : Nat} {mks : List EM} {ks : List κ} (hk : KeysE 𝔅 Γ i ek mks ks) : ∀ (vs : List α) (kvs zs : List (κ × α)) (L : Ps) (β : 𝔅.T) (M : Mm), vs.length = ks.length → dputs kvs (ks.zip vs) = some zs → L.cs = Γ.set i (.k (eKs ek ev kvs)) → i < Γ.length → Sat L (𝔅.mem β) M →
    ∃ (L' : Ps) (M' : Mm) (β' : 𝔅.T), gPuts i mks (vs.map fun v => .d (ev v)) L.sl M = some (L'.sl, M') ∧ L'.cs = Γ.set i (.k (eKs ek ev zs)) ∧ Sat L' (𝔅.mem β') M' := by
  induction hk with
  | nil =>
    intro vs kvs zs L β M hl hz hL hi S
    cases vs with
    | nil => cases hz; exact ⟨L, M, β, rfl, hL, S⟩
    | cons _ _ => cases hl
  | @cons mk k mks ks h1 h2 ih =>
    intro vs kvs zs L β M hl hz hL hi S
    cases vs with
    | nil => cases hl
    | cons v vs =>
      have hz : (dputO kvs k v).bind (fun z => dputs z (ks.zip vs)) = some zs := hz
      unfold dputO at hz
      split at hz
      · rename_i hlen
        have hgi : L.cs[i]? = some (.k (eKs ek ev kvs)) := by rw [hL, List.getElem?_set_self hi]
        have := jx_at (h1 (eKs ek ev kvs)) (fun r => match r with | .ok k' => k' = k | .er _ => False) L [] β M ⟨k, rfl, rfl⟩ hL (by rw [List.append_nil]; exact S)
        cases ek2 : mk L.sl M with
        | bad => rw [ek2] at this; exact this.elim
        | er _ _ => rw [ek2] at this; exact this.1.elim
        | ok wk M2 =>
          rw [ek2] at this
          obtain ⟨k', β2, e0, e3, S3⟩ := this
          cases e0
          subst e3
          rw [List.append_nil] at S3
          obtain ⟨j0, g1, g2⟩ := ownK_at S hgi
          obtain ⟨j, k1, k2⟩ := ownK_at S3 hgi
          rw [g1] at k1
          cases k1
          have k3 := (List.getElem?_eq_some_iff.mp k2).1
          obtain ⟨L2, e1, e2, S2⟩ := write_at (sp' := .k (eKs ek ev (dput kvs k v))) (u := .dct ((eKs ek ev (dput kvs k v)).map fun p => (p.1, Val.d p.2))) S3 g1 rfl below_dct ⟨_, rfl, by rw [List.getElem?_set_self k3]⟩
          have hv : vSetX (.obj j0) (.d (ek k)) (.d (ev v)) M2 = some (M2.set j0 (.dct ((eKs ek ev (dput kvs k v)).map fun p => (p.1, .d p.2)))) := by
            unfold vSetX
            rw [if_pos (isDct_at k2)]
            unfold vSetD
            rw [K.kv]
            dsimp only
            rw [k2]
            dsimp only
            rw [if_pos (by rw [List.length_map, List.length_map]; exact hlen), put_eKs K]
          have hg : gSet (mVar i) mk vSetX (.d (ev v)) L.sl M = some (L2.sl, M2.set j0 (.dct ((eKs ek ev (dput kvs k v)).map fun p => (p.1, .d p.2)))) := by
            unfold gSet
            rw [mVar_at g1 rfl, rd_dct g2]
            dsimp only
            rw [ek2]
            dsimp only
            rw [hv, e1]
            rfl
          obtain ⟨L', M', β', f1, f2, f3⟩ := ih vs (dput kvs k v) zs L2 β2 _ (by simpa using hl) hz (by rw [e2, hL, List.set_set]) hi S2
          refine ⟨L', M', β', ?_, f2, f3⟩
          show (gSet (mVar i) mk vSetX (.d (ev v)) L.sl M).bind _ = _
          rw [hg]
          exact f1
      · cases hz
theorem js_puts [DecidableEq κ] {ek : κ → PyData} {ev : α → PyData} (K : KeyE ek) {i n : Nat} {ms : AM} {g : GMs} {f : μ γ} {vs : γ → List α} (mks : List EM) (ks : List κ) (kvs : List (κ × α)) (h : JA 𝔅 Γ ms f fun a => ((vs a).map ev).map .v) (hk : KeysE 𝔅 Γ i ek mks ks) (hi : Γ[i]? = some (.k (eKs ek ev kvs))) (x : XO μ Γ Γx)
    (hv : ∀ a, (vs a).length = ks.length := by intro _; rfl) (hg : g = gPuts i mks := by rfl) (hn : ks.length = n := by rfl) (hn2 : n ≤ 1000 := by decide) :
    JS 𝔅 Γ Γx (sTup n ms g) (bd f fun a => lf (dputs kvs (ks.zip (vs a)))) (Kn 𝔅 fun zs => Γ.set i (.k (eKs ek ev zs))) :=
  ⟨fun Q L β M r hL S => by
    subst hg
    rcases ja_top h x (WM.run_bd r) hL S with ⟨a, β', ws, M', q, e, hw, S'⟩ | ⟨e, M', β', L', q, em, e1, e2, S2⟩
    · rw [List.length_map] at hw
      have ew : ws = ((vs a).map ev).map .d := sat_ds (L := L) (P := []) hw (by rw [List.nil_append]; exact S')
      obtain ⟨zs, hz, q2⟩ := LO.run_lf q
      have hil := (List.getElem?_eq_some_iff.mp hi).1
      obtain ⟨L2, M2, β2, f1, f2, f3⟩ := puts_ok K hk (vs a) kvs zs L β' M' (hv a) hz (by
        rw [hL]
        refine List.ext_getElem? fun b => ?_
        by_cases z : i = b
        · subst z; rw [List.getElem?_set_self hil, hi]
        · rw [List.getElem?_set_ne z]) hil S'.left
      refine .inl ⟨zs, β2, q2, L2, M2, ?_, f2, f3⟩
      show (ms L.sl M).bindS L.sl _ = _
      rw [e]
      show (if ws.length = n ∧ n ≤ 1000 then match gPuts i mks ws L.sl M' with
        | some (s', M') => SO.nx s' M'
        | none => .bad else .bad) = _
      rw [if_pos ⟨by rw [hw, List.length_map, hv a, hn], hn2⟩, ew, List.map_map]
      have f1 : gPuts i mks ((vs a).map (Val.d ∘ ev)) L.sl M' = some (L2.sl, M2) := f1
      rw [f1]
    · exact .inr ⟨e, L', M', β', q, by show (ms L.sl M).bindS L.sl _ = _; rw [em, e1]; rfl, e2, S2⟩⟩
theorem and_pu (a b : Bool) : (if a = true then pu (μ := μ) b else pu false) = pu (a && b) := by cases a <;> rfl
theorem or_pu (a b : Bool) : (if a = true then pu (μ := μ) true else pu b) = pu (a || b) := by cases a <;> rfl
theorem cz_sortDL (xs ys : List PyData) (v : Val) (M : Mm) (h : sortO xs = some ys) (r : RdAs v M (eL eD xs)) : vSortX [v] M = .ok (.d (eL eD ys)) M := by
  have e : ∀ zs : List PyData, eL eD zs = .list zs := fun zs => by show PyData.list (zs.map id) = _; rw [List.map_id]
  rw [e] at r ⊢
  exact cz_sortD xs ys v M h r
/-! ### defs -/
theorem sat_start {B M : Mm} {Γ0 : Cs} {sl : Sl} (hl : Γ0.length = sl.length) (h : ∀ (i : Nat) (s : Sp) (w : Option Val), Γ0[i]? = some s → sl[i]? = some w → SpOk M s w ∧ s.own = false) (hp : ∃ R, M = B ++ R) (hc : M.all (MO.below M.length) = true) :
    ∃ L : Ps, L.sl = sl ∧ L.cs = Γ0 ∧ Sat L B M := by
  have at_ : ∀ p ∈ Γ0.zip sl, SpOk M p.1 p.2 ∧ p.1.own = false := fun p hp => by
    obtain ⟨i, hi⟩ := List.getElem?_of_mem hp
    rw [List.getElem?_zip_eq_some] at hi
    exact h i p.1 p.2 hi.1 hi.2
  refine ⟨Γ0.zip sl, List.map_snd_zip (by omega), List.map_fst_zip (by omega), ⟨fun p hp => (at_ p hp).1, fun i i' p q j _ h1 _ o1 _ _ _ => ?_, fun p hp j o _ => ?_, hp, hc⟩⟩
  · rw [(at_ p (List.mem_of_getElem? h1)).2] at o1; cases o1
  · rw [(at_ p hp).2] at o; cases o
theorem start_vs {M : Mm} {xs : List PyData} {k : Nat} : ∀ (i : Nat) (s : Sp) (w : Option Val), (xs.map Sp.v ++ List.replicate k Sp.n)[i]? = some s → ((xs.map Val.d).map some ++ List.replicate k none)[i]? = some w → SpOk M s w ∧ s.own = false := by
  induction xs with
  | nil =>
    intro i s w h1 h2
    simp only [List.map_nil, List.nil_append, List.getElem?_replicate] at h1 h2
    split at h1
    · cases h1; exact ⟨trivial, rfl⟩
    · cases h1
  | cons x xs ih =>
    intro i s w h1 h2
    cases i with
    | zero =>
      simp only [List.map_cons, List.cons_append, List.getElem?_cons_zero] at h1 h2
      cases h1; cases h2
      exact ⟨rfl, rfl⟩
    | succ i => exact ih i s w h1 h2
theorem out_kr {y : ρ → PyData} {a : ρ} {o : SO} {β' : 𝔅.T} (k : Kr 𝔅 y a o β') : ∃ R, o.out = .ok (.d (y a)) (𝔅.mem β' ++ R) := by
  rcases k with ⟨M', e, R, h⟩ | ⟨h0, s, M', e, R, h⟩
  · exact ⟨R, by rw [e, h]; rfl⟩
  · exact ⟨R, by rw [e, h, h0]; rfl⟩
theorem fnP_of {n : Nat} {b : SM} {f : α → Option ρ} {xs : α → List PyData} {y : ρ → PyData} (Γ0 : α → Cs) (h : ∀ a M (hM : M.all (MO.below M.length) = true), JS (μ := Option) (Bas.cn M hM) (Γ0 a) Γx b (f a) (Kr _ y))
    (hΓ : ∀ a, Γ0 a = (xs a).map .v ++ List.replicate (n - (xs a).length) .n := by intro _; rfl) : FnP (trim (body n b)) f xs y := by
  intro a r M hf hM
  obtain ⟨L, e1, e2, S⟩ := sat_start (B := M) (M := M) (Γ0 := Γ0 a) (sl := slots0 n ((xs a).map Val.d)) (by rw [hΓ]; unfold slots0; simp) (fun i s w h1 h2 => by
    rw [hΓ] at h1
    unfold slots0 at h2
    rw [List.length_map] at h2
    exact start_vs i s w h1 h2) ⟨[], by simp⟩ hM
  rcases (h a M hM).run (fun x => match x with | .ok r' => r' = r | .er _ => False) L () M ⟨r, hf, rfl⟩ e2 S with ⟨r', β', q, k⟩ | ⟨e, _, _, _, q, _⟩
  · cases q
    obtain ⟨R, ho⟩ := out_kr k
    refine z_trimc (M1 := M) (R := R) ?_ rfl hM
    rw [z_body, ← e1, ho]
    rfl
  · exact q.elim
theorem fnE_of {n : Nat} {b : SM} {f : α → OE ρ} {xs : α → List PyData} {y : ρ → PyData} (Γ0 : α → Cs) (h : ∀ a M (hM : M.all (MO.below M.length) = true), JS (μ := OE) (Bas.cn M hM) (Γ0 a) Γx b (f a) (Kr _ y))
    (hΓ : ∀ a, Γ0 a = (xs a).map .v ++ List.replicate (n - (xs a).length) .n := by intro _; rfl) (htr : ∀ (vs : List Val) (M M' : Mm) (e : Exc), body n b vs M = .er e M' → (∃ R, M' = M ++ R) → M.all (MO.below M.length) = true → trim (body n b) vs M = .er e M) : FnE (trim (body n b)) f xs y := by
  intro a M hM
  obtain ⟨L, e1, e2, S⟩ := sat_start (B := M) (M := M) (Γ0 := Γ0 a) (sl := slots0 n ((xs a).map Val.d)) (by rw [hΓ]; unfold slots0; simp) (fun i s w h1 h2 => by
    rw [hΓ] at h1
    unfold slots0 at h2
    rw [List.length_map] at h2
    exact start_vs i s w h1 h2) ⟨[], by simp⟩ hM
  refine ⟨fun r hf => ?_, fun e hf => ?_⟩
  · rcases (h a M hM).run (fun x => x = .ok r) L () M ⟨.ok r, hf, rfl⟩ e2 S with ⟨r', β', q, k⟩ | ⟨e, _, _, _, q, _⟩
    · cases q
      obtain ⟨R, ho⟩ := out_kr k
      refine z_trimc (M1 := M) (R := R) ?_ rfl hM
      rw [z_body, ← e1, ho]
      rfl
    · cases q
  · rcases (h a M hM).run (fun x => x = .er e) L () M ⟨.er e, hf, rfl⟩ e2 S with ⟨r', β', q, k⟩ | ⟨e', L', M', β', q, ho, _, S'⟩
    · cases q
    · cases q
      exact htr _ M M' _ (by rw [z_body, ← e1, ho]; rfl) S'.pre hM
theorem fnD_of {D : Deck} {j n : Nat} {b : SM} {f : α → Dm ρ} {xs : α → List PyData} {y : ρ → PyData} (Γ0 : α → Cs) (h : ∀ a R0 h0, JS (μ := Dm) (D.B R0 h0) (Γ0 a) Γx b (f a) (Kr _ y))
    (hΓ : ∀ a, Γ0 a = .o j :: ((xs a).map .v ++ List.replicate (n - ((xs a).length + 1)) .n) := by intro _; rfl) : FnD D j (trim (body n b)) f xs y := by
  intro a Q q R hf hM
  have hR := hM
  rw [List.all_append, Bool.and_eq_true] at hR
  have h0 : ∀ q', (D.m0 q' ++ R).all (MO.below (D.n + R.length)) = true := fun q' => by
    rw [List.all_append, Bool.and_eq_true]
    refine ⟨List.all_eq_true.mpr fun x hx => below_mono (by omega) (List.all_eq_true.mp (D.cl q') x hx), ?_⟩
    rw [List.length_append, D.len] at hR
    exact hR.2
  obtain ⟨L, e1, e2, S⟩ := sat_start (B := D.m0 q ++ R) (M := D.m0 q ++ R) (Γ0 := Γ0 a) (sl := slots0 n (.obj j :: (xs a).map Val.d)) (by rw [hΓ]; unfold slots0; simp) (fun i s w h1 h2 => by
    rw [hΓ] at h1
    unfold slots0 at h2
    rw [List.length_cons, List.length_map, List.map_cons, List.cons_append] at h2
    cases i with
    | zero => cases h1; cases h2; exact ⟨rfl, rfl⟩
    | succ i => exact start_vs i s w h1 h2) ⟨[], by simp⟩ hM
  rcases (h a R h0).run (fun x => match x with | .ok r' => Q r' | .er _ => False) L q (D.m0 q ++ R) hf e2 S with ⟨r', β', q', k⟩ | ⟨e, _, _, _, q', _⟩
  · obtain ⟨R', ho⟩ := out_kr k
    refine ⟨r', β', q', z_trimc (M1 := D.m0 β' ++ R) (R := R') ?_ (by rw [List.length_append, List.length_append]; exact congrArg (· + R.length) ((D.len β').trans (D.len q).symm)) ?_⟩
    · rw [z_body, ← e1, ho]
      rfl
    · rw [List.length_append, show (D.m0 q).length = D.n from D.len q]
      exact h0 β'
  · exact q'.elim
/-! ### the deck of the laws -/
def DkD : Deck := ⟨Dk, fun q => q.mem [], 2, fun _ => rfl, fun q => dk_below (by decide), fun q j x e => by
  match j with
  | 0 => cases e
  | 1 => cases e
  | n + 2 => cases e⟩
theorem dk_nf {R0 : Mm} {h0} : ∀ (b : (DkD.B R0 h0).T), ∃ u, ((DkD.B R0 h0).mem b)[1]? = some u ∧ ∀ x, u ≠ .frz x := fun b => ⟨_, rfl, fun x e => by cases e⟩
def drawD (m : Int) : Dm Int := fun Q => (0 < m ∧ m < 1073741824) ∧ ∀ r, 0 ≤ r → r < m → Q r
def pickD (xs : List α) : Dm α := fun Q => (0 < xs.length ∧ xs.length < 1073741824) ∧ ∀ x ∈ xs, Q x
def mixD (e : α → PyData) (xs : List α) : Dm (List α) := fun Q => (Lay (xs.map e) ∧ xs.length ≤ 1000) ∧ ∀ ys, ys.Perm xs → Q ys
theorem fnD_draw {den : Den} (H : ∀ (q : Dk) (rest : Mm) {m : Int}, 0 < m → m < 1073741824 → ∃ (r : Int) (q' : Dk), den [.obj 1, .d (.int m)] (q.mem rest) = .ok (.d (.int r)) (q'.mem rest) ∧ 0 ≤ r ∧ r < m) :
    FnD DkD 1 den (fun a : Int × Unit => drawD a.1) (fun a => [.int a.1]) PyData.int := fun a Q q R hf hM => by
  obtain ⟨r, q', e, h1, h2⟩ := H q R hf.1.1 hf.1.2
  exact ⟨r, q', hf.2 r h1 h2, e⟩
theorem fnD_pick {den : Den} (H : ∀ (q : Dk) (rest : Mm) {ds : List PyData}, 0 < ds.length → ds.length < 1073741824 → ∃ x ∈ ds, ∃ q' : Dk, den [.obj 1, .d (.list ds)] (q.mem rest) = .ok (.d x) (q'.mem rest)) (e : α → PyData) :
    FnD DkD 1 den (fun a : List α × Unit => pickD a.1) (fun a => [eL e a.1]) e := fun a Q q R hf hM => by
  obtain ⟨x, hx, q', e1⟩ := H q R (ds := a.1.map e) (by rw [List.length_map]; exact hf.1.1) (by rw [List.length_map]; exact hf.1.2)
  obtain ⟨y, hy, rfl⟩ := List.mem_map.mp hx
  exact ⟨y, q', hf.2 y hy, e1⟩
theorem perm_map_inv {e : α → γ} : ∀ {ys : List γ} {xs : List α}, ys.Perm (xs.map e) → ∃ zs : List α, ys = zs.map e ∧ zs.Perm xs
  | [], xs, h => by
    have := h.length_eq
    rw [List.length_map, List.length_nil] at this
    cases xs with
    | nil => exact ⟨[], rfl, .refl _⟩
    | cons _ _ => cases this
  | y :: ys, xs, h => by
    have hy : y ∈ xs.map e := h.mem_iff.mp (List.mem_cons_self ..)
    obtain ⟨x, hx, rfl⟩ := List.mem_map.mp hy
    obtain ⟨s, t, rfl⟩ := List.append_of_mem hx
    have h2 : ys.Perm ((s ++ t).map e) := by
      rw [List.map_append, List.map_cons] at h
      have := h.trans List.perm_middle
      rw [List.map_append]
      exact List.Perm.cons_inv this
    obtain ⟨zs, rfl, hz⟩ := perm_map_inv h2
    exact ⟨x :: zs, rfl, (hz.cons x).trans List.perm_middle.symm⟩
theorem fnD_mix {den : Den} (H : ∀ (q : Dk) (rest : Mm) {ds : List PyData}, (q.mem rest).all (MO.below (q.mem rest).length) = true → Lay ds → ds.length ≤ 1000 → ∃ (q' : Dk) (es : List PyData), den [.obj 1, .d (.list ds)] (q.mem rest) = .ok (.d (.list es)) (q'.mem rest) ∧ es.Perm ds) (e : α → PyData) :
    FnD DkD 1 den (fun a : List α × Unit => mixD e a.1) (fun a => [eL e a.1]) (eL e) := fun a Q q R hf hM => by
  obtain ⟨q', es, e1, hp⟩ := H q R (ds := a.1.map e) hM hf.1.1 (by rw [List.length_map]; exact hf.1.2)
  obtain ⟨zs, rfl, hz⟩ := perm_map_inv hp
  exact ⟨zs, q', hf.2 zs hz, e1⟩
/-- the law's own def: it makes its deck first -/
theorem law_of {n : Nat} {b rest : SM} {dk : Den} {ns : List Int} {f : Dm Bool} (hb : b = sSeq (sAsg (mCall 1 dk (mCons (mVar 0) mNil)) (gN 1)) rest) (hd : ∃ q : Dk, dk [.scr ns] [] = .ok (.obj 1) (q.mem [])) (Γ0 : Cs) (h : ∀ h0, JS (μ := Dm) (DkD.B [] h0) Γ0 Γx rest f (Kr _ PyData.bool))
    (hn : 2 ≤ n) (hf : f fun r => r = true) (hΓ : Γ0 = .s ns :: .o 1 :: List.replicate (n - 2) .n := by rfl) : ∃ M', trim (body n b) [.scr ns] [] = .ok (.d (.bool true)) M' := by
  obtain ⟨q, hq⟩ := hd
  have h0 : ∀ q', (DkD.m0 q' ++ []).all (MO.below (DkD.n + ([] : Mm).length)) = true := fun q' => by rw [List.append_nil]; exact DkD.cl q'
  have hs : (sAsg (mCall 1 dk (mCons (mVar 0) mNil)) (gN 1)) (slots0 n [.scr ns]) [] = .nx ((slots0 n [.scr ns]).set 1 (some (.obj 1))) (q.mem []) := by
    show ((((mVar 0 (slots0 n [.scr ns]) []).bind fun x M1 => Out.ok [x] M1).bind fun vs M1 => if vs.length = 1 then dk vs M1 else .bad)).asg _ _ = _
    have : mVar 0 (slots0 n [.scr ns]) [] = .ok (.scr ns) [] := rfl
    rw [this]
    show (dk [.scr ns] []).asg _ _ = _
    rw [hq]
    rfl
  have hsl : (slots0 n [.scr ns]).set 1 (some (.obj 1)) = some (.scr ns) :: some (.obj 1) :: List.replicate (n - 2) none := by
    obtain ⟨m, rfl⟩ : ∃ m, n = m + 2 := ⟨n - 2, by omega⟩
    simp [slots0, List.replicate_succ]
  obtain ⟨L, e1, e2, S⟩ := sat_start (B := DkD.m0 q ++ []) (M := q.mem []) (Γ0 := Γ0) (sl := some (.scr ns) :: some (.obj 1) :: List.replicate (n - 2) none) (by rw [hΓ]; simp) (fun i s w h1 h2 => by
    rw [hΓ] at h1
    match i with
    | 0 => cases h1; cases h2; exact ⟨rfl, rfl⟩
    | 1 => cases h1; cases h2; exact ⟨rfl, rfl⟩
    | i + 2 =>
      simp only [List.getElem?_cons_succ, List.getElem?_replicate] at h1
      split at h1
      · cases h1; exact ⟨trivial, rfl⟩
      · cases h1) ⟨[], by rw [List.append_nil, List.append_nil]; rfl⟩ (DkD.cl q)
  rcases (h h0).run (fun x => match x with | .ok r' => r' = true | .er _ => False) L q (q.mem []) hf e2 S with ⟨r', β', q', k⟩ | ⟨e, _, _, _, q', _⟩
  · dsimp only at q'
    subst q'
    obtain ⟨R', ho⟩ := out_kr k
    refine ⟨_, z_trimc (M1 := []) (R := (DkD.B [] h0).mem β' ++ R') ?_ rfl rfl⟩
    rw [z_body, hb]
    show (SO.seq _ rest).out = _
    rw [hs, hsl, ← e1]
    exact ho
  · exact q'.elim
end Zm
namespace Zm
open PySem PySem.Spec PyProof.Rows L2
open WM (pu bd)
open LO (lf)
variable {𝔅 : Bas} {μ : Type → Type} [LO μ] {α β γ δ τ ρ σ φ ψ κ : Type} {Γ Γx : Cs}
/-! ### expressions that change a list of one's own -/
structure JX2 (𝔅 : Bas) (Γ : Cs) (m : EM) (f : μ α) (sp : α → Sp) (Γ' : α → Cs) : Prop where
  run : ∀ (Q : Res α → Prop) (L : Ps) (β : 𝔅.T) (M : Mm), WM.run f Q → L.cs = Γ → Sat L (𝔅.mem β) M →
    WpE (m L.sl M) (fun w M' => ∃ (a : α) (β' : 𝔅.T) (L' : Ps), Q (.ok a) ∧ L'.sl = L.sl ∧ L'.cs = Γ' a ∧ Sat (L' ++ [(sp a, some w)]) (𝔅.mem β') M') (ErE 𝔅 L [] fun e => Q (.er e))
theorem JX2.cv {m : EM} {f f' : μ α} {sp : α → Sp} {Γ' : α → Cs} (h : JX2 𝔅 Γ m f sp Γ') (e : f = f') : JX2 𝔅 Γ m f' sp Γ' := e ▸ h
def popO (xs : List α) (k : Int) : Option (α × List α) := if -9223372036854775808 ≤ k ∧ k < 9223372036854775808 then match seqIndex? k xs.length with
  | some j => match xs[j]? with
    | some x => some (x, xs.eraseIdx j)
    | none => none
  | none => none else none
def popL (xs : List α) : Option (α × List α) := match xs[xs.length - 1]? with
  | some x => some (x, xs.dropLast)
  | none => none
theorem map_eraseIdx' (e : α → β) (xs : List α) (j : Nat) : (xs.map e).eraseIdx j = (xs.eraseIdx j).map e := by
  induction xs generalizing j with
  | nil => rfl
  | cons x xs ih =>
    cases j with
    | zero => rfl
    | succ j => simp [ih]
theorem jx_pop {i : Nat} {e : EM} {f : μ Int} {y : α → PyData} (xs : List α) (h : JX 𝔅 Γ e f fun k => .v (.int k)) (hi : Γ[i]? = some (.l (xs.map y))) :
    JX2 𝔅 Γ (mM "list" vPop (mVar i) (mCons e mNil)) (bd f fun k => lf (popO xs k)) (fun p => .v (y p.1)) (fun p => Γ.set i (.l (p.2.map y))) :=
  ⟨fun Q L β M r hL S => by
    obtain ⟨j, h1, h2⟩ := own_at S (by rw [hL]; exact hi)
    have hs : mM "list" vPop (mVar i) (mCons e mNil) L.sl M = (e L.sl M).bind fun w M2 => vPop (.obj j) [w] M2 := by
      show ((mVar i L.sl M).bind fun v M1 => if tyOk "list" v M1 = true then _ else _) = _
      rw [mVar_at h1 rfl, rd_lst h2]
      show (if tyOk "list" (.obj j) M = true then ((e L.sl M).bind fun x M1 => Out.ok [x] M1).bind fun vs M2 => vPop (.obj j) vs M2 else _) = _
      rw [if_pos (ty_lst h2)]
      cases e L.sl M <;> rfl
    rw [hs]
    refine WpE.bind ((jx_at h _ L [] β M (WM.run_bd r) hL (by rw [List.append_nil]; exact S)).mono (fun w M' ⟨k, β1, q1, ew, S1⟩ => ?_) fun _ _ h => h)
    rw [List.append_nil] at S1
    obtain ⟨p, hp, q2⟩ := LO.run_lf q1
    unfold popO at hp
    split at hp
    · rename_i hk
      cases e1 : seqIndex? k xs.length with
      | none => rw [e1] at hp; cases hp
      | some n =>
        rw [e1] at hp
        dsimp only at hp
        cases e2 : xs[n]? with
        | none => rw [e2] at hp; cases hp
        | some x =>
          rw [e2] at hp
          cases hp
          obtain ⟨j', k1, k2⟩ := own_at S1 (by rw [hL]; exact hi)
          rw [h1] at k1
          cases k1
          have k3 := (List.getElem?_eq_some_iff.mp k2).1
          obtain ⟨L2, g1, g2, S2⟩ := write_at (sp' := .l ((xs.eraseIdx n).map y)) (u := .lst (((xs.eraseIdx n).map y).map Val.d)) S1 h1 rfl below_lst ⟨j, rfl, by rw [List.getElem?_set_self k3]⟩
          have hv : vPop (.obj j) [.d (.int k)] M' = .ok (.d (y x)) (M'.set j (.lst (((xs.eraseIdx n).map y).map Val.d))) := by
            show (match M'[j]? with
              | some (.lst us) => if -9223372036854775808 ≤ k ∧ k < 9223372036854775808 then match seqIndex? k us.length with
                | some j' => match us[j']? with
                  | some w => Out.ok (rd w M') (M'.set j (.lst (us.eraseIdx j')))
                  | none => .bad
                | none => .bad else .bad
              | _ => .bad) = _
            rw [k2]
            dsimp only
            rw [if_pos hk, List.length_map, List.length_map, e1]
            dsimp only
            rw [List.getElem?_map, List.getElem?_map, e2, map_eraseIdx', map_eraseIdx']
            rfl
          rw [ew, hv]
          exact ⟨(x, xs.eraseIdx n), β1, L2, q2, g1, by rw [g2, hL], S2.push rfl rfl⟩
    · cases hp⟩
theorem jx_pop0 {i : Nat} {y : α → PyData} (xs : List α) (hi : Γ[i]? = some (.l (xs.map y))) :
    JX2 (μ := μ) 𝔅 Γ (mM "list" vPop (mVar i) mNil) (lf (popL xs)) (fun p => .v (y p.1)) (fun p => Γ.set i (.l (p.2.map y))) :=
  ⟨fun Q L β M r hL S => by
    obtain ⟨j, h1, h2⟩ := own_at S (by rw [hL]; exact hi)
    have hs : mM "list" vPop (mVar i) mNil L.sl M = vPop (.obj j) [] M := by
      show ((mVar i L.sl M).bind fun v M1 => if tyOk "list" v M1 = true then _ else _) = _
      rw [mVar_at h1 rfl, rd_lst h2]
      show (if tyOk "list" (.obj j) M = true then _ else _) = _
      rw [if_pos (ty_lst h2)]
      rfl
    rw [hs]
    obtain ⟨p, hp, q2⟩ := LO.run_lf r
    unfold popL at hp
    cases e2 : xs[xs.length - 1]? with
    | none => rw [e2] at hp; cases hp
    | some x =>
      rw [e2] at hp
      cases hp
      have k3 := (List.getElem?_eq_some_iff.mp h2).1
      obtain ⟨L2, g1, g2, S2⟩ := write_at (sp' := .l (xs.dropLast.map y)) (u := .lst ((xs.dropLast.map y).map Val.d)) S h1 rfl below_lst ⟨j, rfl, by rw [List.getElem?_set_self k3]⟩
      have hv : vPop (.obj j) [] M = .ok (.d (y x)) (M.set j (.lst ((xs.dropLast.map y).map Val.d))) := by
        show (match M[j]? with
          | some (.lst us) => match us[us.length - 1]? with
            | some w => Out.ok (rd w M) (M.set j (.lst us.dropLast))
            | none => .bad
          | _ => .bad) = _
        rw [h2]
        dsimp only
        rw [List.length_map, List.length_map, List.getElem?_map, List.getElem?_map, e2, List.map_dropLast, List.map_dropLast]
        rfl
      rw [hv]
      exact ⟨(x, xs.dropLast), β, L2, q2, g1, by rw [g2, hL], S2.push rfl rfl⟩⟩
theorem jx2_top {m : EM} {f : μ α} {sp : α → Sp} {Γ' : α → Cs} (h : JX2 𝔅 Γ m f sp Γ') (x : XO μ Γ Γx) {Q : Res α → Prop} {L : Ps} {β : 𝔅.T} {M : Mm} (r : WM.run f Q) (hL : L.cs = Γ) (S : Sat L (𝔅.mem β) M) :
    (∃ a β' w M' L', Q (.ok a) ∧ m L.sl M = .ok w M' ∧ L'.sl = L.sl ∧ L'.cs = Γ' a ∧ Sat (L' ++ [(sp a, some w)]) (𝔅.mem β') M') ∨ ∃ e M' β' L', Q (.er e) ∧ m L.sl M = .er e M' ∧ L'.sl = L.sl ∧ L'.cs = Γx ∧ Sat L' (𝔅.mem β') M' := by
  rcases x with hn | w
  · have := h.run _ L β M (NE.ne r) hL S
    cases em : m L.sl M with
    | ok w M' =>
      rw [em] at this
      obtain ⟨a, β', L', q, e1, e2, S'⟩ := this
      exact .inl ⟨a, β', w, M', L', q, rfl, e1, e2, S'⟩
    | er e M' => rw [em] at this; exact this.1.elim
    | bad => rw [em] at this; exact this.elim
  · have := h.run Q L β M r hL S
    cases em : m L.sl M with
    | ok w M' =>
      rw [em] at this
      obtain ⟨a, β', L', q, e1, e2, S'⟩ := this
      exact .inl ⟨a, β', w, M', L', q, rfl, e1, e2, S'⟩
    | er e M' =>
      rw [em] at this
      obtain ⟨q, β', S'⟩ := this
      rw [List.append_nil] at S'
      obtain ⟨L', e1, e2, S2⟩ := sat_weak S' (by rw [hL]; exact w)
      exact .inr ⟨e, M', β', L', q, rfl, e1, e2, S2⟩
    | bad => rw [em] at this; exact this.elim
theorem js_asg2 {i : Nat} {m : EM} {f : μ α} {sp : α → Sp} {Γ' : α → Cs} (h : JX2 𝔅 Γ m f sp Γ') (x : XO μ Γ Γx) : JS 𝔅 Γ Γx (sAsg m (gN i)) f (Kn 𝔅 fun a => (Γ' a).set i (sp a)) :=
  ⟨fun Q L β M r hL S => by
    rcases jx2_top h x r hL S with ⟨a, β', w, M', L1, q, e, e1, e2, S'⟩ | ⟨e, M', β', L', q, em, e1, e2, S2⟩
    · have S2 : Sat (L1.set i (sp a, some w) ++ []) (𝔅.mem β') M' := Sat.set S' i
      rw [List.append_nil] at S2
      exact .inl ⟨a, β', q, L1.set i (sp a, some w), M', by show (m L.sl M).asg L.sl (gN i) = _; rw [e, set_sl, e1]; rfl, by rw [set_cs, e2], S2⟩
    · exact .inr ⟨e, L', M', β', q, by show (m L.sl M).asg L.sl (gN i) = _; rw [em, e1]; rfl, e2, S2⟩⟩
theorem js_drop2 {m : EM} {f : μ α} {sp : α → Sp} {Γ' : α → Cs} (h : JX2 𝔅 Γ m f sp Γ') (x : XO μ Γ Γx) : JS 𝔅 Γ Γx (sDrop m) f (Kn 𝔅 Γ') :=
  ⟨fun Q L β M r hL S => by
    rcases jx2_top h x r hL S with ⟨a, β', w, M', L1, q, e, e1, e2, S'⟩ | ⟨e, M', β', L', q, em, e1, e2, S2⟩
    · exact .inl ⟨a, β', q, L1, M', by show (m L.sl M).bindS L.sl _ = _; rw [e, e1]; rfl, e2, S'.left⟩
    · exact .inr ⟨e, L', M', β', q, by show (m L.sl M).bindS L.sl _ = _; rw [em, e1]; rfl, e2, S2⟩⟩
/-- got.append(rest.pop(..)) -/
theorem js_append2 {i : Nat} {e : EM} {f : μ α} {g : α → γ} {Γ' : α → Cs} {y : γ → PyData} (xs : List γ) (h : JX2 𝔅 Γ e f (fun a => .v (y (g a))) Γ') (hi : Γ[i]? = some (.l (xs.map y))) (hi2 : ∀ a, (Γ' a)[i]? = some (.l (xs.map y))) (x : XO μ Γ Γx) :
    JS 𝔅 Γ Γx (sDrop (mM "list" vAppend (mVar i) (mCons e mNil))) (bd f fun a => bd (lf (psh xs (g a))) fun z => pu (z, a)) (Kn 𝔅 fun z => (Γ' z.2).set i (.l (z.1.map y))) :=
  ⟨fun Q L β M r hL S => by
    obtain ⟨j, h1, h2⟩ := own_at S (by rw [hL]; exact hi)
    have hs : sDrop (mM "list" vAppend (mVar i) (mCons e mNil)) L.sl M = (e L.sl M).bindS L.sl fun w M2 => (vAppend (.obj j) [w] M2).bindS L.sl fun _ M3 => .nx L.sl M3 := by
      show ((mVar i L.sl M).bind fun v M1 => if tyOk "list" v M1 = true then _ else _).bindS _ _ = _
      rw [mVar_at h1 rfl, rd_lst h2]
      show (if tyOk "list" (.obj j) M = true then ((e L.sl M).bind fun x M1 => Out.ok [x] M1).bind fun vs M2 => vAppend (.obj j) vs M2 else _).bindS _ _ = _
      rw [if_pos (ty_lst h2)]
      cases e L.sl M <;> rfl
    rw [hs]
    rcases jx2_top h x (WM.run_bd r) hL S with ⟨a, β', w, M', L1, q, em, f1, f2, S'⟩ | ⟨e, M', β', L', q, em, e1, e2, S2⟩
    · have s : some w = some (Val.d (y (g a))) := S'.ok (.v (y (g a)), some w) (by simp)
      cases s
      obtain ⟨zs, hz, q2⟩ := LO.run_lf (WM.run_bd q)
      unfold psh at hz
      split at hz
      · rename_i hl
        cases hz
        obtain ⟨j', k1, k2⟩ := own_at S'.left (by rw [f2]; exact hi2 a)
        have hj : j' = j := by
          have a1 : L1.sl[i]? = some (some (.obj j')) := by rw [List.getElem?_map, k1]; rfl
          have a2 : L.sl[i]? = some (some (.obj j)) := by rw [List.getElem?_map, h1]; rfl
          rw [f1, a2] at a1
          cases a1
          rfl
        subst hj
        have k3 := (List.getElem?_eq_some_iff.mp k2).1
        obtain ⟨L2, e1, e2, S2⟩ := write_at (sp' := .l ((xs ++ [g a]).map y)) (u := .lst (((xs ++ [g a]).map y).map Val.d)) S'.left k1 rfl below_lst ⟨_, rfl, by rw [List.getElem?_set_self k3]⟩
        refine .inl ⟨(xs ++ [g a], a), β', WM.run_pu q2, L2, _, ?_, by rw [e2, f2], S2⟩
        rw [em]
        show (vAppend (.obj j') [.d (y (g a))] M').bindS L.sl _ = _
        have ha : vAppend (.obj j') [.d (y (g a))] M' = .ok (.d .none) (M'.set j' (.lst (((xs ++ [g a]).map y).map Val.d))) := by
          show (match M'[j']? with
            | some (.lst us) => if us.length < 16777216 then Out.ok (Val.d .none) (M'.set j' (.lst (us ++ [Val.d (y (g a))]))) else .bad
            | _ => .bad) = _
          rw [k2]
          show (if ((xs.map y).map Val.d).length < 16777216 then _ else _) = _
          rw [if_pos (by rw [List.length_map, List.length_map]; exact hl), List.map_append, List.map_append]
          rfl
        rw [ha, e1, f1]
        rfl
      · cases hz
    · exact .inr ⟨e, L', M', β', q, by rw [em, e1]; rfl, e2, S2⟩⟩
/-! ### while -/
def tnE (g : σ → μ φ) (b : σ → μ φ) (r : ρ → μ φ) : Tn σ ρ → μ φ
  | .go s => g s
  | .br s => b s
  | .rt x => r x
def whM (c : σ → μ Bool) (b : σ → μ (Tn σ ρ)) : Nat → σ → μ (Fi σ ρ)
  | 0, _ => lf none
  | n + 1, s => bd (c s) fun k => if k = true then bd (b s) (tnE (fun s' => whM c b n s') (fun s' => pu (.dn s')) fun r => pu (.rt r)) else pu (.dn s)
class WH (μ : Type → Type) extends LO μ where
  wh : {α : Type} → (Nat → μ α) → μ α
  run_wh : ∀ {α : Type} {F : Nat → μ α} {Q : Res α → Prop}, run (wh F) Q → ∃ n, run (F n) Q
open Classical in
noncomputable instance : WH Option where
  wh F := if h : ∃ n, F n ≠ none then F (Classical.choose h) else none
  run_wh := fun {_ F Q} r => by
    by_cases h : ∃ n, F n ≠ none
    · rw [dif_pos h] at r; exact ⟨_, r⟩
    · rw [dif_neg h] at r
      obtain ⟨a, e, _⟩ := r
      cases e
instance : WH Dm where
  wh F := fun Q => ∃ n, F n Q
  run_wh := id
instance : WH DE where
  wh F := fun Q => ∃ n, F n Q
  run_wh := id
end Zm
namespace Zm
open PySem PySem.Spec PyProof.Rows L2
open WM (pu bd)
open LO (lf)
variable {𝔅 : Bas} {μ : Type → Type} [WH μ] {α β γ δ τ ρ σ φ ψ κ : Type} {Γ Γx : Cs}
theorem whM_run {c : TM} {b : SM} {Γσ : σ → Cs} {y : ρ → PyData} {fc : σ → μ Bool} {fb : σ → μ (Tn σ ρ)} (hc : ∀ st, JT 𝔅 (Γσ st) c (fc st)) (hx : ∀ st, XO μ (Γσ st) Γx) (hb : ∀ st, JS 𝔅 (Γσ st) Γx b (fb st) (Ks 𝔅 Γσ y)) :
    ∀ (n : Nat) (st : σ) (Q : Res (Fi σ ρ) → Prop) (L : Ps) (β : 𝔅.T) (M : Mm), WM.run (whM fc fb n st) Q → L.cs = Γσ st → Sat L (𝔅.mem β) M →
      (∃ a β', Q (.ok a) ∧ Kf 𝔅 Γσ y a (whN c b n L.sl M) β') ∨ ErS 𝔅 Γx (fun e => Q (.er e)) (whN c b n L.sl M)
  | 0, st, Q, L, β, M, r, hL, S => by
    obtain ⟨a, h, _⟩ := LO.run_lf r
    cases h
  | n + 1, st, Q, L, β, M, r, hL, S => by
    have hw : ∀ k M', c L.sl M = .ok k M' → whN c b (n + 1) L.sl M = if k = true then (match b L.sl M' with
        | .nx s2 M2 => whN c b n s2 M2
        | .ct s2 M2 => whN c b n s2 M2
        | .bk s2 M2 => .nx s2 M2
        | o => o) else .nx L.sl M' := fun k M' e => by
      show (c L.sl M).bindS L.sl _ = _
      rw [e]
      rfl
    rcases jt_top (hc st) (hx st) (WM.run_bd r) hL S with ⟨k, β1, M1, q1, e1, S1⟩ | ⟨e, M', β', L', q, em, e1, e2, S2⟩
    · rw [hw k M1 e1]
      dsimp only at q1
      cases k with
      | false => exact .inl ⟨.dn st, β1, WM.run_pu q1, L, M1, rfl, hL, S1⟩
      | true =>
        rw [if_pos rfl] at q1 ⊢
        rcases (hb st).run _ L β1 M1 (WM.run_bd q1) hL S1 with ⟨a, β', q, k⟩ | ⟨e, L', M', β', q, eb, c', S'⟩
        · dsimp only at q
          rcases k with k | ⟨s', rfl, L', M', eb, c', S'⟩
          · cases a with
            | go s' =>
              obtain ⟨L', M', eb, c', S'⟩ := k
              rw [eb]
              exact whM_run hc hx hb n s' Q L' β' M' q c' S'
            | br s' =>
              obtain ⟨L', M', eb, c', S'⟩ := k
              rw [eb]
              exact .inl ⟨.dn s', β', WM.run_pu q, L', M', rfl, c', S'⟩
            | rt r' =>
              obtain ⟨M', eb, hp⟩ := k
              rw [eb]
              exact .inl ⟨.rt r', β', WM.run_pu q, M', rfl, hp⟩
          · rw [eb]
            exact whM_run hc hx hb n s' Q L' β' M' q c' S'
        · rw [eb]
          exact .inr ⟨e, L', M', β', q, rfl, c', S'⟩
    · exact .inr ⟨e, L', M', β', q, by show (c L.sl M).bindS L.sl _ = _; rw [em, e1]; rfl, e2, S2⟩
theorem js_while {c : TM} {b : SM} {Γσ : σ → Cs} {y : ρ → PyData} {fc : σ → μ Bool} {fb : σ → μ (Tn σ ρ)} (st : σ) (hc : ∀ st, JT 𝔅 (Γσ st) c (fc st)) (hx : ∀ st, XO μ (Γσ st) Γx) (w : Wk Γ (Γσ st)) (hb : ∀ st, JS 𝔅 (Γσ st) Γx b (fb st) (Ks 𝔅 Γσ y)) :
    JS 𝔅 Γ Γx (sWhile c b) (WH.wh fun n => whM fc fb n st) (Kf 𝔅 Γσ y) :=
  ⟨fun Q L β M r hL S => by
    obtain ⟨n, r⟩ := WH.run_wh r
    obtain ⟨L', e1, c1, S1⟩ := sat_weak S (by rw [hL]; exact w)
    have := whM_run hc hx hb n st Q L' β M r c1 S1
    rw [e1] at this
    have hs : sWhile c b L.sl M = whN c b n L.sl M := sWhile_of rfl (by
      intro z
      rw [z] at this
      rcases this with ⟨a, β', _, k⟩ | ⟨_, _, _, _, _, h, _⟩
      · cases a with
        | dn s => obtain ⟨_, _, h, _⟩ := k; cases h
        | rt r => obtain ⟨_, h, _⟩ := k; cases h
      · cases h)
    rw [hs]
    exact this⟩
end Zm
namespace Zm
open PySem PySem.Spec PyProof.Rows L2
open WM (pu bd)
open LO (lf)
variable {α β γ δ τ ρ σ φ ψ κ : Type}
theorem FnD.weaken {D : Deck} {j : Nat} {den : Den} {f f' : α → Dm ρ} {xs : α → List PyData} {y : ρ → PyData} (h : FnD D j den f xs y) (w : ∀ a Q, f' a Q → f a Q) : FnD D j den f' xs y :=
  fun a Q q R hf hM => h a Q q R (w a Q hf) hM
theorem jo_of {𝔅 : Bas} {μ : Type → Type} [LO μ] {Γ : Cs} {m : EM} {f : μ α} {x : α → PyData} (h : JX 𝔅 Γ m f fun a => .v (x a)) : JO 𝔅 Γ m f x := JX.ro h
/-! ### the deck, by the wider words -/
section
variable {q : Dk} {rest : Mm}
theorem dkX0 : vIxX (.obj 1) (.d (.int 0)) (q.mem rest) = .ok (.obj 0) (q.mem rest) := rfl
theorem dkX1 : vIxX (.obj 1) (.d (.int 1)) (q.mem rest) = .ok (.d (.int q.st)) (q.mem rest) := rfl
theorem dkX2 : vIxX (.obj 1) (.d (.int 2)) (q.mem rest) = .ok (.d (.int q.n)) (q.mem rest) := rfl
theorem dkX00 {c : Int} {cs : List Int} (h : q.cells = c :: cs) : vIxX (.obj 0) (.d (.int 0)) (q.mem rest) = .ok (.d (.int c)) (q.mem rest) := dk_ix00 h
theorem dkX_setn (v : Int) : vSetX (.obj 1) (.d (.int 2)) (.d (.int v)) (q.mem rest) = some ((Dk.mk q.cells q.st v q.pos).mem rest) := rfl
theorem dkX_set0 {c v : Int} {cs : List Int} (hp : ∀ x ∈ c :: cs, 0 ≤ x) (hv : 0 ≤ v) {st n : Int} :
    vSetX (.obj 0) (.d (.int 0)) (.d (.int v)) ((Dk.mk (c :: cs) st n hp).mem rest) = some ((Dk.mk (v :: cs) st n (fun x h => by rcases List.mem_cons.mp h with rfl | h; exact hv; exact hp x (List.mem_cons_of_mem _ h))).mem rest) := dk_set0 hp hv
theorem z_ixXl {M : Mm} {i : Int} {ds : List PyData} {x : PyData} (h : atI ds i = some x) : vIxX (.d (.list ds)) (.d (.int i)) M = .ok (.d x) M := by
  show (match atI ds i with | some d => Out.ok (Val.d d) M | none => .bad) = _
  rw [h]
end
/-! ### a drawn row -/
/-- what _law_mixed reckons -/
noncomputable def mixP (e : α → PyData) (xs : List α) : Dm (List α) :=
  bd (pu (xs, ([] : List α), ())) fun a => bd (WH.wh fun n => whM (fun st : List α × List α => lf (neO (eL e st.1) (eL e []))) (fun st : List α × List α => bd (bd (bd (drawD (st.1.length : Int)) fun k => lf (popO st.1 k)) fun p => bd (lf (psh st.2 p.1)) fun z => pu (z, p)) fun z => pu (Tn.go (z.2.2, z.1))) n (a.1, a.2.1))
    (fiE (fun st => pu st.2) fun r : List α => pu r)
theorem perm_erase' : ∀ {l : List α} {n : Nat} {x : α}, l[n]? = some x → (x :: l.eraseIdx n).Perm l
  | [], n, x, h => by simp at h
  | y :: l, 0, x, h => by simp at h; subst h; exact .refl _
  | y :: l, n + 1, x, h => by
    have ih := perm_erase' (l := l) (n := n) (x := x) (by simpa using h)
    exact (List.Perm.swap y x _).trans (ih.cons y)
theorem neO_nil {e : α → PyData} {xs : List α} (h : Lay (xs.map e)) : neO (eL e xs) (eL e []) = some (!xs.isEmpty) := by
  unfold neO eqO
  have hs : SeqAt.shaped (eL e xs) = true := h.shaped
  cases xs with
  | nil => rfl
  | cons x xs =>
    show Option.map _ (match eqAtom (.list (e x :: xs.map e)) (.list []) with
      | some r => some r
      | none => if (SeqAt.shaped (eL e (x :: xs)) && SeqAt.shaped (.list [])) = true then some _ else none) = _
    rw [hs]
    rfl
theorem seqIndex_in {k : Int} {n : Nat} (h0 : 0 ≤ k) (hn : k < n) : seqIndex? k n = some k.toNat := by
  unfold seqIndex?
  simp only [if_neg (show ¬ k < 0 by omega)]
  rw [if_pos (by rw [Bool.and_eq_true, decide_eq_true_eq, decide_eq_true_eq]; omega)]
theorem mix_turns {e : α → PyData} {Q : List α → Prop} : ∀ (n : Nat) (rs gs : List α), rs.length = n → Lay (rs.map e) → gs.length + rs.length ≤ 1000 → (∀ ys, ys.Perm (gs ++ rs) → Q ys) →
    whM (μ := Dm) (ρ := List α) (fun st : List α × List α => lf (neO (eL e st.1) (eL e []))) (fun st : List α × List α => bd (bd (bd (drawD (st.1.length : Int)) fun k => lf (popO st.1 k)) fun p => bd (lf (psh st.2 p.1)) fun z => pu (z, p)) fun z => pu (Tn.go (z.2.2, z.1))) (n + 1) (rs, gs)
      (fun t => fiE (μ := Dm) (fun st => pu st.2) (fun r : List α => pu r) t Q)
  | 0, rs, gs, hn, hl, hb, hq => by
    have : rs = [] := List.length_eq_zero_iff.mp hn
    subst this
    refine ⟨false, neO_nil hl, ?_⟩
    exact hq gs (by rw [List.append_nil])
  | n + 1, rs, gs, hn, hl, hb, hq => by
    have hne : (!rs.isEmpty) = true := by cases rs with | nil => cases hn | cons _ _ => rfl
    refine ⟨true, by rw [neO_nil hl, hne], ?_⟩
    refine ⟨⟨by show (0 : Int) < (rs.length : Int); omega, by show (rs.length : Int) < _; omega⟩, fun r h0 h1 => ?_⟩
    have hr : r.toNat < rs.length := by have : r < (rs.length : Int) := h1; omega
    have hx : rs[r.toNat]? = some rs[r.toNat] := List.getElem?_eq_getElem hr
    generalize rs[r.toNat] = x at hx
    have hp := perm_erase' hx
    have hpl := hp.length_eq
    rw [List.length_cons] at hpl
    refine ⟨(x, rs.eraseIdx r.toNat), ?_, ⟨gs ++ [x], ?_, ?_⟩⟩
    · show popO rs r = _
      unfold popO
      rw [if_pos (by omega), seqIndex_in h0 h1]
      dsimp only
      rw [hx]
    · show psh gs x = _
      unfold psh
      rw [if_pos (by omega)]
    · refine mix_turns n (rs.eraseIdx r.toNat) (gs ++ [x]) (by omega) (hl.sub fun z hz => ?_) (by rw [List.length_append, List.length_singleton]; omega) fun ys hy => hq ys (hy.trans ?_)
      · obtain ⟨w, hw, rfl⟩ := List.mem_map.mp hz
        exact List.mem_map.mpr ⟨w, List.mem_of_mem_eraseIdx hw, rfl⟩
      · rw [List.append_assoc]
        exact List.Perm.append_left gs hp
theorem mix_le (e : α → PyData) (xs : List α) (Q : List α → Prop) (h : mixD e xs Q) : mixP e xs Q :=
  ⟨xs.length + 1, mix_turns xs.length xs [] rfl h.1.1 (by have := h.1.2; simpa using this) fun ys hy => h.2 ys (by simpa using hy)⟩
end Zm
/-! Plain words about the printed functions: how they are reckoned, loops by what stays so. -/
namespace Zm
open PySem PySem.Spec PyProof.Rows L2
open WM (pu bd)
open LO (lf)
variable {α β γ δ τ ρ σ φ ψ κ : Type}
/-! ### Option -/
theorem ev_bd {a : α} {f : α → Option β} : bd (μ := Option) (some a) f = f a := rfl
theorem ev_pu {a : α} : pu (μ := Option) a = some a := rfl
theorem ev_lf {x : Option α} : lf (μ := Option) x = x := rfl
theorem ev_bdn {f : α → Option β} : bd (μ := Option) none f = none := rfl
theorem ev_for {b : σ → τ → Option σ} {g : σ → τ → σ} : ∀ (xs : List τ) (s : σ), (∀ x ∈ xs, ∀ s, b s x = some (g s x)) → forM' b xs s = some (xs.foldl g s)
  | [], s, _ => rfl
  | x :: xs, s, h => by
    show bd (b s x) _ = _
    rw [h x (List.mem_cons_self ..)]
    exact ev_for xs _ fun y hy => h y (List.mem_cons_of_mem _ hy)
/-- a loop that hands on s: what stays so, with what has been walked -/
theorem ev_forI {b : σ → τ → Option σ} (I : List τ → σ → Prop) (xs : List τ) (s : σ) (h0 : I [] s) (h : ∀ pre x post, xs = pre ++ x :: post → ∀ s, I pre s → ∃ s', b s x = some s' ∧ I (pre ++ [x]) s') : ∃ s', forM' b xs s = some s' ∧ I xs s' := by
  suffices H : ∀ post pre s, xs = pre ++ post → I pre s → ∃ s', forM' b post s = some s' ∧ I xs s' from H xs [] s rfl h0
  intro post
  induction post with
  | nil => intro pre s e hi; rw [List.append_nil] at e; subst e; exact ⟨s, rfl, hi⟩
  | cons x post ih =>
    intro pre s e hi
    obtain ⟨s', e1, hi'⟩ := h pre x post e s hi
    obtain ⟨s2, e2, hi2⟩ := ih (pre ++ [x]) s' (by rw [e, List.append_assoc]; rfl) hi'
    refine ⟨s2, ?_, hi2⟩
    show bd (b s x) _ = _
    rw [e1]
    exact e2
/-- a loop that looks for something: it ends at the first one -/
theorem ev_find {b : Unit → τ → Option (Tn Unit ρ)} (p : τ → Option ρ) : ∀ xs : List τ, (∀ x ∈ xs, b () x = some (match p x with | some r => Tn.rt r | none => Tn.go ())) → forT b xs () = some (match xs.findSome? p with | some r => Fi.rt r | none => Fi.dn ())
  | [], _ => rfl
  | x :: xs, h => by
    show bd (b () x) _ = _
    rw [h x (List.mem_cons_self ..), List.findSome?_cons]
    cases p x with
    | some r => rfl
    | none => exact ev_find p xs fun y hy => h y (List.mem_cons_of_mem _ hy)
theorem ev_cmp {t : τ → Option Bool} {e : τ → Option γ} (p : τ → Bool) (g : τ → γ) : ∀ xs : List τ, (∀ x ∈ xs, t x = some (p x)) → (∀ x ∈ xs, p x = true → e x = some (g x)) → cmpM t e xs = some ((xs.filter p).map g)
  | [], _, _ => rfl
  | x :: xs, h1, h2 => by
    unfold cmpM
    rw [h1 x (List.mem_cons_self ..), ev_bd, ev_cmp p g xs (fun y hy => h1 y (List.mem_cons_of_mem _ hy)) fun y hy => h2 y (List.mem_cons_of_mem _ hy), List.filter_cons]
    cases hp : p x with
    | true =>
      rw [if_pos rfl, if_pos rfl, h2 x (List.mem_cons_self ..) hp]
      rfl
    | false => rw [if_neg (by decide), if_neg (by decide)]
/-- a loop that puts something behind a list for some items -/
theorem ev_fpush {b : List γ → τ → Option (List γ)} (p : τ → Bool) (g : τ → γ) : ∀ (xs : List τ) (s : List γ), (∀ x ∈ xs, ∀ s : List γ, s.length < 16777216 → b s x = if p x = true then some (s ++ [g x]) else some s) → s.length + xs.length ≤ 16777216 → forM' b xs s = some (s ++ (xs.filter p).map g)
  | [], s, _, _ => by rw [List.filter_nil, List.map_nil, List.append_nil]; rfl
  | x :: xs, s, h, hl => by
    rw [List.length_cons] at hl
    show bd (b s x) _ = _
    rw [h x (List.mem_cons_self ..) s (by omega), List.filter_cons]
    have h' : ∀ y ∈ xs, ∀ s : List γ, s.length < 16777216 → b s y = if p y = true then some (s ++ [g y]) else some s := fun y hy => h y (List.mem_cons_of_mem _ hy)
    cases p x with
    | true =>
      rw [if_pos rfl, if_pos rfl, ev_bd, ev_fpush p g xs (s ++ [g x]) h' (by rw [List.length_append, List.length_singleton]; omega), List.map_cons, List.append_assoc]
      rfl
    | false =>
      rw [if_neg (by decide), if_neg (by decide), ev_bd]
      exact ev_fpush p g xs s h' (by omega)
/-- .. or some things for each -/
theorem ev_fext {b : List γ → τ → Option (List γ)} (g : τ → List γ) (m : Nat) : ∀ (xs : List τ) (s : List γ), (∀ x ∈ xs, ∀ s : List γ, s.length + m ≤ 16777216 → b s x = some (s ++ g x) ∧ (g x).length ≤ m) → s.length + xs.length * m ≤ 16777216 → forM' b xs s = some (s ++ xs.flatMap g)
  | [], s, _, _ => by rw [List.flatMap_nil, List.append_nil]; rfl
  | x :: xs, s, h, hl => by
    rw [List.length_cons, Nat.succ_mul] at hl
    obtain ⟨e, hg⟩ := h x (List.mem_cons_self ..) s (by omega)
    show bd (b s x) _ = _
    rw [e, ev_bd, ev_fext g m xs (s ++ g x) (fun y hy => h y (List.mem_cons_of_mem _ hy)) (by rw [List.length_append]; omega), List.flatMap_cons, List.append_assoc]
theorem flatMap_len {g : τ → List γ} {m : Nat} : ∀ xs : List τ, (∀ x ∈ xs, (g x).length ≤ m) → (xs.flatMap g).length ≤ xs.length * m
  | [], _ => Nat.zero_le _
  | x :: xs, h => by
    rw [List.flatMap_cons, List.length_append, List.length_cons, Nat.succ_mul]
    have := h x (List.mem_cons_self ..)
    have := flatMap_len xs fun y hy => h y (List.mem_cons_of_mem _ hy)
    omega
theorem dput_mem [DecidableEq κ] {kvs : List (κ × α)} {k : κ} {v : α} {p : κ × α} (h : p ∈ dput kvs k v) : p ∈ kvs ∨ (p.1 = k ∧ p.2 = v) := by
  unfold dput at h
  split at h
  · obtain ⟨q, hq, e⟩ := List.mem_map.mp h
    split at e
    · rename_i hk
      subst e
      exact .inr ⟨hk, rfl⟩
    · subst e; exact .inl hq
  · rcases List.mem_append.mp h with h | h
    · exact .inl h
    · rw [List.mem_singleton.mp h]; exact .inr ⟨rfl, rfl⟩
theorem dput_len [DecidableEq κ] {kvs : List (κ × α)} {k : κ} {v : α} : (dput kvs k v).length ≤ kvs.length + 1 := by
  unfold dput
  split
  · rw [List.length_map]; omega
  · rw [List.length_append, List.length_singleton]; exact Nat.le_refl _
theorem dputO_ok [DecidableEq κ] {kvs : List (κ × α)} {k : κ} {v : α} (h : kvs.length < 16777216) : dputO kvs k v = some (dput kvs k v) := if_pos h
theorem dget_mem [DecidableEq κ] {kvs : List (κ × α)} {k : κ} {v : α} (h : dget kvs k = some v) : (k, v) ∈ kvs := by
  unfold dget at h
  cases q : kvs.find? fun p => decide (p.1 = k) with
  | none => rw [q] at h; cases h
  | some p =>
    rw [q] at h
    cases h
    have h1 := List.mem_of_find?_eq_some q
    have h2 := List.find?_some q
    rw [← of_decide_eq_true h2]
    exact h1
theorem lim_ok {xs : List α} (h : xs.length ≤ 16777216) : lim xs = some xs := if_pos h
theorem psh_ok {xs : List α} {a : α} (h : xs.length < 16777216) : psh xs a = some (xs ++ [a]) := if_pos h
theorem ext_ok {xs ys : List α} (h : xs.length + ys.length ≤ 16777216) : ext xs ys = some (xs ++ ys) := if_pos h
theorem cat_ok {xs ys : List α} (h : xs.length + ys.length ≤ 16777216) : catO xs ys = some (xs ++ ys) := if_pos h
theorem ran1_ok {j : Int} (h1 : -4611686018427387904 ≤ j) (h2 : j < 4611686018427387904) : ran1 j = some (ran 0 j) := if_pos (smallR_lit h1 h2)
theorem ran2_ok {i j : Int} (h1 : -4611686018427387904 ≤ i) (h2 : i < 4611686018427387904) (h3 : -4611686018427387904 ≤ j) (h4 : j < 4611686018427387904) : ran2 i j = some (ran i j) := if_pos ⟨smallR_lit h1 h2, smallR_lit h3 h4⟩
theorem rg1_ok {j : Int} (h1 : 0 ≤ j) (h2 : j ≤ 16777216) : rg1 j = some (ran 0 j) := if_pos (okR_le h1 h2)
theorem mem_ran {lo hi x : Int} : x ∈ ran lo hi ↔ lo ≤ x ∧ x < hi := by
  unfold ran
  rw [List.mem_map]
  constructor
  · rintro ⟨n, hn, rfl⟩
    have := List.mem_range.mp hn
    omega
  · rintro ⟨h1, h2⟩
    exact ⟨(x - lo).toNat, List.mem_range.mpr (by omega), by omega⟩
theorem len_ran {lo hi : Int} : (ran lo hi).length = (hi - lo).toNat := by unfold ran; simp
theorem nodup_ran (lo hi : Int) : (ran lo hi).Nodup := by
  unfold ran
  refine List.pairwise_map.mpr (List.Pairwise.imp ?_ List.nodup_range)
  intro i j h e
  have e : lo + (i : Int) = lo + (j : Int) := e
  exact h (by omega)
theorem asc_ran (lo hi : Int) : (ran lo hi).Pairwise (· < ·) := by
  unfold ran
  exact List.pairwise_map.mpr (List.Pairwise.imp (fun {i j} (h : i < j) => Int.add_lt_add_left (Int.ofNat_lt.mpr h) lo) List.pairwise_lt_range)
theorem ixO_nat {xs : List α} {i : Nat} : ixO xs (i : Int) = xs[i]? := by
  unfold ixO atI ixN
  by_cases h : i < xs.length
  · rw [if_pos (by omega), if_pos (by omega)]; rfl
  · rw [if_pos (by omega), if_neg (by omega)]
    exact (List.getElem?_eq_none_iff.mpr (by omega)).symm
theorem ixD_tup {xs : List PyData} {i : Nat} : ixD (.tuple xs) (i : Int) = xs[i]? := ixO_nat (xs := xs)
theorem ixD_lst {xs : List PyData} {i : Nat} : ixD (.list xs) (i : Int) = xs[i]? := ixO_nat (xs := xs)
theorem enuF_len : ∀ (xs : List α) (n : Nat), (enuF n xs).length = xs.length
  | [], _ => rfl
  | x :: xs, n => by show (enuF (n + 1) xs).length + 1 = _; rw [enuF_len xs]; rfl
theorem enu_len (xs : List α) : (enu xs).length = xs.length := enuF_len xs 0
theorem enuF_get : ∀ (xs : List α) (n i : Nat), (enuF n xs)[i]? = (xs[i]?).map fun x => (((n + i : Nat) : Int), x)
  | [], _, _ => rfl
  | x :: xs, n, 0 => rfl
  | x :: xs, n, i + 1 => by
    show (enuF (n + 1) xs)[i]? = (xs[i]?).map _
    rw [enuF_get xs (n + 1) i, show n + 1 + i = n + (i + 1) by omega]
theorem mem_enu {xs : List α} {p : Int × α} : p ∈ enu xs ↔ ∃ i : Nat, p.1 = i ∧ xs[i]? = some p.2 := by
  rw [List.mem_iff_getElem?]
  constructor
  · rintro ⟨i, hi⟩
    unfold enu at hi
    rw [enuF_get] at hi
    cases q : xs[i]? with
    | none => rw [q] at hi; cases hi
    | some x =>
      rw [q] at hi
      cases hi
      exact ⟨i, by show ((0 + i : Nat) : Int) = i; rw [Nat.zero_add], q⟩
  · rintro ⟨i, h1, h2⟩
    refine ⟨i, ?_⟩
    unfold enu
    rw [enuF_get, h2]
    obtain ⟨a, b⟩ := p
    simp only [Option.map_some, Nat.zero_add]
    rw [show a = (i : Int) from h1]
/-! ### whatever is drawn -/
theorem dm_bd {x : Dm α} {f : α → Dm β} {Q : β → Prop} : bd (μ := Dm) x f Q = x fun a => f a Q := rfl
theorem dm_pu {a : α} {Q : α → Prop} : pu (μ := Dm) a Q = Q a := rfl
theorem dm_lfs {a : α} {Q : α → Prop} : lf (μ := Dm) (some a) Q = Q a := congrFun (LO.lf_some (μ := Dm) (a := a)) Q
theorem dm_lf {x : Option α} {a : α} {Q : α → Prop} (h : x = some a) (q : Q a) : lf (μ := Dm) x Q := ⟨a, h, q⟩
theorem dm_draw {m : Int} {Q : Int → Prop} (h1 : 0 < m) (h2 : m < 1073741824) (h : ∀ r, 0 ≤ r → r < m → Q r) : drawD m Q := ⟨⟨h1, h2⟩, h⟩
theorem dm_pick {xs : List α} {Q : α → Prop} (h1 : 0 < xs.length) (h2 : xs.length < 1073741824) (h : ∀ x ∈ xs, Q x) : pickD xs Q := ⟨⟨h1, h2⟩, h⟩
theorem dm_mix {e : α → PyData} {xs : List α} {Q : List α → Prop} (h1 : Lay (xs.map e)) (h2 : xs.length ≤ 1000) (h : ∀ ys, ys.Perm xs → Q ys) : mixD e xs Q := ⟨⟨h1, h2⟩, h⟩
theorem dm_if {c : Prop} [Decidable c] {x y : Dm α} {Q : α → Prop} (h1 : c → x Q) (h2 : ¬ c → y Q) : (if c then x else y : Dm α) Q := by
  split
  · exact h1 ‹_›
  · exact h2 ‹_›
theorem dm_for {b : σ → τ → Dm σ} {Q : σ → Prop} (I : List τ → σ → Prop) (xs : List τ) (s : σ) (h0 : I [] s) (h : ∀ pre x post, xs = pre ++ x :: post → ∀ s, I pre s → ∀ Q' : σ → Prop, (∀ s', I (pre ++ [x]) s' → Q' s') → b s x Q') (hq : ∀ s, I xs s → Q s) : forM' b xs s Q := by
  suffices W : ∀ post pre s, xs = pre ++ post → I pre s → forM' b post s Q from W xs [] s rfl h0
  intro post
  induction post with
  | nil => intro pre s e hi; rw [List.append_nil] at e; subst e; exact hq s hi
  | cons x post ih =>
    intro pre s e hi
    exact h pre x post e s hi (fun s' => forM' b post s' Q) fun s' hi' => ih (pre ++ [x]) s' (by rw [e, List.append_assoc]; rfl) hi'
/-- how a turn, a loop may end -/
def tnP (I J : σ → Prop) (R : ρ → Prop) : Tn σ ρ → Prop
  | .go s => I s
  | .br s => J s
  | .rt r => R r
def fiP (I : σ → Prop) (R : ρ → Prop) : Fi σ ρ → Prop
  | .dn s => I s
  | .rt r => R r
theorem dm_forT {b : σ → τ → Dm (Tn σ ρ)} {Q : Fi σ ρ → Prop} (I : List τ → σ → Prop) (J : σ → Prop) (R : ρ → Prop) (xs : List τ) (s : σ) (h0 : I [] s) (h : ∀ pre x post, xs = pre ++ x :: post → ∀ s, I pre s → ∀ Q' : Tn σ ρ → Prop, (∀ t, tnP (I (pre ++ [x])) J R t → Q' t) → b s x Q')
    (hq : ∀ t, fiP (fun s => I xs s ∨ J s) R t → Q t) : forT b xs s Q := by
  suffices W : ∀ post pre s, xs = pre ++ post → I pre s → forT b post s Q from W xs [] s rfl h0
  intro post
  induction post with
  | nil => intro pre s e hi; rw [List.append_nil] at e; subst e; exact hq (.dn s) (.inl hi)
  | cons x post ih =>
    intro pre s e hi
    refine h pre x post e s hi _ fun t ht => ?_
    cases t with
    | go s' => exact ih (pre ++ [x]) s' (by rw [e, List.append_assoc]; rfl) ht
    | br s' => exact hq (.dn s') (.inr ht)
    | rt r => exact hq (.rt r) ht
/-- comprehensions: every item has P, there are at most so many -/
theorem dm_comp {t : τ → Dm Bool} {e : τ → Dm γ} {Q : List γ → Prop} (P : γ → Prop) : ∀ (xs : List τ), (∀ x ∈ xs, ∀ Q' : Bool → Prop, (∀ b, (b = true → ∀ Q2 : γ → Prop, (∀ y, P y → Q2 y) → e x Q2) → Q' b) → t x Q') → (∀ ys : List γ, (∀ y ∈ ys, P y) → ys.length ≤ xs.length → Q ys) → cmpM t e xs Q
  | [], _, hq => hq [] (fun _ h => by cases h) (Nat.le_refl _)
  | x :: xs, h, hq => by
    unfold cmpM
    refine h x (List.mem_cons_self ..) _ fun b hb => ?_
    have rec_ : ∀ Q' : List γ → Prop, (∀ ys : List γ, (∀ y ∈ ys, P y) → ys.length ≤ xs.length → Q' ys) → cmpM t e xs Q' := fun Q' hq' => dm_comp P xs (fun y hy => h y (List.mem_cons_of_mem _ hy)) hq'
    cases b with
    | false => exact rec_ Q fun ys h1 h2 => hq ys h1 (by rw [List.length_cons]; omega)
    | true =>
      refine hb rfl _ fun y hy => rec_ _ fun ys h1 h2 => hq (y :: ys) (fun z hz => ?_) (by rw [List.length_cons, List.length_cons]; omega)
      rcases List.mem_cons.mp hz with rfl | hz
      · exact hy
      · exact h1 z hz
/-- .. without a test: one item for each -/
theorem dm_each {e : τ → Dm γ} {Q : List γ → Prop} (P : τ → γ → Prop) : ∀ (xs : List τ), (∀ x ∈ xs, ∀ Q2 : γ → Prop, (∀ y, P x y → Q2 y) → e x Q2) → (∀ ys : List γ, ys.length = xs.length → (∀ (i : Nat) x y, xs[i]? = some x → ys[i]? = some y → P x y) → Q ys) → cmpM (μ := Dm) (fun _ => pu true) e xs Q
  | [], _, hq => hq [] rfl fun i x y h => by simp at h
  | x :: xs, h, hq => by
    unfold cmpM
    refine h x (List.mem_cons_self ..) _ fun y hy => dm_each P xs (fun z hz => h z (List.mem_cons_of_mem _ hz)) fun ys h1 h2 => hq (y :: ys) (by rw [List.length_cons, List.length_cons, h1]) fun i a b ha hb => ?_
    cases i with
    | zero => cases ha; cases hb; exact hy
    | succ i => exact h2 i a b ha hb
end Zm
/-! Charts, boards, orders: the plain notions. -/
namespace Zm
open PySem PySem.Spec PyProof.Rows L2
open WM (pu bd)
open LO (lf)
abbrev ChartT := Int × List (Int × Int) × List Int
abbrev BoardT := ChartT × List (Int × Int)
def nbL (rps : List (Int × Int)) (f : Int) : List Int := sortI ((rps.filter fun y => mem f [y.1, y.2]).map fun y => y.1 + y.2 - f)
theorem mem_iff {α : Type} [DecidableEq α] {x : α} {xs : List α} : mem x xs = true ↔ x ∈ xs := decide_eq_true_iff
theorem mem_nbL {rps : List (Int × Int)} {f g : Int} : g ∈ nbL rps f ↔ (f, g) ∈ rps ∨ (g, f) ∈ rps := by
  unfold nbL
  rw [(sortI_perm _).mem_iff, List.mem_map]
  constructor
  · rintro ⟨y, hy, rfl⟩
    rw [List.mem_filter, mem_iff] at hy
    obtain ⟨a, b⟩ := y
    obtain ⟨h1, h2⟩ := hy
    simp only [List.mem_cons, List.not_mem_nil, or_false] at h2
    rcases h2 with rfl | rfl
    · exact .inl (by rw [show f + b - f = b by omega]; exact h1)
    · exact .inr (by rw [show a + f - f = a by omega]; exact h1)
  · rintro (h | h)
    · exact ⟨(f, g), List.mem_filter.mpr ⟨h, mem_iff.mpr (by simp)⟩, by show f + g - f = g; omega⟩
    · exact ⟨(g, f), List.mem_filter.mpr ⟨h, mem_iff.mpr (by simp)⟩, by show g + f - f = g; omega⟩
theorem nbL_symm {rps : List (Int × Int)} {f g : Int} : g ∈ nbL rps f ↔ f ∈ nbL rps g := by rw [mem_nbL, mem_nbL, Or.comm]
theorem nbL_len (rps : List (Int × Int)) (f : Int) : (nbL rps f).length ≤ rps.length := by
  unfold nbL
  rw [(sortI_perm _).length_eq, List.length_map]
  exact List.length_filter_le _ _
def ltP (a b : Int × Int) : Prop := a.1 < b.1 ∨ (a.1 = b.1 ∧ a.2 < b.2)
/-- a chart -/
structure GC (c : ChartT) : Prop where
  k1 : 1 ≤ c.1
  k2 : c.1 ≤ 24
  rd : ∀ p ∈ c.2.1, 0 ≤ p.1 ∧ p.1 < p.2 ∧ p.2 < c.1
  ra : c.2.1.Pairwise ltP
  rl : c.2.1.length ≤ 300
  cd : ∀ x ∈ c.2.2, 0 ≤ x ∧ x < c.1
  ca : c.2.2.Pairwise (· < ·)
  cl : c.2.2.length ≤ 24
/-- pieces on so many fields -/
structure GP (k : Int) (ps : List (Int × Int)) : Prop where
  pd : ∀ p ∈ ps, (0 ≤ p.1 ∧ p.1 < k) ∧ 0 ≤ p.2 ∧ p.2 < 6
  pa : ps.Pairwise fun a b => a.1 < b.1
  pl : ps.length ≤ 16
structure GB (b : BoardT) : Prop where
  c : GC b.1
  p : GP b.1.1 b.2
theorem GC.nb {c : ChartT} (h : GC c) {f g : Int} (hg : g ∈ nbL c.2.1 f) : (0 ≤ f ∧ f < c.1) ∧ (0 ≤ g ∧ g < c.1) ∧ f ≠ g := by
  have k := h.k1
  rcases mem_nbL.mp hg with h1 | h1
  · have := h.rd _ h1
    exact ⟨by omega, by omega, by omega⟩
  · have := h.rd _ h1
    exact ⟨by omega, by omega, by omega⟩
theorem ltP_leP {a b : Int × Int} (h1 : leP a b = true) (h2 : a ≠ b) : ltP a b := by
  unfold leP at h1
  rw [Bool.or_eq_true, Bool.and_eq_true, decide_eq_true_eq, decide_eq_true_eq, decide_eq_true_eq] at h1
  rcases h1 with h | ⟨h, h3⟩
  · exact .inl h
  · refine .inr ⟨h, ?_⟩
    rcases Int.lt_or_eq_of_le h3 with h4 | h4
    · exact h4
    · exact absurd (Prod.ext h h4) h2
theorem sortP_asc {ps : List (Int × Int)} (h : ps.Nodup) : (sortP ps).Pairwise ltP := by
  have a := sortP_sorted ps
  have b : (sortP ps).Nodup := (sortP_perm ps).nodup_iff.mpr h
  exact (a.and b).imp fun h => ltP_leP h.1 h.2
theorem sortI_asc {ns : List Int} (h : ns.Nodup) : (sortI ns).Pairwise (· < ·) := by
  have a := sortI_sorted ns
  have b : (sortI ns).Nodup := (sortI_perm ns).nodup_iff.mpr h
  exact (a.and b).imp fun h => by have h1 := h.1; have h2 := h.2; omega
/-! ### orders -/
inductive Od where
  | stay
  | go (g : Int)
  | back (f g : Int)
deriving DecidableEq
def oD : Od → PyData
  | .stay => .tuple [.str "stay"]
  | .go g => .tuple [.str "go", .int g]
  | .back f g => .tuple [.str "back", .int f, .int g]
/-- what a piece in the field s may be told -/
def OkO (b : BoardT) (s : Int) : Od → Prop
  | .stay => True
  | .go g => g ∈ nbL b.1.2.1 s
  | .back f g => f ≠ s ∧ (∃ p ∈ b.2, p.1 = f) ∧ g ∈ nbL b.1.2.1 s ∧ (g = f ∨ g ∈ nbL b.1.2.1 f)
/-- orders of a board -/
structure GO (b : BoardT) (os : List Od) : Prop where
  len : os.length = b.2.length
  ok : ∀ (i : Nat) (p : Int × Int) (o : Od), b.2[i]? = some p → os[i]? = some o → OkO b p.1 o
theorem eqO_word {x y : Str} : eqO (.str x) (.str y) = some (decide (x = y)) := rfl
theorem w_gs : decide (("stay" : Str) = "go") = false := by decide +kernel
theorem w_sg : decide (("go" : Str) = "stay") = false := by decide +kernel
theorem w_bg : decide (("back" : Str) = "go") = false := by decide +kernel
theorem w_gb : decide (("go" : Str) = "back") = false := by decide +kernel
theorem w_sb : decide (("stay" : Str) = "back") = false := by decide +kernel
theorem w_bs : decide (("back" : Str) = "stay") = false := by decide +kernel
theorem w_gg : decide (("go" : Str) = "go") = true := by decide +kernel
theorem w_ss : decide (("stay" : Str) = "stay") = true := by decide +kernel
theorem w_bb : decide (("back" : Str) = "back") = true := by decide +kernel
theorem sortO_back (ps : List (Int × Int)) : sortO (ps.map fun p => oD (.back p.1 p.2)) = some ((sortP ps).map fun p => oD (.back p.1 p.2)) := by
  have e : (fun p : Int × Int => oD (.back p.1 p.2)) = triD "back" := by funext p; rfl
  rw [e]
  cases ps with
  | nil => simp [sortO, sortD, allI, sortI, sortP]
  | cons p ps =>
    unfold sortO
    have h : sortD ((p :: ps).map (triD "back")) = none := rfl
    rw [h]
    show (match some ("back" : Str) with | some z => (allT z ((p :: ps).map (triD "back"))).map fun ps => (sortP ps).map (triD z) | none => none) = _
    dsimp only
    rw [allT_map]
    rfl
/-! ### the first piece in a field -/
def at? (ps : List (Int × Int)) (f : Int) : Option Nat := ps.findIdx? fun p => decide (p.1 = f)
theorem findSome_enu (ps : List (Int × Int)) (f : Int) : (enu ps).findSome? (fun y => if decide (y.2.1 = f) = true then some (some y.1) else none) = (at? ps f).map (fun i => some (Int.ofNat i)) := by
  suffices H : ∀ n : Nat, (enuF n ps).findSome? (fun y => if decide (y.2.1 = f) = true then some (some y.1) else none) = (ps.findIdx? fun p => decide (p.1 = f)).map fun i => some ((n + i : Nat) : Int) by
    have := H 0
    simp only [Nat.zero_add] at this
    exact this
  induction ps with
  | nil => intro n; rfl
  | cons p ps ih =>
    intro n
    show List.findSome? _ (((n : Int), p) :: enuF (n + 1) ps) = _
    rw [List.findSome?_cons, List.findIdx?_cons]
    dsimp only
    by_cases h : p.1 = f
    · rw [decide_eq_true h]
      simp
    · rw [decide_eq_false h]
      simp only [Bool.false_eq_true, if_false, ih (n + 1), Option.map_map]
      cases ps.findIdx? fun p => decide (p.1 = f) with
      | none => rfl
      | some i => simp only [Option.map_some, Function.comp]; congr 2; omega
theorem filter_enu (ps : List (Int × Int)) (f : Int) : (((enu ps).filter fun y => decide (y.2.1 = f)).map fun y => y.1).head? = (at? ps f).map Int.ofNat := by
  suffices H : ∀ n : Nat, (((enuF n ps).filter fun y => decide (y.2.1 = f)).map fun y => y.1).head? = (ps.findIdx? fun p => decide (p.1 = f)).map fun i => ((n + i : Nat) : Int) by
    have := H 0
    simp only [Nat.zero_add] at this
    exact this
  induction ps with
  | nil => intro n; rfl
  | cons p ps ih =>
    intro n
    show (((((n : Int), p) :: enuF (n + 1) ps).filter _).map _).head? = _
    rw [List.filter_cons, List.findIdx?_cons]
    dsimp only
    by_cases h : p.1 = f
    · rw [decide_eq_true h]
      simp
    · rw [decide_eq_false h]
      simp only [Bool.false_eq_true, if_false, ih (n + 1), Option.map_map]
      cases ps.findIdx? fun p => decide (p.1 = f) with
      | none => rfl
      | some i => simp only [Option.map_some, Function.comp]; congr 1; omega
theorem at_some {ps : List (Int × Int)} {f : Int} (h : ∃ p ∈ ps, p.1 = f) : ∃ i p, at? ps f = some i ∧ ps[i]? = some p ∧ p.1 = f := by
  obtain ⟨p, hp, e⟩ := h
  cases q : at? ps f with
  | none =>
    unfold at? at q
    rw [List.findIdx?_eq_none_iff] at q
    have := q p hp
    rw [decide_eq_true e] at this
    cases this
  | some i =>
    unfold at? at q
    rw [List.findIdx?_eq_some_iff_getElem] at q
    obtain ⟨h, h1, _⟩ := q
    exact ⟨i, ps[i], rfl, List.getElem?_eq_getElem h, of_decide_eq_true h1⟩
theorem lay_stay : (PyData.str "stay").canLay0 = true := by decide +kernel
theorem lay_go : (PyData.str "go").canLay0 = true := by decide +kernel
theorem lay_back : (PyData.str "back").canLay0 = true := by decide +kernel
theorem oD_lay (o : Od) : (oD o).canLay0 = true := by
  cases o with
  | stay => show ((PyData.str "stay").canLay0 && true) = true; rw [lay_stay]; rfl
  | go g => show ((PyData.str "go").canLay0 && (true && true)) = true; rw [lay_go]; rfl
  | back f g => show ((PyData.str "back").canLay0 && (true && (true && true))) = true; rw [lay_back]; rfl
theorem oD_depth (o : Od) : (oD o).depth ≤ 60 := by cases o <;> (simp [oD, PyData.depth, PyData.depthAll])
theorem lay_os (os : List Od) : Lay (os.map oD) := ⟨fun x hx => by obtain ⟨o, _, rfl⟩ := List.mem_map.mp hx; exact oD_lay o, fun x hx => by obtain ⟨o, _, rfl⟩ := List.mem_map.mp hx; exact oD_depth o⟩
/-- the backs of a piece, as they are made -/
def bksL (rps : List (Int × Int)) (own : Int) (fs : List Int) : List (Int × Int) := fs.flatMap fun f => if f = own then [] else ((nbL rps own).filter fun g => decide (g = f) || mem g (nbL rps f)).map fun g => (f, g)
theorem mem_bksL {rps : List (Int × Int)} {own : Int} {fs : List Int} {p : Int × Int} : p ∈ bksL rps own fs ↔ p.1 ∈ fs ∧ p.1 ≠ own ∧ p.2 ∈ nbL rps own ∧ (p.2 = p.1 ∨ p.2 ∈ nbL rps p.1) := by
  unfold bksL
  rw [List.mem_flatMap]
  constructor
  · rintro ⟨f, hf, h⟩
    split at h
    · cases h
    · rename_i hne
      obtain ⟨g, hg, rfl⟩ := List.mem_map.mp h
      rw [List.mem_filter, Bool.or_eq_true, decide_eq_true_eq, mem_iff] at hg
      exact ⟨hf, hne, hg.1, hg.2⟩
  · rintro ⟨h1, h2, h3, h4⟩
    refine ⟨p.1, h1, ?_⟩
    rw [if_neg h2]
    exact List.mem_map.mpr ⟨p.2, by rw [List.mem_filter, Bool.or_eq_true, decide_eq_true_eq, mem_iff]; exact ⟨h3, h4⟩, rfl⟩
/-- all orders of the piece in the field s -/
def ordsL (b : BoardT) (s : Int) : List Od := .stay :: ((nbL b.1.2.1 s).map .go ++ (sortP (bksL b.1.2.1 s (b.2.map (·.1)))).map fun p => .back p.1 p.2)
theorem mem_ordsL {b : BoardT} {s : Int} {o : Od} : o ∈ ordsL b s ↔ OkO b s o := by
  unfold ordsL
  rw [List.mem_cons, List.mem_append, List.mem_map, List.mem_map]
  cases o with
  | stay => exact ⟨fun _ => trivial, fun _ => .inl rfl⟩
  | go g =>
    constructor
    · rintro (h | ⟨x, hx, e⟩ | ⟨x, hx, e⟩)
      · cases h
      · cases e; exact hx
      · cases e
    · intro h
      exact .inr (.inl ⟨g, h, rfl⟩)
  | back f g =>
    constructor
    · rintro (h | ⟨x, hx, e⟩ | ⟨x, hx, e⟩)
      · cases h
      · cases e
      · cases e
        rw [(sortP_perm _).mem_iff, mem_bksL] at hx
        obtain ⟨h1, h2, h3, h4⟩ := hx
        obtain ⟨p, hp, e⟩ := List.mem_map.mp h1
        exact ⟨h2, ⟨p, hp, e⟩, h3, h4⟩
    · rintro ⟨h2, ⟨p, hp, e⟩, h3, h4⟩
      refine .inr (.inr ⟨(f, g), ?_, rfl⟩)
      rw [(sortP_perm _).mem_iff, mem_bksL]
      exact ⟨List.mem_map.mpr ⟨p, hp, e⟩, h2, h3, h4⟩
theorem bksL_len {b : BoardT} (h : GB b) (s : Int) : (bksL b.1.2.1 s (b.2.map (·.1))).length ≤ 4800 := by
  refine Nat.le_trans (flatMap_len (m := 300) _ fun f _ => ?_) (by have := h.p.pl; rw [List.length_map]; omega)
  split
  · exact Nat.zero_le _
  · rw [List.length_map]
    exact Nat.le_trans (List.length_filter_le _ _) (Nat.le_trans (nbL_len _ _) h.c.rl)
theorem ordsL_len {b : BoardT} (h : GB b) (s : Int) : (ordsL b s).length ≤ 5200 := by
  have h1 := bksL_len h s
  have h2 := nbL_len b.1.2.1 s
  have h3 := h.c.rl
  unfold ordsL
  rw [List.length_cons, List.length_append, List.length_map, List.length_map, (sortP_perm _).length_eq]
  omega
/-! ### sizes, for repr -/
theorem reprO_ok {k w : Nat} {x : PyData} (h : Sz k w x) (hk : k ≤ 64 := by omega) (hw : w ≤ 399000 := by omega) : reprO x = some x.shown := by
  unfold reprO
  rw [h.sh, h.shown hk hw, decide_eq_true (Nat.le_trans h.dp hk)]
  rfl
theorem sz_map {α : Type} {e : α → PyData} {k w : Nat} {xs : List α} (h : ∀ x ∈ xs, Sz k w (e x)) : SzE k w (xs.map e) := fun y hy => by
  obtain ⟨x, hx, rfl⟩ := List.mem_map.mp hy
  exact h x hx
abbrev eChart : ChartT → PyData := eP3 PyData.int (eT (eP2 PyData.int PyData.int)) (eT PyData.int)
abbrev eBoard : BoardT → PyData := eP2 eChart (eT (eP2 PyData.int PyData.int))
theorem GC.sz {c : ChartT} (h : GC c) : Sz 3 6500 (eChart c) := by
  have k1 := h.k1
  have k2 := h.k2
  have s1 : Sz 0 8 (PyData.int c.1) := Sz.i8 (by omega)
  have s2 : Sz 2 (300 * 19) (eT (eP2 PyData.int PyData.int) c.2.1) := Sz.tup (SzL.ofE (sz_map fun p hp => by
    have := h.rd p hp
    exact (Sz.t2 (k := 0) (k1 := 0) (Sz.i8 (by omega)) (Sz.i8 (by omega))).mono) (by rw [List.length_map]; exact h.rl))
  have s3 : Sz 1 (24 * 9) (eT PyData.int c.2.2) := Sz.tup (SzL.ofE (sz_map fun x hx => by
    have := h.cd x hx
    exact Sz.i8 (by omega)) (by rw [List.length_map]; exact h.cl))
  exact (Sz.t3 s1 s2 s3).mono
theorem GP.sz {k : Int} {ps : List (Int × Int)} (h : GP k ps) (hk : k ≤ 24) : Sz 2 (16 * 19) (eT (eP2 PyData.int PyData.int) ps) := Sz.tup (SzL.ofE (sz_map fun p hp => by
    have := h.pd p hp
    exact (Sz.t2 (k := 0) (k1 := 0) (Sz.i8 (by omega)) (Sz.i8 (by omega))).mono) (by rw [List.length_map]; exact h.pl))
theorem GB.sz {b : BoardT} (h : GB b) : Sz 4 7000 (eBoard b) := (Sz.t2 h.c.sz (h.p.sz h.c.k2)).mono
theorem sz_stay : Sz 0 4 (.str "stay") := ⟨by decide +kernel, rfl, Nat.zero_le _, by decide +kernel⟩
theorem sz_go : Sz 0 4 (.str "go") := ⟨by decide +kernel, rfl, Nat.zero_le _, by decide +kernel⟩
theorem sz_back : Sz 0 4 (.str "back") := ⟨by decide +kernel, rfl, Nat.zero_le _, by decide +kernel⟩
/-- small orders -/
def SmO : Od → Prop
  | .stay => True
  | .go g => g.natAbs < 256
  | .back f g => f.natAbs < 256 ∧ g.natAbs < 256
theorem SmO.sz {o : Od} (h : SmO o) : Sz 1 30 (oD o) := by
  cases o with
  | stay => exact (Sz.t1 sz_stay).mono
  | go g => exact (Sz.t2 sz_go (Sz.i8 h)).mono
  | back f g => exact (Sz.t3 sz_back (Sz.i8 h.1) (Sz.i8 h.2)).mono
theorem OkO.sm {b : BoardT} (hb : GB b) {s : Int} {o : Od} (h : OkO b s o) : SmO o := by
  have k2 := hb.c.k2
  cases o with
  | stay => trivial
  | go g => have := hb.c.nb h; show g.natAbs < 256; omega
  | back f g =>
    obtain ⟨_, ⟨p, hp, rfl⟩, hg, _⟩ := h
    have := hb.c.nb hg
    have := hb.p.pd p hp
    exact ⟨by omega, by omega⟩
theorem GO.sm {b : BoardT} (hb : GB b) {os : List Od} (h : GO b os) : ∀ o ∈ os, SmO o := fun o ho => by
  obtain ⟨i, hi⟩ := List.getElem?_of_mem ho
  have hl := (List.getElem?_eq_some_iff.mp hi).1
  rw [h.len] at hl
  exact (h.ok i _ o (List.getElem?_eq_getElem hl) hi).sm hb
theorem GO.sz {b : BoardT} (hb : GB b) {os : List Od} (h : GO b os) : Sz 2 (16 * 31) (eT eD (os.map oD)) := by
  have : Sz 2 (16 * 31) (.tuple (os.map oD)) := Sz.tup (SzL.ofE (sz_map fun o ho => (h.sm hb o ho).sz) (by rw [List.length_map, h.len]; exact hb.p.pl))
  show Sz 2 (16 * 31) (.tuple ((os.map oD).map id))
  rwa [List.map_id]
theorem GO.set {b : BoardT} {os : List Od} (h : GO b os) {n : Nat} {p : Int × Int} {o : Od} (hp : b.2[n]? = some p) (ho : OkO b p.1 o) : GO b (os.set n o) := ⟨by rw [List.length_set]; exact h.len, fun i q o' hq ho' => by
  by_cases z : n = i
  · subst z
    rw [hp] at hq
    cases hq
    have hn : n < os.length := by rw [h.len]; exact (List.getElem?_eq_some_iff.mp hp).1
    rw [List.getElem?_set_self hn] at ho'
    cases ho'
    exact ho
  · rw [List.getElem?_set_ne z] at ho'
    exact h.ok i q o' hq ho'⟩
/-- os[:n] + (o,) + os[n + 1:] -/
theorem cut_set {os : List Od} {n : Nat} (hn : n < os.length) (o : Od) : cutL (os.map oD) none (some (n : Int)) ++ [oD o] ++ cutL (os.map oD) (some ((n : Int) + 1)) none = (os.set n o).map oD := by
  rw [cutL_take (by omega), cutL_drop (by omega), Int.toNat_natCast, show ((n : Int) + 1).toNat = n + 1 by omega, List.set_eq_take_append_cons_drop, if_pos hn, List.map_append, List.map_cons, ← List.map_take, ← List.map_drop, List.append_assoc]
  rfl
/-- what is at hand when a drawn place is used -/
theorem nat_of {r : Int} {n : Nat} (h0 : 0 ≤ r) (h1 : r < (n : Int)) : ∃ i : Nat, r = i ∧ i < n := ⟨r.toNat, by omega, by omega⟩
/-- whether a back of f to g fits an order -/
def fitB (f g : Int) (o : Od) : Bool := if g = f then (match o with | .go _ => false | _ => true) else decide (o = .go g)
theorem eqO_go (o : Od) (g : Int) : eqO (oD o) (.tuple [.str "go", .int g]) = some (decide (o = .go g)) := by
  unfold eqO
  have h1 : SeqAt.shaped (oD o) = true := by unfold SeqAt.shaped; rw [oD_lay, decide_eq_true (Nat.le_trans (oD_depth o) (by decide))]; rfl
  have h2 : SeqAt.shaped (.tuple [.str "go", .int g]) = true := by
    unfold SeqAt.shaped
    rw [oD_lay (.go g) |> (show (PyData.tuple [.str "go", .int g]).canLay0 = true from ·), decide_eq_true (Nat.le_trans (oD_depth (.go g)) (by decide) |> (show (PyData.tuple [.str "go", .int g]).depth ≤ 64 from ·))]
    rfl
  have h3 : eqAtom (oD o) (.tuple [.str "go", .int g]) = none := by cases o <;> rfl
  rw [h3, h1, h2]
  show some _ = _
  congr 1
  cases o with
  | stay => rfl
  | go g' =>
    show ((("go" : Str) == "go") && (g' == g && true)) = _
    simp
    rfl
  | back f' g' => rfl
theorem eD_ev {x : PyData} : eD x = x := rfl
theorem eTD {xs : List PyData} : eT eD xs = .tuple xs := by show PyData.tuple (xs.map id) = _; rw [List.map_id]
theorem eLD {xs : List PyData} : eL eD xs = .list xs := by show PyData.list (xs.map id) = _; rw [List.map_id]
theorem shaped_tup {xs : List PyData} (h : Lay xs) : SeqAt.shaped (.tuple xs) = true := by
  have h0 := h.shaped
  unfold SeqAt.shaped at h0 ⊢
  obtain ⟨h1, h2⟩ := Bool.and_eq_true_iff.mp h0
  have h3 := of_decide_eq_true h2
  simp only [PyData.canLay0] at h1
  simp only [PyData.depth] at h3
  refine Bool.and_eq_true_iff.mpr ⟨by simp only [PyData.canLay0]; exact h1, decide_eq_true (by simp only [PyData.depth]; exact h3)⟩
theorem eqO_sh {x y : PyData} (h1 : SeqAt.shaped x = true) (h2 : SeqAt.shaped y = true) : ∃ w, eqO x y = some w := by
  unfold eqO
  rw [h1, h2]
  cases eqAtom x y with
  | some r => exact ⟨r, rfl⟩
  | none => exact ⟨_, rfl⟩
end Zm
/-! the defs of k09, printed by gen.py -/
namespace Zl
open PySem PySem.Spec PyProof.Rows L2 Zm

def topS (i : Nat) : Stmt := PySem.Challenge.pw_whateverothers_k09_whole_backs_that_fit.main.body.getD i (.Pass ⟨0, 0, 0, 0⟩)
abbrev s_place_in : Stmt := topS 1
abbrev s_goer : Stmt := topS 3
abbrev s_is_for : Stmt := topS 4
abbrev s_fits : Stmt := topS 5
abbrev s_ldeck : Stmt := topS 7
abbrev s_ldraw : Stmt := topS 8
abbrev s_lpick : Stmt := topS 9
abbrev s_lmixed : Stmt := topS 10
abbrev s_lbeside : Stmt := topS 11
abbrev s_lchart : Stmt := topS 12
abbrev s_lpieces : Stmt := topS 13
abbrev s_lorders_of : Stmt := topS 14
abbrev s_lgos : Stmt := topS 15
abbrev s_lorders : Stmt := topS 16
abbrev s_lboard : Stmt := topS 17
abbrev s_lback_fits : Stmt := topS 18
abbrev s_law : Stmt := topS 19
structure Txt (K : PySem.W.Frag) (mg : Str → Option Value) : Prop where
  f_place_in : DefAt K mg "place_in" s_place_in
  f_goer : DefAt K mg "goer" s_goer
  f_is_for : DefAt K mg "is_for" s_is_for
  f_fits : DefAt K mg "fits" s_fits
  f_ldeck : DefAt K mg "_law_deck" s_ldeck
  f_ldraw : DefAt K mg "_law_draw" s_ldraw
  f_lpick : DefAt K mg "_law_pick" s_lpick
  f_lmixed : DefAt K mg "_law_mixed" s_lmixed
  f_lbeside : DefAt K mg "_law_beside" s_lbeside
  f_lchart : DefAt K mg "_law_chart" s_lchart
  f_lpieces : DefAt K mg "_law_pieces" s_lpieces
  f_lorders_of : DefAt K mg "_law_orders_of" s_lorders_of
  f_lgos : DefAt K mg "_law_gos" s_lgos
  f_lorders : DefAt K mg "_law_orders" s_lorders
  f_lboard : DefAt K mg "_law_board" s_lboard
  f_lback_fits : DefAt K mg "_law_back_fits" s_lback_fits
  f_law : DefAt K mg "law" s_law
  z_len : mg "len" = none
  z_int : mg "int" = none
  z_tuple : mg "tuple" = none
  z_list : mg "list" = none
  z_max : mg "max" = none
  z_sorted : mg "sorted" = none
  z_repr : mg "repr" = none
  z_range : mg "range" = none
  z_enumerate : mg "enumerate" = none
theorem bb_len : bootBuiltins "len" = some (.builtin "len") := by decide +kernel
theorem bb_int : bootBuiltins "int" = some (.type "int") := by decide +kernel
theorem bb_tuple : bootBuiltins "tuple" = some (.type "tuple") := by decide +kernel
theorem bb_list : bootBuiltins "list" = some (.type "list") := by decide +kernel
theorem bb_max : bootBuiltins "max" = some (.builtin "max") := by decide +kernel
theorem bb_sorted : bootBuiltins "sorted" = some (.builtin "sorted") := by decide +kernel
theorem bb_repr : bootBuiltins "repr" = some (.builtin "repr") := by decide +kernel
theorem sc_place_in : FnScope ["board", "field", "place", "piece"] ["board", "field"] (defScope s_place_in) := ⟨rfl, rfl, rfl, by decide +kernel, rfl, by decide +kernel, by decide +kernel⟩
theorem bi_place_in : BindZ "place_in" s_place_in ["board", "field"] := fun _ _ _ _ _ _ us hl => match us, hl with | [_, _], _ => rfl
theorem sc_goer : FnScope ["order"] ["order"] (defScope s_goer) := ⟨rfl, rfl, rfl, by decide +kernel, rfl, by decide +kernel, by decide +kernel⟩
theorem bi_goer : BindZ "goer" s_goer ["order"] := fun _ _ _ _ _ _ us hl => match us, hl with | [_], _ => rfl
theorem sc_is_for : FnScope ["back", "other", "word", "field", "aim"] ["back", "other"] (defScope s_is_for) := ⟨rfl, rfl, rfl, by decide +kernel, rfl, by decide +kernel, by decide +kernel⟩
theorem bi_is_for : BindZ "is_for" s_is_for ["back", "other"] := fun _ _ _ _ _ _ us hl => match us, hl with | [_, _], _ => rfl
theorem sc_fits : FnScope ["board", "orders", "place"] ["board", "orders", "place"] (defScope s_fits) := ⟨rfl, rfl, rfl, by decide +kernel, rfl, by decide +kernel, by decide +kernel⟩
theorem bi_fits : BindZ "fits" s_fits ["board", "orders", "place"] := fun _ _ _ _ _ _ us hl => match us, hl with | [_, _, _], _ => rfl
theorem sc_ldeck : FnScope ["script", "cells", "stirred", "cell"] ["script"] (defScope s_ldeck) := ⟨rfl, rfl, rfl, by decide +kernel, rfl, by decide +kernel, by decide +kernel⟩
theorem bi_ldeck : BindZ "_law_deck" s_ldeck ["script"] := fun _ _ _ _ _ _ us hl => match us, hl with | [_], _ => rfl
theorem sc_ldraw : FnScope ["deck", "many", "mixed", "cell"] ["deck", "many"] (defScope s_ldraw) := ⟨rfl, rfl, rfl, by decide +kernel, rfl, by decide +kernel, by decide +kernel⟩
theorem bi_ldraw : BindZ "_law_draw" s_ldraw ["deck", "many"] := fun _ _ _ _ _ _ us hl => match us, hl with | [_, _], _ => rfl
theorem sc_lpick : FnScope ["deck", "items"] ["deck", "items"] (defScope s_lpick) := ⟨rfl, rfl, rfl, by decide +kernel, rfl, by decide +kernel, by decide +kernel⟩
theorem bi_lpick : BindZ "_law_pick" s_lpick ["deck", "items"] := fun _ _ _ _ _ _ us hl => match us, hl with | [_, _], _ => rfl
theorem sc_lmixed : FnScope ["deck", "items", "rest", "got"] ["deck", "items"] (defScope s_lmixed) := ⟨rfl, rfl, rfl, by decide +kernel, rfl, by decide +kernel, by decide +kernel⟩
theorem bi_lmixed : BindZ "_law_mixed" s_lmixed ["deck", "items"] := fun _ _ _ _ _ _ us hl => match us, hl with | [_, _], _ => rfl
theorem sc_lbeside : FnScope ["chart", "field", "a", "b"] ["chart", "field"] (defScope s_lbeside) := ⟨rfl, rfl, rfl, by decide +kernel, rfl, by decide +kernel, by decide +kernel⟩
theorem bi_lbeside : BindZ "_law_beside" s_lbeside ["chart", "field"] := fun _ _ _ _ _ _ us hl => match us, hl with | [_, _], _ => rfl
theorem sc_lchart : FnScope ["deck", "many", "more", "roads", "b", "turn", "centres", "a", "field"] ["deck", "many", "more"] (defScope s_lchart) := ⟨rfl, rfl, rfl, by decide +kernel, rfl, by decide +kernel, by decide +kernel⟩
theorem bi_lchart : BindZ "_law_chart" s_lchart ["deck", "many", "more"] := fun _ _ _ _ _ _ us hl => match us, hl with | [_, _, _], _ => rfl
theorem sc_lpieces : FnScope ["deck", "chart", "many", "players", "fields", "field"] ["deck", "chart", "many"] (defScope s_lpieces) := ⟨rfl, rfl, rfl, by decide +kernel, rfl, by decide +kernel, by decide +kernel⟩
theorem bi_lpieces : BindZ "_law_pieces" s_lpieces ["deck", "chart", "many"] := fun _ _ _ _ _ _ us hl => match us, hl with | [_, _, _], _ => rfl
theorem sc_lorders_of : FnScope ["board", "place", "chart", "pieces", "own", "fields", "reach", "gos", "backs", "field", "goal", "player"] ["board", "place"] (defScope s_lorders_of) := ⟨rfl, rfl, rfl, by decide +kernel, rfl, by decide +kernel, by decide +kernel⟩
theorem bi_lorders_of : BindZ "_law_orders_of" s_lorders_of ["board", "place"] := fun _ _ _ _ _ _ us hl => match us, hl with | [_, _], _ => rfl
theorem sc_lgos : FnScope ["deck", "board", "chart", "pieces", "fields", "gos", "fights", "field", "player", "reach", "one", "goal", "a", "taken", "b", "c", "foe"] ["deck", "board"] (defScope s_lgos) := ⟨rfl, rfl, rfl, by decide +kernel, rfl, by decide +kernel, by decide +kernel⟩
theorem bi_lgos : BindZ "_law_gos" s_lgos ["deck", "board"] := fun _ _ _ _ _ _ us hl => match us, hl with | [_, _], _ => rfl
theorem sc_lorders : FnScope ["deck", "board", "chart", "pieces", "gos", "told", "place", "field", "player", "menu", "good", "way", "order"] ["deck", "board"] (defScope s_lorders) := ⟨rfl, rfl, rfl, by decide +kernel, rfl, by decide +kernel, by decide +kernel⟩
theorem bi_lorders : BindZ "_law_orders" s_lorders ["deck", "board"] := fun _ _ _ _ _ _ us hl => match us, hl with | [_, _], _ => rfl
theorem sc_lboard : FnScope ["deck", "fields", "many", "chart"] ["deck", "fields", "many"] (defScope s_lboard) := ⟨rfl, rfl, rfl, by decide +kernel, rfl, by decide +kernel, by decide +kernel⟩
theorem bi_lboard : BindZ "_law_board" s_lboard ["deck", "fields", "many"] := fun _ _ _ _ _ _ us hl => match us, hl with | [_, _, _], _ => rfl
theorem sc_lback_fits : FnScope ["board", "orders", "place", "word", "field", "goal", "order", "spot", "piece"] ["board", "orders", "place"] (defScope s_lback_fits) := ⟨rfl, rfl, rfl, by decide +kernel, rfl, by decide +kernel, by decide +kernel⟩
theorem bi_lback_fits : BindZ "_law_back_fits" s_lback_fits ["board", "orders", "place"] := fun _ _ _ _ _ _ us hl => match us, hl with | [_, _, _], _ => rfl
theorem sc_law : FnScope ["script", "deck", "turn", "board", "orders", "tried", "spot", "order", "value", "kept", "place", "due", "told"] ["script"] (defScope s_law) := ⟨rfl, rfl, rfl, by decide +kernel, rfl, by decide +kernel, by decide +kernel⟩
theorem bi_law : BindZ "law" s_law ["script"] := fun _ _ _ _ _ _ us hl => match us, hl with | [_], _ => rfl
theorem kb_fits_0 : KBindZ "fits" s_fits ["board", "orders", "place"] ["place", "orders", "board"] 0 3 [2, 1, 0] := fun _ _ _ _ _ _ us ws h1 h2 => match us, ws, h1, h2 with | [], [_, _, _], _, _ => ⟨rfl, rfl⟩
noncomputable def g0_place_in : GM := (gT 2 (gsCons (gN 2) (gsCons (gN 3) gsNil)))
noncomputable def l0_place_in : SM := (sIf (mT (mOp vEq (mOp vIxX (mVar 3) (mC (.int 0))) (mVar 1))) (sRet (mVar 2)) sNil)
noncomputable def b_place_in : SM :=
  (sSeq (sFor (mEnum (mCons (mOp vIxX (mVar 0) (mC (.int 1))) mNil)) g0_place_in l0_place_in)
  (sRet (mC .none)))
noncomputable def d_place_in : Den := trim (body 4 b_place_in)
noncomputable def b_goer : SM :=
  (sRet (mOp vEq (mOp vIxX (mVar 0) (mC (.int 0))) (mC (.str "go"))))
noncomputable def d_goer : Den := trim (body 1 b_goer)
noncomputable def g0_ldeck : GM := (gN 3)
noncomputable def t0_ldeck : TM := (mT (mOp vGe (mVar 3) (mOp vPow (mC (.int 10)) (mC (.int 15)))))
noncomputable def e0_ldeck : EM := (mVar 3)
noncomputable def g1_ldeck : GM := (gN 3)
noncomputable def l1_ldeck : SM := (sAsg (mOp vMod (mB vInt (mCons (mOp vAdd (mOp vMulX (mVar 2) (mC (.int 48271))) (mVar 3)) mNil)) (mC (.int 4294967291))) (gN 2))
noncomputable def g2_ldeck : GM := (gN 3)
noncomputable def e2_ldeck : EM := (mIf (mT (mOp vGe (mVar 3) (mC (.int 0)))) (mOp vMulX (mC (.int 2)) (mVar 3)) (mOp vSub (mOp vMulX (mNeg (mC (.int 2))) (mVar 3)) (mC (.int 1))))
noncomputable def b_ldeck : SM :=
  (sSeq (sPar [1, 2] (mCons (mComp lcK (mIt (mSl (mVar 0) oNone (oSome (mC (.int 63))))) g2_ldeck mYes e2_ldeck [3]) (mCons (mOp vAdd (mC (.int 48009)) (mB vLen (mCons (mVar 0) mNil))) mNil)))
  (sSeq (sFor (mIt (mVar 1)) g1_ldeck l1_ldeck)
  (sRet (mNew (mCons (mComp lcN (mIt (mVar 1)) g0_ldeck t0_ldeck e0_ldeck [3]) (mCons (mVar 2) (mCons (mC (.int 0)) mNil)))))))
noncomputable def d_ldeck : Den := trim (body 4 b_ldeck)
noncomputable def b_ldraw : SM :=
  (sSeq (sIf (mT (mOp vNe (mOp vIxX (mVar 0) (mC (.int 0))) (mLst mNil))) (sSeq (sAsg (mOp vIxX (mOp vIxX (mVar 0) (mC (.int 0))) (mC (.int 0))) (gN 3))
  (sSeq (sAsg (mOp vDiv (mVar 3) (mVar 1)) (gSet (mOp vIxX (mVar 0) (mC (.int 0))) (mC (.int 0)) vSetX))
  (sSeq (sIf (mT (mOp vLt (mVar 3) (mVar 1))) (sDrop (mM "list" vPop (mOp vIxX (mVar 0) (mC (.int 0))) (mCons (mC (.int 0)) mNil))) sNil)
  (sRet (mOp vMod (mB vInt (mCons (mVar 3) mNil)) (mVar 1)))))) sNil)
  (sSeq (sAsg (mOp vAdd (mOp vIxX (mVar 0) (mC (.int 2))) (mC (.int 1))) (gSet (mVar 0) (mC (.int 2)) vSetX))
  (sSeq (sAsg (mOp vMod (mB vInt (mCons (mOp vAdd (mOp vIxX (mVar 0) (mC (.int 1))) (mOp vMulX (mC (.int 2654435761)) (mOp vIxX (mVar 0) (mC (.int 2))))) mNil)) (mC (.int 4294967291))) (gN 2))
  (sSeq (sAsg (mOp vMod (mB vInt (mCons (mOp vAdd (mOp vAdd (mOp vMulX (mVar 2) (mVar 2)) (mOp vMulX (mC (.int 40503)) (mOp vIxX (mVar 0) (mC (.int 2))))) (mC (.int 11))) mNil)) (mC (.int 4294967279))) (gN 2))
  (sSeq (sAsg (mOp vMod (mB vInt (mCons (mOp vAdd (mOp vMulX (mVar 2) (mVar 2)) (mOp vIxX (mVar 0) (mC (.int 1)))) mNil)) (mC (.int 4294967231))) (gN 2))
  (sRet (mOp vMod (mB vInt (mCons (mOp vDiv (mVar 2) (mC (.int 64))) mNil)) (mVar 1))))))))
noncomputable def d_ldraw : Den := trim (body 4 b_ldraw)
noncomputable def g0_lbeside : GM := (gT 2 (gsCons (gN 2) (gsCons (gN 3) gsNil)))
noncomputable def t0_lbeside : TM := (mT (mOp (vInX false) (mVar 1) (mTup (mCons (mVar 2) (mCons (mVar 3) mNil)))))
noncomputable def e0_lbeside : EM := (mOp vSub (mOp vAdd (mVar 2) (mVar 3)) (mVar 1))
noncomputable def b_lbeside : SM :=
  (sRet (mB vSortX (mCons (mComp lcK (mIt (mOp vIxX (mVar 0) (mC (.int 1)))) g0_lbeside t0_lbeside e0_lbeside [2, 3]) mNil)))
noncomputable def d_lbeside : Den := trim (body 4 b_lbeside)
noncomputable def g0_lback_fits : GM := (gT 2 (gsCons (gN 7) (gsCons (gN 8) gsNil)))
noncomputable def t0_lback_fits : TM := (mT (mOp vEq (mOp vIxX (mVar 8) (mC (.int 0))) (mVar 4)))
noncomputable def e0_lback_fits : EM := (mVar 7)
noncomputable def b_lback_fits : SM :=
  (sSeq (sAsg (mOp vIxX (mVar 1) (mVar 2)) (gT 3 (gsCons (gN 3) (gsCons (gN 4) (gsCons (gN 5) gsNil)))))
  (sSeq (sAsg (mOp vIxX (mVar 1) (mOp vIxX (mComp lcK (mEnum (mCons (mOp vIxX (mVar 0) (mC (.int 1))) mNil)) g0_lback_fits t0_lback_fits e0_lback_fits [7, 8]) (mC (.int 0)))) (gN 6))
  (sRet (mIf (mT (mOp vNe (mVar 5) (mVar 4))) (mOp vEq (mVar 6) (mTup (mCons (mC (.str "go")) (mCons (mVar 5) mNil)))) (mOp vNe (mOp vIxX (mVar 6) (mC (.int 0))) (mC (.str "go")))))))
noncomputable def d_lback_fits : Den := trim (body 9 b_lback_fits)
noncomputable def b_is_for : SM :=
  (sSeq (sAsg (mVar 0) (gT 3 (gsCons (gN 2) (gsCons (gN 3) (gsCons (gN 4) gsNil)))))
  (sRet (mIf (mT (mOp vEq (mVar 4) (mVar 3))) (mNot (mCall 1 d_goer (mCons (mVar 1) mNil))) (mOp vEq (mVar 1) (mTup (mCons (mC (.str "go")) (mCons (mVar 4) mNil)))))))
noncomputable def d_is_for : Den := trim (body 5 b_is_for)
noncomputable def b_lpick : SM :=
  (sRet (mOp vIxX (mVar 1) (mCall 2 d_ldraw (mCons (mVar 0) (mCons (mB vLen (mCons (mVar 1) mNil)) mNil)))))
noncomputable def d_lpick : Den := trim (body 2 b_lpick)
noncomputable def b_lmixed : SM :=
  (sSeq (sPar [2, 3] (mCons (mB vListN (mCons (mVar 1) mNil)) (mCons (mNew mNil) mNil)))
  (sSeq (sWhile (mT (mOp vNe (mVar 2) (mLst mNil))) (sDrop (mM "list" vAppend (mVar 3) (mCons (mM "list" vPop (mVar 2) (mCons (mCall 2 d_ldraw (mCons (mVar 0) (mCons (mB vLen (mCons (mVar 2) mNil)) mNil))) mNil)) mNil))))
  (sGh 3 (sRet (mVar 3)))))
noncomputable def d_lmixed : Den := trim (body 4 b_lmixed)
noncomputable def g0_lchart : GM := (gN 8)
noncomputable def t0_lchart : TM := (mT (mOp vEq (mCall 2 d_ldraw (mCons (mVar 0) (mCons (mC (.int 2)) mNil))) (mC (.int 0))))
noncomputable def e0_lchart : EM := (mVar 8)
noncomputable def g1_lchart : GM := (gN 5)
noncomputable def l1_lchart : SM := (sSeq (sPar [7, 4] (mCons (mCall 2 d_ldraw (mCons (mVar 0) (mCons (mVar 1) mNil))) (mCons (mCall 2 d_ldraw (mCons (mVar 0) (mCons (mVar 1) mNil))) mNil)))
  (sIf (mTAnd (mT (mOp vLt (mVar 7) (mVar 4))) (mT (mOp (vInX true) (mTup (mCons (mVar 7) (mCons (mVar 4) mNil))) (mVar 3)))) (sDrop (mM "list" vAppend (mVar 3) (mCons (mTup (mCons (mVar 7) (mCons (mVar 4) mNil))) mNil))) sNil))
noncomputable def g2_lchart : GM := (gN 4)
noncomputable def l2_lchart : SM := (sIf (mT (mOp vGt (mCall 2 d_ldraw (mCons (mVar 0) (mCons (mC (.int 9)) mNil))) (mC (.int 0)))) (sDrop (mM "list" vAppend (mVar 3) (mCons (mTup (mCons (mB vMax (mCons (mC (.int 0)) (mCons (mOp vSub (mOp vSub (mVar 4) (mC (.int 1))) (mCall 2 d_ldraw (mCons (mVar 0) (mCons (mC (.int 3)) mNil)))) mNil))) (mCons (mVar 4) mNil))) mNil))) sNil)
noncomputable def b_lchart : SM :=
  (sSeq (sAsg (mNew mNil) (gN 3))
  (sSeq (sFor (mRange2 (mCons (mC (.int 1)) (mCons (mVar 1) mNil))) g2_lchart l2_lchart)
  (sSeq (sFor (mRange1 (mCons (mVar 2) mNil)) g1_lchart l1_lchart)
  (sSeq (sAsg (mComp lcK (mRange1 (mCons (mVar 1) mNil)) g0_lchart t0_lchart e0_lchart [8]) (gN 6))
  (sRet (mTup (mCons (mVar 1) (mCons (mB vTuple (mCons (mB vSortX (mCons (mVar 3) mNil)) mNil)) (mCons (mB vTuple (mCons (mVar 6) mNil)) mNil)))))))))
noncomputable def d_lchart : Den := trim (body 9 b_lchart)
noncomputable def g1_lorders_of : GM := (gN 10)
noncomputable def l1_lorders_of : SM := (sIf (mTOr (mT (mOp vEq (mVar 10) (mVar 9))) (mT (mOp (vInX false) (mVar 10) (mCall 2 d_lbeside (mCons (mVar 2) (mCons (mVar 9) mNil)))))) (sDrop (mM "list" vAppend (mVar 8) (mCons (mTup (mCons (mC (.str "back")) (mCons (mVar 9) (mCons (mVar 10) mNil)))) mNil))) sNil)
noncomputable def g0_lorders_of : GM := (gN 9)
noncomputable def l0_lorders_of : SM := (sIf (mT (mOp vNe (mVar 9) (mVar 4))) (sFor (mIt (mVar 6)) g1_lorders_of l1_lorders_of) sNil)
noncomputable def g2_lorders_of : GM := (gN 9)
noncomputable def e2_lorders_of : EM := (mTup (mCons (mC (.str "go")) (mCons (mVar 9) mNil)))
noncomputable def g3_lorders_of : GM := (gT 2 (gsCons (gN 9) (gsCons (gN 11) gsNil)))
noncomputable def e3_lorders_of : EM := (mVar 9)
noncomputable def b_lorders_of : SM :=
  (sSeq (sAsg (mVar 0) (gT 2 (gsCons (gN 2) (gsCons (gN 3) gsNil))))
  (sSeq (sPar [4, 5] (mCons (mOp vIxX (mOp vIxX (mVar 3) (mVar 1)) (mC (.int 0))) (mCons (mComp lcK (mIt (mVar 3)) g3_lorders_of mYes e3_lorders_of [9, 11]) mNil)))
  (sSeq (sAsg (mCall 2 d_lbeside (mCons (mVar 2) (mCons (mVar 4) mNil))) (gN 6))
  (sSeq (sPar [7, 8] (mCons (mComp lcK (mIt (mVar 6)) g2_lorders_of mYes e2_lorders_of [9]) (mCons (mNew mNil) mNil)))
  (sSeq (sFor (mIt (mVar 5)) g0_lorders_of l0_lorders_of)
  (sRet (mOp vAdd (mOp vAdd (mLst (mCons (mTup (mCons (mC (.str "stay")) mNil)) mNil)) (mVar 7)) (mB vSortX (mCons (mVar 8) mNil)))))))))
noncomputable def d_lorders_of : Den := trim (body 12 b_lorders_of)
noncomputable def b_fits : SM :=
  (sRet (mCall 2 d_is_for (mCons (mOp vIxX (mVar 1) (mVar 2)) (mCons (mOp vIxX (mVar 1) (mCall 2 d_place_in (mCons (mVar 0) (mCons (mOp vIxX (mOp vIxX (mVar 1) (mVar 2)) (mC (.int 1))) mNil)))) mNil))))
noncomputable def d_fits : Den := trim (body 3 b_fits)
noncomputable def g0_lpieces : GM := (gN 5)
noncomputable def e0_lpieces : EM := (mTup (mCons (mVar 5) (mCons (mCall 2 d_lpick (mCons (mVar 0) (mCons (mVar 3) mNil))) mNil)))
noncomputable def b_lpieces : SM :=
  (sSeq (sAsg (mSl (mCall 2 d_lmixed (mCons (mVar 0) (mCons (mLR1 (mC (.int 6))) mNil))) oNone (oSome (mOp vAdd (mC (.int 2)) (mCall 2 d_ldraw (mCons (mVar 0) (mCons (mC (.int 2)) mNil)))))) (gN 3))
  (sSeq (sAsg (mB vSortX (mCons (mSl (mCall 2 d_lmixed (mCons (mVar 0) (mCons (mLR1 (mOp vIxX (mVar 1) (mC (.int 0)))) mNil))) oNone (oSome (mVar 2))) mNil)) (gN 4))
  (sRet (mB vTuple (mCons (mComp lcK (mIt (mVar 4)) g0_lpieces mYes e0_lpieces [5]) mNil)))))
noncomputable def d_lpieces : Den := trim (body 6 b_lpieces)
noncomputable def g2_lgos : GM := (gN 7)
noncomputable def t2_lgos : TM := (mT (mOp (vInX false) (mVar 7) (mVar 4)))
noncomputable def e2_lgos : EM := (mVar 7)
noncomputable def g4_lgos : GM := (gN 7)
noncomputable def t4_lgos : TM := (mT (mOp (vInX false) (mVar 7) (mCall 2 d_lbeside (mCons (mVar 2) (mCons (mVar 12) mNil)))))
noncomputable def e4_lgos : EM := (mVar 7)
noncomputable def g3_lgos : GM := (gN 15)
noncomputable def l3_lgos : SM := (sIf (mT (mOp (vInX false) (mVar 15) (mVar 4))) (sSeq (sTup 3 (mCons (mVar 14) (mCons (mVar 15) (mCons (mVar 12) mNil))) (gsCons (gSet (mVar 5) (mVar 12) vSetX) (gsCons (gSet (mVar 5) (mVar 14) vSetX) (gsCons (gSet (mVar 5) (mVar 15) vSetX) gsNil))))
  (sGh 5 (sRet (mVar 5)))) sNil)
noncomputable def g1_lgos : GM := (gN 14)
noncomputable def l1_lgos : SM := (sFor (mIt (mComp lcK (mIt (mCall 2 d_lbeside (mCons (mVar 2) (mCons (mVar 14) mNil)))) g4_lgos t4_lgos e4_lgos [7])) g3_lgos l3_lgos)
noncomputable def g0_lgos : GM := (gN 12)
noncomputable def l0_lgos : SM := (sFor (mIt (mComp lcK (mIt (mCall 2 d_lbeside (mCons (mVar 2) (mCons (mVar 12) mNil)))) g2_lgos t2_lgos e2_lgos [7])) g1_lgos l1_lgos)
noncomputable def g6_lgos : GM := (gN 11)
noncomputable def t6_lgos : TM := (mT (mOp (vInX false) (mVar 11) (mVar 4)))
noncomputable def e6_lgos : EM := (mVar 11)
noncomputable def g5_lgos : GM := (gN 7)
noncomputable def l5_lgos : SM := (sSeq (sAsg (mCall 2 d_lbeside (mCons (mVar 2) (mCons (mVar 7) mNil))) (gN 9))
  (sIf (mTAnd (mT (mOp vNe (mVar 9) (mLst mNil))) (mT (mOp vLt (mCall 2 d_ldraw (mCons (mVar 0) (mCons (mC (.int 5)) mNil))) (mC (.int 2))))) (sSeq (sAsg (mComp lcK (mIt (mVar 9)) g6_lgos t6_lgos e6_lgos [11]) (gN 13))
  (sAsg (mCall 2 d_lpick (mCons (mVar 0) (mCons (mIf (mTAnd (mT (mOp vNe (mVar 13) (mLst mNil))) (mT (mOp vGt (mCall 2 d_ldraw (mCons (mVar 0) (mCons (mC (.int 4)) mNil))) (mC (.int 0))))) (mVar 13) (mVar 9)) mNil))) (gSet (mVar 5) (mVar 7) vSetX))) sNil))
noncomputable def g8_lgos : GM := (gT 2 (gsCons (gN 11) (gsCons (gN 16) gsNil)))
noncomputable def t8_lgos : TM := (mTAnd (mT (mOp vNe (mVar 16) (mVar 8))) (mT (mOp (vInX false) (mVar 11) (mVar 9))))
noncomputable def e8_lgos : EM := (mTup (mCons (mVar 7) (mCons (mVar 11) mNil)))
noncomputable def g7_lgos : GM := (gT 2 (gsCons (gN 7) (gsCons (gN 8) gsNil)))
noncomputable def l7_lgos : SM := (sSeq (sAsg (mCall 2 d_lbeside (mCons (mVar 2) (mCons (mVar 7) mNil))) (gN 9))
  (sAsg (mOp vAdd (mVar 6) (mComp lcK (mIt (mVar 3)) g8_lgos t8_lgos e8_lgos [11, 16])) (gN 6)))
noncomputable def g9_lgos : GM := (gT 2 (gsCons (gN 7) (gsCons (gN 8) gsNil)))
noncomputable def e9_lgos : EM := (mVar 7)
noncomputable def b_lgos : SM :=
  (sSeq (sAsg (mVar 1) (gT 2 (gsCons (gN 2) (gsCons (gN 3) gsNil))))
  (sSeq (sTup 3 (mCons (mComp lcK (mIt (mVar 3)) g9_lgos mYes e9_lgos [7, 8]) (mCons mDctN (mCons (mLst mNil) mNil))) (gsCons (gN 4) (gsCons (gN 5) (gsCons (gN 6) gsNil))))
  (sSeq (sFor (mIt (mVar 3)) g7_lgos l7_lgos)
  (sSeq (sIf (mTAnd (mT (mOp vNe (mVar 6) (mLst mNil))) (mT (mOp vEq (mCall 2 d_ldraw (mCons (mVar 0) (mCons (mC (.int 2)) mNil))) (mC (.int 0))))) (sSeq (sAsg (mCall 2 d_lpick (mCons (mVar 0) (mCons (mVar 6) mNil))) (gT 2 (gsCons (gN 10) (gsCons (gN 11) gsNil))))
  (sRet (mDisp1 (mVar 10) (mVar 11)))) sNil)
  (sSeq (sFor (mIt (mVar 4)) g5_lgos l5_lgos)
  (sSeq (sIf (mT (mOp vEq (mCall 2 d_ldraw (mCons (mVar 0) (mCons (mC (.int 6)) mNil))) (mC (.int 0)))) (sFor (mIt (mVar 4)) g0_lgos l0_lgos) sNil)
  (sGh 5 (sRet (mVar 5)))))))))
noncomputable def d_lgos : Den := trim (body 17 b_lgos)
noncomputable def g1_lorders : GM := (gN 12)
noncomputable def t1_lorders : TM := (mTAnd (mT (mOp vEq (mOp vIxX (mVar 12) (mC (.int 0))) (mC (.str "back")))) (mT (mOp vEq (mOp vIxX (mVar 12) (mC (.int 1))) (mOp vIxX (mVar 12) (mC (.int 2))))))
noncomputable def e1_lorders : EM := (mVar 12)
noncomputable def g2_lorders : GM := (gN 12)
noncomputable def t2_lorders : TM := (mTAnd (mT (mOp vEq (mOp vIxX (mVar 12) (mC (.int 0))) (mC (.str "back")))) (mT (mOp vEq (mGet (mVar 4) (mCons (mOp vIxX (mVar 12) (mC (.int 1))) (mCons (mNeg (mC (.int 1))) mNil))) (mOp vIxX (mVar 12) (mC (.int 2))))))
noncomputable def e2_lorders : EM := (mVar 12)
noncomputable def g0_lorders : GM := (gT 2 (gsCons (gN 6) (gsCons (gT 2 (gsCons (gN 7) (gsCons (gN 8) gsNil))) gsNil)))
noncomputable def l0_lorders : SM := (sSeq (sIf (mT (mOp (vInX false) (mVar 7) (mVar 4))) (sSeq (sDrop (mM "list" vAppend (mVar 5) (mCons (mTup (mCons (mC (.str "go")) (mCons (mOp vIxX (mVar 4) (mVar 7)) mNil))) mNil)))
  sCnt) sNil)
  (sSeq (sAsg (mCall 2 d_lorders_of (mCons (mVar 1) (mCons (mVar 6) mNil))) (gN 9))
  (sSeq (sAsg (mComp lcK (mIt (mVar 9)) g2_lorders t2_lorders e2_lorders [12]) (gN 10))
  (sSeq (sAsg (mIf (mT (mOp vNe (mVar 10) (mLst mNil))) (mVar 10) (mComp lcK (mIt (mVar 9)) g1_lorders t1_lorders e1_lorders [12])) (gN 10))
  (sSeq (sAsg (mCall 2 d_ldraw (mCons (mVar 0) (mCons (mC (.int 7)) mNil))) (gN 11))
  (sSeq (sAsg (mIf (mTAnd (mT (mOp vNe (mVar 10) (mLst mNil))) (mT (mOp vLt (mVar 11) (mC (.int 5))))) (mVar 10) (mIf (mT (mOp vEq (mVar 11) (mC (.int 5)))) (mVar 9) (mSl (mVar 9) oNone (oSome (mC (.int 1)))))) (gN 9))
  (sDrop (mM "list" vAppend (mVar 5) (mCons (mCall 2 d_lpick (mCons (mVar 0) (mCons (mVar 9) mNil))) mNil)))))))))
noncomputable def b_lorders : SM :=
  (sSeq (sAsg (mVar 1) (gT 2 (gsCons (gN 2) (gsCons (gN 3) gsNil))))
  (sSeq (sTup 2 (mCons (mCall 2 d_lgos (mCons (mVar 0) (mCons (mVar 1) mNil))) (mCons (mNew mNil) mNil)) (gsCons (gN 4) (gsCons (gN 5) gsNil)))
  (sSeq (sFor (mEnum (mCons (mVar 3) mNil)) g0_lorders l0_lorders)
  (sRet (mB vTuple (mCons (mVar 5) mNil))))))
noncomputable def d_lorders : Den := trim (body 13 b_lorders)
noncomputable def b_lboard : SM :=
  (sSeq (sAsg (mCall 3 d_lchart (mCons (mVar 0) (mCons (mVar 1) (mCons (mOp vAdd (mC (.int 1)) (mCall 2 d_ldraw (mCons (mVar 0) (mCons (mC (.int 4)) mNil)))) mNil)))) (gN 3))
  (sRet (mTup (mCons (mVar 3) (mCons (mCall 3 d_lpieces (mCons (mVar 0) (mCons (mVar 3) (mCons (mVar 2) mNil)))) mNil)))))
noncomputable def d_lboard : Den := trim (body 4 b_lboard)
noncomputable def g2_law : GM := (gT 2 (gsCons (gN 10) (gsCons (gN 7) gsNil)))
noncomputable def l2_law : SM := (sIf (mTAnd (mT (mOp vEq (mOp vIxX (mVar 7) (mC (.int 0))) (mC (.str "back")))) (mTOr (mT (mOp vEq (mVar 8) (mVar 4))) (mT (mOp vEq (mVar 10) (mVar 6))))) (sSeq (sAsg (mB vRepr (mCons (mCall 3 d_lback_fits (mCons (mVar 3) (mCons (mVar 8) (mCons (mVar 10) mNil)))) mNil)) (gN 11))
  (sSeq (sAsg (mIf (mT (mOp vEq (mOp vMod (mVar 10) (mC (.int 3))) (mC (.int 1)))) (mCallK 0 3 d_fits [2, 1, 0] mNil (mCons (mVar 10) (mCons (mVar 8) (mCons (mVar 3) mNil)))) (mCall 3 d_fits (mCons (mVar 3) (mCons (mVar 8) (mCons (mVar 10) mNil))))) (gN 12))
  (sIf (mTOr (mT (mOp vNe (mB vRepr (mCons (mVar 12) mNil)) (mVar 11))) (mT (mOp vNe (mB vRepr (mCons (mCall 3 d_fits (mCons (mVar 3) (mCons (mVar 8) (mCons (mVar 10) mNil)))) mNil)) (mVar 11)))) (sRet (mC (.bool false))) sNil))) sNil)
noncomputable def g1_law : GM := (gN 8)
noncomputable def l1_law : SM := (sSeq (sAsg (mB vRepr (mCons (mLst (mCons (mVar 3) (mCons (mVar 8) mNil))) mNil)) (gN 9))
  (sSeq (sFor (mEnum (mCons (mVar 8) mNil)) g2_law l2_law)
  (sIf (mT (mOp vNe (mB vRepr (mCons (mLst (mCons (mVar 3) (mCons (mVar 8) mNil))) mNil)) (mVar 9))) (sRet (mC (.bool false))) sNil)))
noncomputable def g3_law : GM := (gN 7)
noncomputable def l3_law : SM := (sIf (mT (mOp vEq (mOp vIxX (mVar 7) (mC (.int 0))) (mC (.str "back")))) (sDrop (mM "list" vAppend (mVar 5) (mCons (mOp vAdd (mOp vAdd (mSl (mVar 4) oNone (oSome (mVar 6))) (mTup (mCons (mVar 7) mNil))) (mSl (mVar 4) (oSome (mOp vAdd (mVar 6) (mC (.int 1)))) oNone)) mNil))) sNil)
noncomputable def g0_law : GM := (gN 2)
noncomputable def l0_law : SM := (sSeq (sAsg (mCall 3 d_lboard (mCons (mVar 1) (mCons (mOp vAdd (mC (.int 4)) (mCall 2 d_ldraw (mCons (mVar 1) (mCons (mC (.int 6)) mNil)))) (mCons (mOp vAdd (mC (.int 3)) (mCall 2 d_ldraw (mCons (mVar 1) (mCons (mC (.int 6)) mNil)))) mNil)))) (gN 3))
  (sSeq (sAsg (mCall 2 d_lorders (mCons (mVar 1) (mCons (mVar 3) mNil))) (gN 4))
  (sSeq (sPar [5, 6] (mCons (mNew (mCons (mVar 4) mNil)) (mCons (mCall 2 d_ldraw (mCons (mVar 1) (mCons (mB vLen (mCons (mVar 4) mNil)) mNil))) mNil)))
  (sSeq (sFor (mIt (mCall 2 d_lorders_of (mCons (mVar 3) (mCons (mVar 6) mNil)))) g3_law l3_law)
  (sGh 5 (sFor (mIt (mVar 5)) g1_law l1_law))))))
noncomputable def r_law : SM :=
  (sSeq (sFor (mRange1 (mCons (mC (.int 5)) mNil)) g0_law l0_law)
  (sRet (mC (.bool true))))
noncomputable def b_law : SM :=
  (sSeq (sAsg (mCall 1 d_ldeck (mCons (mVar 0) mNil)) (gN 1))
  r_law)
noncomputable def d_law : Den := trim (body 13 b_law)
section
variable {P : Program} {w : World} {K : PySem.W.Frag} {mg : Str → Option Value} {base : Heap}
theorem ok_place_in (T : Txt K mg) : DefZ P w K mg base 1 "place_in" s_place_in ["board", "field"] d_place_in := by
  refine defZ T.f_place_in sc_place_in (by decide) fun f cdv A outer s H E hr hG => ?_
  have sc := sc_place_in
  have tk : Takes (CxZ P w K mg base ["board", "field", "place", "piece"] "place_in" (defScope s_place_in) f cdv A outer s H E) (fun c d _ H' => E c d H') := takes_of rfl rfl rfl rfl
  have hp : PassesOwn (model (CxZ P w K mg base ["board", "field", "place", "piece"] "place_in" (defScope s_place_in) f cdv A outer s H E).prog (CxZ P w K mg base ["board", "field", "place", "piece"] "place_in" (defScope s_place_in) f cdv A outer s H E).w) (CxZ P w K mg base ["board", "field", "place", "piece"] "place_in" (defScope s_place_in) f cdv A outer s H E).A (CxZ P w K mg base ["board", "field", "place", "piece"] "place_in" (defScope s_place_in) f cdv A outer s H E).env (CxZ P w K mg base ["board", "field", "place", "piece"] "place_in" (defScope s_place_in) f cdv A outer s H E).xe := passes_of rfl
  exact (sss_cons (ss_for hp rfl (si_enumE (by rfl) T.z_enumerate (sa_cons (se_ixX (room_u65 hr) (se_var (pv 0)) se_int) sa_nil)) (sg_tup rfl (sgs_cons (sg_name (pg_name (i := 2) sc.nd rfl (by first | exact .inl rfl | exact .inr rfl))) (sgs_cons (sg_name (pg_name (i := 3) sc.nd rfl (by first | exact .inl rfl | exact .inr rfl))) sgs_nil))) (sss_one (ss_if (st_eq (room_u64 hr) (se_ixX (room_u65 hr) (se_var (pv 3)) se_int) (se_var (pv 1))) (sss_one (ss_ret (se_var (pv 2)))) sss_nil)))
    (sss_one (ss_ret se_non)))
theorem ok_goer (T : Txt K mg) : DefZ P w K mg base 1 "goer" s_goer ["order"] d_goer := by
  refine defZ T.f_goer sc_goer (by decide) fun f cdv A outer s H E hr hG => ?_
  have sc := sc_goer
  have tk : Takes (CxZ P w K mg base ["order"] "goer" (defScope s_goer) f cdv A outer s H E) (fun c d _ H' => E c d H') := takes_of rfl rfl rfl rfl
  have hp : PassesOwn (model (CxZ P w K mg base ["order"] "goer" (defScope s_goer) f cdv A outer s H E).prog (CxZ P w K mg base ["order"] "goer" (defScope s_goer) f cdv A outer s H E).w) (CxZ P w K mg base ["order"] "goer" (defScope s_goer) f cdv A outer s H E).A (CxZ P w K mg base ["order"] "goer" (defScope s_goer) f cdv A outer s H E).env (CxZ P w K mg base ["order"] "goer" (defScope s_goer) f cdv A outer s H E).xe := passes_of rfl
  exact (sss_one (ss_ret (se_eq (room_u64 hr) (se_ixX (room_u65 hr) (se_var (pv 0)) se_int) se_str)))
theorem ok_ldeck (T : Txt K mg) : DefZ P w K mg base 1 "_law_deck" s_ldeck ["script"] d_ldeck := by
  refine defZ T.f_ldeck sc_ldeck (by decide) fun f cdv A outer s H E hr hG => ?_
  have sc := sc_ldeck
  have tk : Takes (CxZ P w K mg base ["script", "cells", "stirred", "cell"] "_law_deck" (defScope s_ldeck) f cdv A outer s H E) (fun c d _ H' => E c d H') := takes_of rfl rfl rfl rfl
  have hp : PassesOwn (model (CxZ P w K mg base ["script", "cells", "stirred", "cell"] "_law_deck" (defScope s_ldeck) f cdv A outer s H E).prog (CxZ P w K mg base ["script", "cells", "stirred", "cell"] "_law_deck" (defScope s_ldeck) f cdv A outer s H E).w) (CxZ P w K mg base ["script", "cells", "stirred", "cell"] "_law_deck" (defScope s_ldeck) f cdv A outer s H E).A (CxZ P w K mg base ["script", "cells", "stirred", "cell"] "_law_deck" (defScope s_ldeck) f cdv A outer s H E).env (CxZ P w K mg base ["script", "cells", "stirred", "cell"] "_law_deck" (defScope s_ldeck) f cdv A outer s H E).xe := passes_of rfl
  exact (sss_cons (ss_par (ps_par (i := 1) (j := 2) rfl sc.nd rfl rfl (by decide) rfl rfl (SA.pa (sa_cons (se_lc (own := [("cell", 3)]) (.inl rfl) rfl sc.nd (si_seqE (se_slice (se_var (pv 0)) so_none (so_some se_int))) (blkOk_by (N := ["script", "cells", "stirred", "cell"]) (sc := defScope s_ldeck) (own := [("cell", 3)]) (by decide +kernel)) (fun _ _ _ _ _ => (sgo_name (by decide) (pg_name (i := 3) sc.nd rfl (by first | exact .inl rfl | exact .inr rfl)))) (fun _ _ _ _ _ => sts_nil) (fun _ _ _ _ _ => (se_if (st_ge (se_var (pv 3)) se_int) (se_mulx se_int (se_var (pv 3))) (se_sub (se_mulx (se_neg se_int) (se_var (pv 3))) se_int)))) (sa_cons (se_add se_int (se_callB call_len cz_len (by rfl) T.z_len bb_len (sa_cons (se_var (pv 0)) sa_nil))) sa_nil))) (by rfl)))
    (sss_cons (ss_for hp rfl (si_seqE (se_var (pv 1))) (sg_name (pg_name (i := 3) sc.nd rfl (by first | exact .inl rfl | exact .inr rfl))) (sss_one (ss_set (i := 2) sc.nd rfl (by first | exact .inl rfl | exact .inr rfl) (se_mod (se_callTy call_int1 cz_int (by rfl) T.z_int bb_int (sa_cons (se_add (se_mulx (se_var (pv 2)) se_int) (se_var (pv 3))) sa_nil)) se_int))))
    (sss_one (ss_ret (se_new (sa_cons (se_lc (own := [("cell", 3)]) (.inr rfl) rfl sc.nd (si_seqE (se_var (pv 1))) (blkOk_by (N := ["script", "cells", "stirred", "cell"]) (sc := defScope s_ldeck) (own := [("cell", 3)]) (by decide +kernel)) (fun _ _ _ _ _ => (sgo_name (by decide) (pg_name (i := 3) sc.nd rfl (by first | exact .inl rfl | exact .inr rfl)))) (fun _ _ _ _ _ => (sts_one (st_ge (se_var (pv 3)) (se_pow se_int se_int)))) (fun _ _ _ _ _ => (se_var (pv 3)))) (sa_cons (se_var (pv 2)) (sa_cons se_int sa_nil))))))))
theorem ok_ldraw (T : Txt K mg) : DefZ P w K mg base 1 "_law_draw" s_ldraw ["deck", "many"] d_ldraw := by
  refine defZ T.f_ldraw sc_ldraw (by decide) fun f cdv A outer s H E hr hG => ?_
  have sc := sc_ldraw
  have tk : Takes (CxZ P w K mg base ["deck", "many", "mixed", "cell"] "_law_draw" (defScope s_ldraw) f cdv A outer s H E) (fun c d _ H' => E c d H') := takes_of rfl rfl rfl rfl
  have hp : PassesOwn (model (CxZ P w K mg base ["deck", "many", "mixed", "cell"] "_law_draw" (defScope s_ldraw) f cdv A outer s H E).prog (CxZ P w K mg base ["deck", "many", "mixed", "cell"] "_law_draw" (defScope s_ldraw) f cdv A outer s H E).w) (CxZ P w K mg base ["deck", "many", "mixed", "cell"] "_law_draw" (defScope s_ldraw) f cdv A outer s H E).A (CxZ P w K mg base ["deck", "many", "mixed", "cell"] "_law_draw" (defScope s_ldraw) f cdv A outer s H E).env (CxZ P w K mg base ["deck", "many", "mixed", "cell"] "_law_draw" (defScope s_ldraw) f cdv A outer s H E).xe := passes_of rfl
  exact (sss_cons (ss_if (st_ne (room_u64 hr) (se_ixX (room_u65 hr) (se_var (pv 0)) se_int) (se_lst sa_nil)) (sss_cons (ss_set (i := 3) sc.nd rfl (by first | exact .inl rfl | exact .inr rfl) (se_ixX (room_u65 hr) (se_ixX (room_u65 hr) (se_var (pv 0)) se_int) se_int))
    (sss_cons (ss_asg (se_fdiv (se_var (pv 3)) (se_var (pv 1))) (sg_sub (fun _ => (se_ixX (room_u65 hr) (se_var (pv 0)) se_int)) (fun _ => se_int) (set_X (room_u65 hr)) sz_X))
    (sss_cons (ss_if (st_lt (se_var (pv 3)) (se_var (pv 1))) (sss_one (ss_expr (se_meth PySem.F.plainAttrs_list PySem.F.slot_list_pop PySem.F.type_list_pop (MtR.or mt_pop mt_popAt) mz_pop (se_ixX (room_u65 hr) (se_var (pv 0)) se_int) (sa_cons se_int sa_nil)))) sss_nil)
    (sss_one (ss_ret (se_mod (se_callTy call_int1 cz_int (by rfl) T.z_int bb_int (sa_cons (se_var (pv 3)) sa_nil)) (se_var (pv 1)))))))) sss_nil)
    (sss_cons (ss_asg (se_add (se_ixX (room_u65 hr) (se_var (pv 0)) se_int) se_int) (sg_sub (fun _ => (se_var (pv 0))) (fun _ => se_int) (set_X (room_u65 hr)) sz_X))
    (sss_cons (ss_set (i := 2) sc.nd rfl (by first | exact .inl rfl | exact .inr rfl) (se_mod (se_callTy call_int1 cz_int (by rfl) T.z_int bb_int (sa_cons (se_add (se_ixX (room_u65 hr) (se_var (pv 0)) se_int) (se_mulx se_int (se_ixX (room_u65 hr) (se_var (pv 0)) se_int))) sa_nil)) se_int))
    (sss_cons (ss_set (i := 2) sc.nd rfl (by first | exact .inl rfl | exact .inr rfl) (se_mod (se_callTy call_int1 cz_int (by rfl) T.z_int bb_int (sa_cons (se_add (se_add (se_mulx (se_var (pv 2)) (se_var (pv 2))) (se_mulx se_int (se_ixX (room_u65 hr) (se_var (pv 0)) se_int))) se_int) sa_nil)) se_int))
    (sss_cons (ss_set (i := 2) sc.nd rfl (by first | exact .inl rfl | exact .inr rfl) (se_mod (se_callTy call_int1 cz_int (by rfl) T.z_int bb_int (sa_cons (se_add (se_mulx (se_var (pv 2)) (se_var (pv 2))) (se_ixX (room_u65 hr) (se_var (pv 0)) se_int)) sa_nil)) se_int))
    (sss_one (ss_ret (se_mod (se_callTy call_int1 cz_int (by rfl) T.z_int bb_int (sa_cons (se_fdiv (se_var (pv 2)) se_int) sa_nil)) (se_var (pv 1))))))))))
theorem ok_lbeside (T : Txt K mg) : DefZ P w K mg base 1 "_law_beside" s_lbeside ["chart", "field"] d_lbeside := by
  refine defZ T.f_lbeside sc_lbeside (by decide) fun f cdv A outer s H E hr hG => ?_
  have sc := sc_lbeside
  have tk : Takes (CxZ P w K mg base ["chart", "field", "a", "b"] "_law_beside" (defScope s_lbeside) f cdv A outer s H E) (fun c d _ H' => E c d H') := takes_of rfl rfl rfl rfl
  have hp : PassesOwn (model (CxZ P w K mg base ["chart", "field", "a", "b"] "_law_beside" (defScope s_lbeside) f cdv A outer s H E).prog (CxZ P w K mg base ["chart", "field", "a", "b"] "_law_beside" (defScope s_lbeside) f cdv A outer s H E).w) (CxZ P w K mg base ["chart", "field", "a", "b"] "_law_beside" (defScope s_lbeside) f cdv A outer s H E).A (CxZ P w K mg base ["chart", "field", "a", "b"] "_law_beside" (defScope s_lbeside) f cdv A outer s H E).env (CxZ P w K mg base ["chart", "field", "a", "b"] "_law_beside" (defScope s_lbeside) f cdv A outer s H E).xe := passes_of rfl
  exact (sss_one (ss_ret (se_callB (CallR.or (CallR.or cr_sortedI cr_sortedPO) cr_sortT3) cz_sortX (by rfl) T.z_sorted bb_sorted (sa_cons (se_lc (own := [("a", 2), ("b", 3)]) (.inl rfl) rfl sc.nd (si_seqE (se_ixX (room_u65 hr) (se_var (pv 0)) se_int)) (blkOk_by (N := ["chart", "field", "a", "b"]) (sc := defScope s_lbeside) (own := [("a", 2), ("b", 3)]) (by decide +kernel)) (fun _ _ _ _ _ => (sgo_tup rfl (sgos_cons (sgo_name (by decide) (pg_name (i := 2) sc.nd rfl (by first | exact .inl rfl | exact .inr rfl))) (sgos_cons (sgo_name (by decide) (pg_name (i := 3) sc.nd rfl (by first | exact .inl rfl | exact .inr rfl))) sgos_nil)))) (fun _ _ _ _ _ => (sts_one (st_inX (room_u65 hr) (se_var (pv 1)) (se_tup (sa_cons (se_var (pv 2)) (sa_cons (se_var (pv 3)) sa_nil)))))) (fun _ _ _ _ _ => (se_sub (se_add (se_var (pv 2)) (se_var (pv 3))) (se_var (pv 1))))) sa_nil))))
theorem ok_lback_fits (T : Txt K mg) : DefZ P w K mg base 1 "_law_back_fits" s_lback_fits ["board", "orders", "place"] d_lback_fits := by
  refine defZ T.f_lback_fits sc_lback_fits (by decide) fun f cdv A outer s H E hr hG => ?_
  have sc := sc_lback_fits
  have tk : Takes (CxZ P w K mg base ["board", "orders", "place", "word", "field", "goal", "order", "spot", "piece"] "_law_back_fits" (defScope s_lback_fits) f cdv A outer s H E) (fun c d _ H' => E c d H') := takes_of rfl rfl rfl rfl
  have hp : PassesOwn (model (CxZ P w K mg base ["board", "orders", "place", "word", "field", "goal", "order", "spot", "piece"] "_law_back_fits" (defScope s_lback_fits) f cdv A outer s H E).prog (CxZ P w K mg base ["board", "orders", "place", "word", "field", "goal", "order", "spot", "piece"] "_law_back_fits" (defScope s_lback_fits) f cdv A outer s H E).w) (CxZ P w K mg base ["board", "orders", "place", "word", "field", "goal", "order", "spot", "piece"] "_law_back_fits" (defScope s_lback_fits) f cdv A outer s H E).A (CxZ P w K mg base ["board", "orders", "place", "word", "field", "goal", "order", "spot", "piece"] "_law_back_fits" (defScope s_lback_fits) f cdv A outer s H E).env (CxZ P w K mg base ["board", "orders", "place", "word", "field", "goal", "order", "spot", "piece"] "_law_back_fits" (defScope s_lback_fits) f cdv A outer s H E).xe := passes_of rfl
  exact (sss_cons (ss_asg (se_ixX (room_u65 hr) (se_var (pv 1)) (se_var (pv 2))) (sg_tup rfl (sgs_cons (sg_name (pg_name (i := 3) sc.nd rfl (by first | exact .inl rfl | exact .inr rfl))) (sgs_cons (sg_name (pg_name (i := 4) sc.nd rfl (by first | exact .inl rfl | exact .inr rfl))) (sgs_cons (sg_name (pg_name (i := 5) sc.nd rfl (by first | exact .inl rfl | exact .inr rfl))) sgs_nil)))))
    (sss_cons (ss_set (i := 6) sc.nd rfl (by first | exact .inl rfl | exact .inr rfl) (se_ixX (room_u65 hr) (se_var (pv 1)) (se_ixX (room_u65 hr) (se_lc (own := [("spot", 7), ("piece", 8)]) (.inl rfl) rfl sc.nd (si_enumE (by rfl) T.z_enumerate (sa_cons (se_ixX (room_u65 hr) (se_var (pv 0)) se_int) sa_nil)) (blkOk_by (N := ["board", "orders", "place", "word", "field", "goal", "order", "spot", "piece"]) (sc := defScope s_lback_fits) (own := [("spot", 7), ("piece", 8)]) (by decide +kernel)) (fun _ _ _ _ _ => (sgo_tup rfl (sgos_cons (sgo_name (by decide) (pg_name (i := 7) sc.nd rfl (by first | exact .inl rfl | exact .inr rfl))) (sgos_cons (sgo_name (by decide) (pg_name (i := 8) sc.nd rfl (by first | exact .inl rfl | exact .inr rfl))) sgos_nil)))) (fun _ _ _ _ _ => (sts_one (st_eq (room_u64 hr) (se_ixX (room_u65 hr) (se_var (pv 8)) se_int) (se_var (pv 4))))) (fun _ _ _ _ _ => (se_var (pv 7)))) se_int)))
    (sss_one (ss_ret (se_if (st_ne (room_u64 hr) (se_var (pv 5)) (se_var (pv 4))) (se_eq (room_u64 hr) (se_var (pv 6)) (se_tup (sa_cons se_str (sa_cons (se_var (pv 5)) sa_nil)))) (se_ne (room_u64 hr) (se_ixX (room_u65 hr) (se_var (pv 6)) se_int) se_str))))))
theorem ok_is_for (T : Txt K mg) : DefZ P w K mg base 2 "is_for" s_is_for ["back", "other"] d_is_for := by
  refine defZ T.f_is_for sc_is_for (by decide) fun f cdv A outer s H E hr hG => ?_
  have sc := sc_is_for
  have tk : Takes (CxZ P w K mg base ["back", "other", "word", "field", "aim"] "is_for" (defScope s_is_for) f cdv A outer s H E) (fun c d _ H' => E c d H') := takes_of rfl rfl rfl rfl
  have hp : PassesOwn (model (CxZ P w K mg base ["back", "other", "word", "field", "aim"] "is_for" (defScope s_is_for) f cdv A outer s H E).prog (CxZ P w K mg base ["back", "other", "word", "field", "aim"] "is_for" (defScope s_is_for) f cdv A outer s H E).w) (CxZ P w K mg base ["back", "other", "word", "field", "aim"] "is_for" (defScope s_is_for) f cdv A outer s H E).A (CxZ P w K mg base ["back", "other", "word", "field", "aim"] "is_for" (defScope s_is_for) f cdv A outer s H E).env (CxZ P w K mg base ["back", "other", "word", "field", "aim"] "is_for" (defScope s_is_for) f cdv A outer s H E).xe := passes_of rfl
  exact (sss_cons (ss_asg (se_var (pv 0)) (sg_tup rfl (sgs_cons (sg_name (pg_name (i := 2) sc.nd rfl (by first | exact .inl rfl | exact .inr rfl))) (sgs_cons (sg_name (pg_name (i := 3) sc.nd rfl (by first | exact .inl rfl | exact .inr rfl))) (sgs_cons (sg_name (pg_name (i := 4) sc.nd rfl (by first | exact .inl rfl | exact .inr rfl))) sgs_nil)))))
    (sss_one (ss_ret (se_if (st_eq (room_u64 hr) (se_var (pv 4)) (se_var (pv 3))) (se_not (se_callD (ok_goer T) bi_goer (hr.mono (by decide)) hG tk (by rfl) (sa_cons (se_var (pv 1)) sa_nil))) (se_eq (room_u64 hr) (se_var (pv 1)) (se_tup (sa_cons se_str (sa_cons (se_var (pv 4)) sa_nil))))))))
theorem ok_lpick (T : Txt K mg) : DefZ P w K mg base 2 "_law_pick" s_lpick ["deck", "items"] d_lpick := by
  refine defZ T.f_lpick sc_lpick (by decide) fun f cdv A outer s H E hr hG => ?_
  have sc := sc_lpick
  have tk : Takes (CxZ P w K mg base ["deck", "items"] "_law_pick" (defScope s_lpick) f cdv A outer s H E) (fun c d _ H' => E c d H') := takes_of rfl rfl rfl rfl
  have hp : PassesOwn (model (CxZ P w K mg base ["deck", "items"] "_law_pick" (defScope s_lpick) f cdv A outer s H E).prog (CxZ P w K mg base ["deck", "items"] "_law_pick" (defScope s_lpick) f cdv A outer s H E).w) (CxZ P w K mg base ["deck", "items"] "_law_pick" (defScope s_lpick) f cdv A outer s H E).A (CxZ P w K mg base ["deck", "items"] "_law_pick" (defScope s_lpick) f cdv A outer s H E).env (CxZ P w K mg base ["deck", "items"] "_law_pick" (defScope s_lpick) f cdv A outer s H E).xe := passes_of rfl
  exact (sss_one (ss_ret (se_ixX (room_u65 hr) (se_var (pv 1)) (se_callD (ok_ldraw T) bi_ldraw (hr.mono (by decide)) hG tk (by rfl) (sa_cons (se_var (pv 0)) (sa_cons (se_callB call_len cz_len (by rfl) T.z_len bb_len (sa_cons (se_var (pv 1)) sa_nil)) sa_nil))))))
theorem ok_lmixed (T : Txt K mg) : DefZ P w K mg base 2 "_law_mixed" s_lmixed ["deck", "items"] d_lmixed := by
  refine defZ T.f_lmixed sc_lmixed (by decide) fun f cdv A outer s H E hr hG => ?_
  have sc := sc_lmixed
  have tk : Takes (CxZ P w K mg base ["deck", "items", "rest", "got"] "_law_mixed" (defScope s_lmixed) f cdv A outer s H E) (fun c d _ H' => E c d H') := takes_of rfl rfl rfl rfl
  have hp : PassesOwn (model (CxZ P w K mg base ["deck", "items", "rest", "got"] "_law_mixed" (defScope s_lmixed) f cdv A outer s H E).prog (CxZ P w K mg base ["deck", "items", "rest", "got"] "_law_mixed" (defScope s_lmixed) f cdv A outer s H E).w) (CxZ P w K mg base ["deck", "items", "rest", "got"] "_law_mixed" (defScope s_lmixed) f cdv A outer s H E).A (CxZ P w K mg base ["deck", "items", "rest", "got"] "_law_mixed" (defScope s_lmixed) f cdv A outer s H E).env (CxZ P w K mg base ["deck", "items", "rest", "got"] "_law_mixed" (defScope s_lmixed) f cdv A outer s H E).xe := passes_of rfl
  exact (sss_cons (ss_par (ps_par (i := 2) (j := 3) rfl sc.nd rfl rfl (by decide) rfl rfl (SA.pa (sa_cons (se_callTy call_list_of cz_listN (by rfl) T.z_list bb_list (sa_cons (se_var (pv 1)) sa_nil)) (sa_cons (se_new sa_nil) sa_nil))) (by rfl)))
    (sss_cons (ss_while hp (st_ne (room_u64 hr) (se_var (pv 2)) (se_lst sa_nil)) (sss_one (ss_expr (se_meth PySem.F.plainAttrs_list PySem.F.slot_list_append PySem.F.type_list_append mt_append mz_append (se_var (pv 3)) (sa_cons (se_meth PySem.F.plainAttrs_list PySem.F.slot_list_pop PySem.F.type_list_pop (MtR.or mt_pop mt_popAt) mz_pop (se_var (pv 2)) (sa_cons (se_callD (ok_ldraw T) bi_ldraw (hr.mono (by decide)) hG tk (by rfl) (sa_cons (se_var (pv 0)) (sa_cons (se_callB call_len cz_len (by rfl) T.z_len bb_len (sa_cons (se_var (pv 2)) sa_nil)) sa_nil))) sa_nil)) sa_nil)))))
    (sss_one (ss_gh 3 (ss_ret (se_var (pv 3)))))))
theorem ok_lchart (T : Txt K mg) : DefZ P w K mg base 2 "_law_chart" s_lchart ["deck", "many", "more"] d_lchart := by
  refine defZ T.f_lchart sc_lchart (by decide) fun f cdv A outer s H E hr hG => ?_
  have sc := sc_lchart
  have tk : Takes (CxZ P w K mg base ["deck", "many", "more", "roads", "b", "turn", "centres", "a", "field"] "_law_chart" (defScope s_lchart) f cdv A outer s H E) (fun c d _ H' => E c d H') := takes_of rfl rfl rfl rfl
  have hp : PassesOwn (model (CxZ P w K mg base ["deck", "many", "more", "roads", "b", "turn", "centres", "a", "field"] "_law_chart" (defScope s_lchart) f cdv A outer s H E).prog (CxZ P w K mg base ["deck", "many", "more", "roads", "b", "turn", "centres", "a", "field"] "_law_chart" (defScope s_lchart) f cdv A outer s H E).w) (CxZ P w K mg base ["deck", "many", "more", "roads", "b", "turn", "centres", "a", "field"] "_law_chart" (defScope s_lchart) f cdv A outer s H E).A (CxZ P w K mg base ["deck", "many", "more", "roads", "b", "turn", "centres", "a", "field"] "_law_chart" (defScope s_lchart) f cdv A outer s H E).env (CxZ P w K mg base ["deck", "many", "more", "roads", "b", "turn", "centres", "a", "field"] "_law_chart" (defScope s_lchart) f cdv A outer s H E).xe := passes_of rfl
  exact (sss_cons (ss_set (i := 3) sc.nd rfl (by first | exact .inl rfl | exact .inr rfl) (se_new sa_nil))
    (sss_cons (ss_for hp rfl (si_range2E (by rfl) T.z_range (sa_cons se_int (sa_cons (se_var (pv 1)) sa_nil))) (sg_name (pg_name (i := 4) sc.nd rfl (by first | exact .inl rfl | exact .inr rfl))) (sss_one (ss_if (st_gt (se_callD (ok_ldraw T) bi_ldraw (hr.mono (by decide)) hG tk (by rfl) (sa_cons (se_var (pv 0)) (sa_cons se_int sa_nil))) se_int) (sss_one (ss_expr (se_meth PySem.F.plainAttrs_list PySem.F.slot_list_append PySem.F.type_list_append mt_append mz_append (se_var (pv 3)) (sa_cons (se_tup (sa_cons (se_callB (call_max2 rfl) cz_i2 (by rfl) T.z_max bb_max (sa_cons se_int (sa_cons (se_sub (se_sub (se_var (pv 4)) se_int) (se_callD (ok_ldraw T) bi_ldraw (hr.mono (by decide)) hG tk (by rfl) (sa_cons (se_var (pv 0)) (sa_cons se_int sa_nil)))) sa_nil))) (sa_cons (se_var (pv 4)) sa_nil))) sa_nil)))) sss_nil)))
    (sss_cons (ss_for hp rfl (si_range1E (by rfl) T.z_range (sa_cons (se_var (pv 2)) sa_nil)) (sg_name (pg_name (i := 5) sc.nd rfl (by first | exact .inl rfl | exact .inr rfl))) (sss_cons (ss_par (ps_par (i := 7) (j := 4) rfl sc.nd rfl rfl (by decide) rfl rfl (SA.pa (sa_cons (se_callD (ok_ldraw T) bi_ldraw (hr.mono (by decide)) hG tk (by rfl) (sa_cons (se_var (pv 0)) (sa_cons (se_var (pv 1)) sa_nil))) (sa_cons (se_callD (ok_ldraw T) bi_ldraw (hr.mono (by decide)) hG tk (by rfl) (sa_cons (se_var (pv 0)) (sa_cons (se_var (pv 1)) sa_nil))) sa_nil))) (by rfl)))
    (sss_one (ss_if (SW.st (sw_and (st_lt (se_var (pv 7)) (se_var (pv 4))) (sw_and1 (st_notInX (room_u65 hr) (se_tup (sa_cons (se_var (pv 7)) (sa_cons (se_var (pv 4)) sa_nil))) (se_var (pv 3)))))) (sss_one (ss_expr (se_meth PySem.F.plainAttrs_list PySem.F.slot_list_append PySem.F.type_list_append mt_append mz_append (se_var (pv 3)) (sa_cons (se_tup (sa_cons (se_var (pv 7)) (sa_cons (se_var (pv 4)) sa_nil))) sa_nil)))) sss_nil))))
    (sss_cons (ss_setLc (i := 6) (own := [("field", 8)]) (.inl rfl) rfl sc.nd rfl rfl (sw_true rfl rfl rfl (by decide +kernel)) (si_range1E (by rfl) T.z_range (sa_cons (se_var (pv 1)) sa_nil)) (blkOk_by (N := ["deck", "many", "more", "roads", "b", "turn", "centres", "a", "field"]) (sc := defScope s_lchart) (own := [("field", 8)]) (by decide +kernel)) (fun _ _ _ _ _ => (sgo_name (by decide) (pg_name (i := 8) sc.nd rfl (by first | exact .inl rfl | exact .inr rfl)))) (fun _ _ _ _ _ => (sts_one (st_eq (room_u64 hr) (se_callD (ok_ldraw T) bi_ldraw (hr.mono (by decide)) hG takes0 (by rfl) (sa_cons (se_var (pv 0)) (sa_cons se_int sa_nil))) se_int))) (fun _ _ _ _ _ => (se_var (pv 8))))
    (sss_one (ss_ret (se_tup (sa_cons (se_var (pv 1)) (sa_cons (se_callTy call_tuple_of cz_tuple (by rfl) T.z_tuple bb_tuple (sa_cons (se_callB (CallR.or (CallR.or cr_sortedI cr_sortedPO) cr_sortT3) cz_sortX (by rfl) T.z_sorted bb_sorted (sa_cons (se_var (pv 3)) sa_nil)) sa_nil)) (sa_cons (se_callTy call_tuple_of cz_tuple (by rfl) T.z_tuple bb_tuple (sa_cons (se_var (pv 6)) sa_nil)) sa_nil))))))))))
theorem ok_lorders_of (T : Txt K mg) : DefZ P w K mg base 2 "_law_orders_of" s_lorders_of ["board", "place"] d_lorders_of := by
  refine defZ T.f_lorders_of sc_lorders_of (by decide) fun f cdv A outer s H E hr hG => ?_
  have sc := sc_lorders_of
  have tk : Takes (CxZ P w K mg base ["board", "place", "chart", "pieces", "own", "fields", "reach", "gos", "backs", "field", "goal", "player"] "_law_orders_of" (defScope s_lorders_of) f cdv A outer s H E) (fun c d _ H' => E c d H') := takes_of rfl rfl rfl rfl
  have hp : PassesOwn (model (CxZ P w K mg base ["board", "place", "chart", "pieces", "own", "fields", "reach", "gos", "backs", "field", "goal", "player"] "_law_orders_of" (defScope s_lorders_of) f cdv A outer s H E).prog (CxZ P w K mg base ["board", "place", "chart", "pieces", "own", "fields", "reach", "gos", "backs", "field", "goal", "player"] "_law_orders_of" (defScope s_lorders_of) f cdv A outer s H E).w) (CxZ P w K mg base ["board", "place", "chart", "pieces", "own", "fields", "reach", "gos", "backs", "field", "goal", "player"] "_law_orders_of" (defScope s_lorders_of) f cdv A outer s H E).A (CxZ P w K mg base ["board", "place", "chart", "pieces", "own", "fields", "reach", "gos", "backs", "field", "goal", "player"] "_law_orders_of" (defScope s_lorders_of) f cdv A outer s H E).env (CxZ P w K mg base ["board", "place", "chart", "pieces", "own", "fields", "reach", "gos", "backs", "field", "goal", "player"] "_law_orders_of" (defScope s_lorders_of) f cdv A outer s H E).xe := passes_of rfl
  exact (sss_cons (ss_asg (se_var (pv 0)) (sg_tup rfl (sgs_cons (sg_name (pg_name (i := 2) sc.nd rfl (by first | exact .inl rfl | exact .inr rfl))) (sgs_cons (sg_name (pg_name (i := 3) sc.nd rfl (by first | exact .inl rfl | exact .inr rfl))) sgs_nil))))
    (sss_cons (ss_par (ps_par (i := 4) (j := 5) rfl sc.nd rfl rfl (by decide) rfl rfl (SA.pa (sa_cons (se_ixX (room_u65 hr) (se_ixX (room_u65 hr) (se_var (pv 3)) (se_var (pv 1))) se_int) (sa_cons (se_lc (own := [("field", 9), ("player", 11)]) (.inl rfl) rfl sc.nd (si_seqE (se_var (pv 3))) (blkOk_by (N := ["board", "place", "chart", "pieces", "own", "fields", "reach", "gos", "backs", "field", "goal", "player"]) (sc := defScope s_lorders_of) (own := [("field", 9), ("player", 11)]) (by decide +kernel)) (fun _ _ _ _ _ => (sgo_tup rfl (sgos_cons (sgo_name (by decide) (pg_name (i := 9) sc.nd rfl (by first | exact .inl rfl | exact .inr rfl))) (sgos_cons (sgo_name (by decide) (pg_name (i := 11) sc.nd rfl (by first | exact .inl rfl | exact .inr rfl))) sgos_nil)))) (fun _ _ _ _ _ => sts_nil) (fun _ _ _ _ _ => (se_var (pv 9)))) sa_nil))) (by rfl)))
    (sss_cons (ss_set (i := 6) sc.nd rfl (by first | exact .inl rfl | exact .inr rfl) (se_callD (ok_lbeside T) bi_lbeside (hr.mono (by decide)) hG tk (by rfl) (sa_cons (se_var (pv 2)) (sa_cons (se_var (pv 4)) sa_nil))))
    (sss_cons (ss_par (ps_par (i := 7) (j := 8) rfl sc.nd rfl rfl (by decide) rfl rfl (SA.pa (sa_cons (se_lc (own := [("field", 9)]) (.inl rfl) rfl sc.nd (si_seqE (se_var (pv 6))) (blkOk_by (N := ["board", "place", "chart", "pieces", "own", "fields", "reach", "gos", "backs", "field", "goal", "player"]) (sc := defScope s_lorders_of) (own := [("field", 9)]) (by decide +kernel)) (fun _ _ _ _ _ => (sgo_name (by decide) (pg_name (i := 9) sc.nd rfl (by first | exact .inl rfl | exact .inr rfl)))) (fun _ _ _ _ _ => sts_nil) (fun _ _ _ _ _ => (se_tup (sa_cons se_str (sa_cons (se_var (pv 9)) sa_nil))))) (sa_cons (se_new sa_nil) sa_nil))) (by rfl)))
    (sss_cons (ss_for hp rfl (si_seqE (se_var (pv 5))) (sg_name (pg_name (i := 9) sc.nd rfl (by first | exact .inl rfl | exact .inr rfl))) (sss_one (ss_if (st_ne (room_u64 hr) (se_var (pv 9)) (se_var (pv 4))) (sss_one (ss_for hp rfl (si_seqE (se_var (pv 6))) (sg_name (pg_name (i := 10) sc.nd rfl (by first | exact .inl rfl | exact .inr rfl))) (sss_one (ss_if (SW.st (sw_or (st_eq (room_u64 hr) (se_var (pv 10)) (se_var (pv 9))) (sw_or1 (st_inX (room_u65 hr) (se_var (pv 10)) (se_callD (ok_lbeside T) bi_lbeside (hr.mono (by decide)) hG tk (by rfl) (sa_cons (se_var (pv 2)) (sa_cons (se_var (pv 9)) sa_nil))))))) (sss_one (ss_expr (se_meth PySem.F.plainAttrs_list PySem.F.slot_list_append PySem.F.type_list_append mt_append mz_append (se_var (pv 8)) (sa_cons (se_tup (sa_cons se_str (sa_cons (se_var (pv 9)) (sa_cons (se_var (pv 10)) sa_nil)))) sa_nil)))) sss_nil)))) sss_nil)))
    (sss_one (ss_ret (se_add (se_add (se_lst (sa_cons (se_tup (sa_cons se_str sa_nil)) sa_nil)) (se_var (pv 7))) (se_callB (CallR.or (CallR.or cr_sortedI cr_sortedPO) cr_sortT3) cz_sortX (by rfl) T.z_sorted bb_sorted (sa_cons (se_var (pv 8)) sa_nil))))))))))
theorem ok_fits (T : Txt K mg) : DefZ P w K mg base 3 "fits" s_fits ["board", "orders", "place"] d_fits := by
  refine defZ T.f_fits sc_fits (by decide) fun f cdv A outer s H E hr hG => ?_
  have sc := sc_fits
  have tk : Takes (CxZ P w K mg base ["board", "orders", "place"] "fits" (defScope s_fits) f cdv A outer s H E) (fun c d _ H' => E c d H') := takes_of rfl rfl rfl rfl
  have hp : PassesOwn (model (CxZ P w K mg base ["board", "orders", "place"] "fits" (defScope s_fits) f cdv A outer s H E).prog (CxZ P w K mg base ["board", "orders", "place"] "fits" (defScope s_fits) f cdv A outer s H E).w) (CxZ P w K mg base ["board", "orders", "place"] "fits" (defScope s_fits) f cdv A outer s H E).A (CxZ P w K mg base ["board", "orders", "place"] "fits" (defScope s_fits) f cdv A outer s H E).env (CxZ P w K mg base ["board", "orders", "place"] "fits" (defScope s_fits) f cdv A outer s H E).xe := passes_of rfl
  exact (sss_one (ss_ret (se_callD (ok_is_for T) bi_is_for (hr.mono (by decide)) hG tk (by rfl) (sa_cons (se_ixX (room_u65 hr) (se_var (pv 1)) (se_var (pv 2))) (sa_cons (se_ixX (room_u65 hr) (se_var (pv 1)) (se_callD (ok_place_in T) bi_place_in (hr.mono (by decide)) hG tk (by rfl) (sa_cons (se_var (pv 0)) (sa_cons (se_ixX (room_u65 hr) (se_ixX (room_u65 hr) (se_var (pv 1)) (se_var (pv 2))) se_int) sa_nil)))) sa_nil)))))
theorem ok_lpieces (T : Txt K mg) : DefZ P w K mg base 3 "_law_pieces" s_lpieces ["deck", "chart", "many"] d_lpieces := by
  refine defZ T.f_lpieces sc_lpieces (by decide) fun f cdv A outer s H E hr hG => ?_
  have sc := sc_lpieces
  have tk : Takes (CxZ P w K mg base ["deck", "chart", "many", "players", "fields", "field"] "_law_pieces" (defScope s_lpieces) f cdv A outer s H E) (fun c d _ H' => E c d H') := takes_of rfl rfl rfl rfl
  have hp : PassesOwn (model (CxZ P w K mg base ["deck", "chart", "many", "players", "fields", "field"] "_law_pieces" (defScope s_lpieces) f cdv A outer s H E).prog (CxZ P w K mg base ["deck", "chart", "many", "players", "fields", "field"] "_law_pieces" (defScope s_lpieces) f cdv A outer s H E).w) (CxZ P w K mg base ["deck", "chart", "many", "players", "fields", "field"] "_law_pieces" (defScope s_lpieces) f cdv A outer s H E).A (CxZ P w K mg base ["deck", "chart", "many", "players", "fields", "field"] "_law_pieces" (defScope s_lpieces) f cdv A outer s H E).env (CxZ P w K mg base ["deck", "chart", "many", "players", "fields", "field"] "_law_pieces" (defScope s_lpieces) f cdv A outer s H E).xe := passes_of rfl
  exact (sss_cons (ss_set (i := 3) sc.nd rfl (by first | exact .inl rfl | exact .inr rfl) (se_slice (se_callD (ok_lmixed T) bi_lmixed (hr.mono (by decide)) hG tk (by rfl) (sa_cons (se_var (pv 0)) (sa_cons (se_lr1 rfl (by rfl) T.z_list (by rfl) T.z_range se_int) sa_nil))) so_none (so_some (se_add se_int (se_callD (ok_ldraw T) bi_ldraw (hr.mono (by decide)) hG tk (by rfl) (sa_cons (se_var (pv 0)) (sa_cons se_int sa_nil)))))))
    (sss_cons (ss_set (i := 4) sc.nd rfl (by first | exact .inl rfl | exact .inr rfl) (se_callB (CallR.or (CallR.or cr_sortedI cr_sortedPO) cr_sortT3) cz_sortX (by rfl) T.z_sorted bb_sorted (sa_cons (se_slice (se_callD (ok_lmixed T) bi_lmixed (hr.mono (by decide)) hG tk (by rfl) (sa_cons (se_var (pv 0)) (sa_cons (se_lr1 rfl (by rfl) T.z_list (by rfl) T.z_range (se_ixX (room_u65 hr) (se_var (pv 1)) se_int)) sa_nil))) so_none (so_some (se_var (pv 2)))) sa_nil)))
    (sss_one (ss_ret (se_callTy call_tuple_of cz_tuple (by rfl) T.z_tuple bb_tuple (sa_cons (se_lc (own := [("field", 5)]) (.inl rfl) rfl sc.nd (si_seqE (se_var (pv 4))) (blkOk_by (N := ["deck", "chart", "many", "players", "fields", "field"]) (sc := defScope s_lpieces) (own := [("field", 5)]) (by decide +kernel)) (fun _ _ _ _ _ => (sgo_name (by decide) (pg_name (i := 5) sc.nd rfl (by first | exact .inl rfl | exact .inr rfl)))) (fun _ _ _ _ _ => sts_nil) (fun _ _ _ _ _ => (se_tup (sa_cons (se_var (pv 5)) (sa_cons (se_callD (ok_lpick T) bi_lpick (hr.mono (by decide)) hG takes0 (by rfl) (sa_cons (se_var (pv 0)) (sa_cons (se_var (pv 3)) sa_nil))) sa_nil))))) sa_nil))))))
theorem ok_lgos (T : Txt K mg) : DefZ P w K mg base 3 "_law_gos" s_lgos ["deck", "board"] d_lgos := by
  refine defZ T.f_lgos sc_lgos (by decide) fun f cdv A outer s H E hr hG => ?_
  have sc := sc_lgos
  have tk : Takes (CxZ P w K mg base ["deck", "board", "chart", "pieces", "fields", "gos", "fights", "field", "player", "reach", "one", "goal", "a", "taken", "b", "c", "foe"] "_law_gos" (defScope s_lgos) f cdv A outer s H E) (fun c d _ H' => E c d H') := takes_of rfl rfl rfl rfl
  have hp : PassesOwn (model (CxZ P w K mg base ["deck", "board", "chart", "pieces", "fields", "gos", "fights", "field", "player", "reach", "one", "goal", "a", "taken", "b", "c", "foe"] "_law_gos" (defScope s_lgos) f cdv A outer s H E).prog (CxZ P w K mg base ["deck", "board", "chart", "pieces", "fields", "gos", "fights", "field", "player", "reach", "one", "goal", "a", "taken", "b", "c", "foe"] "_law_gos" (defScope s_lgos) f cdv A outer s H E).w) (CxZ P w K mg base ["deck", "board", "chart", "pieces", "fields", "gos", "fights", "field", "player", "reach", "one", "goal", "a", "taken", "b", "c", "foe"] "_law_gos" (defScope s_lgos) f cdv A outer s H E).A (CxZ P w K mg base ["deck", "board", "chart", "pieces", "fields", "gos", "fights", "field", "player", "reach", "one", "goal", "a", "taken", "b", "c", "foe"] "_law_gos" (defScope s_lgos) f cdv A outer s H E).env (CxZ P w K mg base ["deck", "board", "chart", "pieces", "fields", "gos", "fights", "field", "player", "reach", "one", "goal", "a", "taken", "b", "c", "foe"] "_law_gos" (defScope s_lgos) f cdv A outer s H E).xe := passes_of rfl
  exact (sss_cons (ss_asg (se_var (pv 1)) (sg_tup rfl (sgs_cons (sg_name (pg_name (i := 2) sc.nd rfl (by first | exact .inl rfl | exact .inr rfl))) (sgs_cons (sg_name (pg_name (i := 3) sc.nd rfl (by first | exact .inl rfl | exact .inr rfl))) sgs_nil))))
    (sss_cons (ss_tup rfl (sa_cons (se_lc (own := [("field", 7), ("player", 8)]) (.inl rfl) rfl sc.nd (si_seqE (se_var (pv 3))) (blkOk_by (N := ["deck", "board", "chart", "pieces", "fields", "gos", "fights", "field", "player", "reach", "one", "goal", "a", "taken", "b", "c", "foe"]) (sc := defScope s_lgos) (own := [("field", 7), ("player", 8)]) (by decide +kernel)) (fun _ _ _ _ _ => (sgo_tup rfl (sgos_cons (sgo_name (by decide) (pg_name (i := 7) sc.nd rfl (by first | exact .inl rfl | exact .inr rfl))) (sgos_cons (sgo_name (by decide) (pg_name (i := 8) sc.nd rfl (by first | exact .inl rfl | exact .inr rfl))) sgos_nil)))) (fun _ _ _ _ _ => sts_nil) (fun _ _ _ _ _ => (se_var (pv 7)))) (sa_cons se_dctN (sa_cons (se_lst sa_nil) sa_nil))) (sgs_cons (sg_name (pg_name (i := 4) sc.nd rfl (by first | exact .inl rfl | exact .inr rfl))) (sgs_cons (sg_name (pg_name (i := 5) sc.nd rfl (by first | exact .inl rfl | exact .inr rfl))) (sgs_cons (sg_name (pg_name (i := 6) sc.nd rfl (by first | exact .inl rfl | exact .inr rfl))) sgs_nil))))
    (sss_cons (ss_for hp rfl (si_seqE (se_var (pv 3))) (sg_tup rfl (sgs_cons (sg_name (pg_name (i := 7) sc.nd rfl (by first | exact .inl rfl | exact .inr rfl))) (sgs_cons (sg_name (pg_name (i := 8) sc.nd rfl (by first | exact .inl rfl | exact .inr rfl))) sgs_nil))) (sss_cons (ss_set (i := 9) sc.nd rfl (by first | exact .inl rfl | exact .inr rfl) (se_callD (ok_lbeside T) bi_lbeside (hr.mono (by decide)) hG tk (by rfl) (sa_cons (se_var (pv 2)) (sa_cons (se_var (pv 7)) sa_nil))))
    (sss_one (ss_set (i := 6) sc.nd rfl (by first | exact .inl rfl | exact .inr rfl) (se_add (se_var (pv 6)) (se_lc (own := [("goal", 11), ("foe", 16)]) (.inl rfl) rfl sc.nd (si_seqE (se_var (pv 3))) (blkOk_by (N := ["deck", "board", "chart", "pieces", "fields", "gos", "fights", "field", "player", "reach", "one", "goal", "a", "taken", "b", "c", "foe"]) (sc := defScope s_lgos) (own := [("goal", 11), ("foe", 16)]) (by decide +kernel)) (fun _ _ _ _ _ => (sgo_tup rfl (sgos_cons (sgo_name (by decide) (pg_name (i := 11) sc.nd rfl (by first | exact .inl rfl | exact .inr rfl))) (sgos_cons (sgo_name (by decide) (pg_name (i := 16) sc.nd rfl (by first | exact .inl rfl | exact .inr rfl))) sgos_nil)))) (fun _ _ _ _ _ => (sts_one (SW.st (sw_and (st_ne (room_u64 hr) (se_var (pv 16)) (se_var (pv 8))) (sw_and1 (st_inX (room_u65 hr) (se_var (pv 11)) (se_var (pv 9)))))))) (fun _ _ _ _ _ => (se_tup (sa_cons (se_var (pv 7)) (sa_cons (se_var (pv 11)) sa_nil))))))))))
    (sss_cons (ss_if (SW.st (sw_and (st_ne (room_u64 hr) (se_var (pv 6)) (se_lst sa_nil)) (sw_and1 (st_eq (room_u64 hr) (se_callD (ok_ldraw T) bi_ldraw (hr.mono (by decide)) hG tk (by rfl) (sa_cons (se_var (pv 0)) (sa_cons se_int sa_nil))) se_int)))) (sss_cons (ss_asg (se_callD (ok_lpick T) bi_lpick (hr.mono (by decide)) hG tk (by rfl) (sa_cons (se_var (pv 0)) (sa_cons (se_var (pv 6)) sa_nil))) (sg_tup rfl (sgs_cons (sg_name (pg_name (i := 10) sc.nd rfl (by first | exact .inl rfl | exact .inr rfl))) (sgs_cons (sg_name (pg_name (i := 11) sc.nd rfl (by first | exact .inl rfl | exact .inr rfl))) sgs_nil))))
    (sss_one (ss_ret (se_disp1 (se_var (pv 10)) (se_var (pv 11)))))) sss_nil)
    (sss_cons (ss_for hp rfl (si_seqE (se_var (pv 4))) (sg_name (pg_name (i := 7) sc.nd rfl (by first | exact .inl rfl | exact .inr rfl))) (sss_cons (ss_set (i := 9) sc.nd rfl (by first | exact .inl rfl | exact .inr rfl) (se_callD (ok_lbeside T) bi_lbeside (hr.mono (by decide)) hG tk (by rfl) (sa_cons (se_var (pv 2)) (sa_cons (se_var (pv 7)) sa_nil))))
    (sss_one (ss_if (SW.st (sw_and (st_ne (room_u64 hr) (se_var (pv 9)) (se_lst sa_nil)) (sw_and1 (st_lt (se_callD (ok_ldraw T) bi_ldraw (hr.mono (by decide)) hG tk (by rfl) (sa_cons (se_var (pv 0)) (sa_cons se_int sa_nil))) se_int)))) (sss_cons (ss_setLc (i := 13) (own := [("goal", 11)]) (.inl rfl) rfl sc.nd rfl rfl (sw_true rfl rfl rfl (by decide +kernel)) (si_seqE (se_var (pv 9))) (blkOk_by (N := ["deck", "board", "chart", "pieces", "fields", "gos", "fights", "field", "player", "reach", "one", "goal", "a", "taken", "b", "c", "foe"]) (sc := defScope s_lgos) (own := [("goal", 11)]) (by decide +kernel)) (fun _ _ _ _ _ => (sgo_name (by decide) (pg_name (i := 11) sc.nd rfl (by first | exact .inl rfl | exact .inr rfl)))) (fun _ _ _ _ _ => (sts_one (st_inX (room_u65 hr) (se_var (pv 11)) (se_var (pv 4))))) (fun _ _ _ _ _ => (se_var (pv 11))))
    (sss_one (ss_asg (se_callD (ok_lpick T) bi_lpick (hr.mono (by decide)) hG tk (by rfl) (sa_cons (se_var (pv 0)) (sa_cons (se_if (SW.st (sw_and (st_ne (room_u64 hr) (se_var (pv 13)) (se_lst sa_nil)) (sw_and1 (st_gt (se_callD (ok_ldraw T) bi_ldraw (hr.mono (by decide)) hG tk (by rfl) (sa_cons (se_var (pv 0)) (sa_cons se_int sa_nil))) se_int)))) (se_var (pv 13)) (se_var (pv 9))) sa_nil))) (sg_sub (fun _ => (se_var (pv 5))) (fun _ => (se_var (pv 7))) (set_X (room_u65 hr)) sz_X)))) sss_nil))))
    (sss_cons (ss_if (st_eq (room_u64 hr) (se_callD (ok_ldraw T) bi_ldraw (hr.mono (by decide)) hG tk (by rfl) (sa_cons (se_var (pv 0)) (sa_cons se_int sa_nil))) se_int) (sss_one (ss_for hp rfl (si_seqE (se_var (pv 4))) (sg_name (pg_name (i := 12) sc.nd rfl (by first | exact .inl rfl | exact .inr rfl))) (sss_one (ss_for hp rfl (si_seqE (se_lc (own := [("field", 7)]) (.inl rfl) rfl sc.nd (si_seqE (se_callD (ok_lbeside T) bi_lbeside (hr.mono (by decide)) hG tk (by rfl) (sa_cons (se_var (pv 2)) (sa_cons (se_var (pv 12)) sa_nil)))) (blkOk_by (N := ["deck", "board", "chart", "pieces", "fields", "gos", "fights", "field", "player", "reach", "one", "goal", "a", "taken", "b", "c", "foe"]) (sc := defScope s_lgos) (own := [("field", 7)]) (by decide +kernel)) (fun _ _ _ _ _ => (sgo_name (by decide) (pg_name (i := 7) sc.nd rfl (by first | exact .inl rfl | exact .inr rfl)))) (fun _ _ _ _ _ => (sts_one (st_inX (room_u65 hr) (se_var (pv 7)) (se_var (pv 4))))) (fun _ _ _ _ _ => (se_var (pv 7))))) (sg_name (pg_name (i := 14) sc.nd rfl (by first | exact .inl rfl | exact .inr rfl))) (sss_one (ss_for hp rfl (si_seqE (se_lc (own := [("field", 7)]) (.inl rfl) rfl sc.nd (si_seqE (se_callD (ok_lbeside T) bi_lbeside (hr.mono (by decide)) hG tk (by rfl) (sa_cons (se_var (pv 2)) (sa_cons (se_var (pv 14)) sa_nil)))) (blkOk_by (N := ["deck", "board", "chart", "pieces", "fields", "gos", "fights", "field", "player", "reach", "one", "goal", "a", "taken", "b", "c", "foe"]) (sc := defScope s_lgos) (own := [("field", 7)]) (by decide +kernel)) (fun _ _ _ _ _ => (sgo_name (by decide) (pg_name (i := 7) sc.nd rfl (by first | exact .inl rfl | exact .inr rfl)))) (fun _ _ _ _ _ => (sts_one (st_inX (room_u65 hr) (se_var (pv 7)) (se_callD (ok_lbeside T) bi_lbeside (hr.mono (by decide)) hG takes0 (by rfl) (sa_cons (se_var (pv 2)) (sa_cons (se_var (pv 12)) sa_nil)))))) (fun _ _ _ _ _ => (se_var (pv 7))))) (sg_name (pg_name (i := 15) sc.nd rfl (by first | exact .inl rfl | exact .inr rfl))) (sss_one (ss_if (st_inX (room_u65 hr) (se_var (pv 15)) (se_var (pv 4))) (sss_cons (ss_tup rfl (sa_cons (se_var (pv 14)) (sa_cons (se_var (pv 15)) (sa_cons (se_var (pv 12)) sa_nil))) (sgs_cons (sg_sub (fun _ => (se_var (pv 5))) (fun _ => (se_var (pv 12))) (set_X (room_u65 hr)) sz_X) (sgs_cons (sg_sub (fun _ => (se_var (pv 5))) (fun _ => (se_var (pv 14))) (set_X (room_u65 hr)) sz_X) (sgs_cons (sg_sub (fun _ => (se_var (pv 5))) (fun _ => (se_var (pv 15))) (set_X (room_u65 hr)) sz_X) sgs_nil))))
    (sss_one (ss_gh 5 (ss_ret (se_var (pv 5)))))) sss_nil)))))))) sss_nil)
    (sss_one (ss_gh 5 (ss_ret (se_var (pv 5)))))))))))
theorem ok_lorders (T : Txt K mg) : DefZ P w K mg base 4 "_law_orders" s_lorders ["deck", "board"] d_lorders := by
  refine defZ T.f_lorders sc_lorders (by decide) fun f cdv A outer s H E hr hG => ?_
  have sc := sc_lorders
  have tk : Takes (CxZ P w K mg base ["deck", "board", "chart", "pieces", "gos", "told", "place", "field", "player", "menu", "good", "way", "order"] "_law_orders" (defScope s_lorders) f cdv A outer s H E) (fun c d _ H' => E c d H') := takes_of rfl rfl rfl rfl
  have hp : PassesOwn (model (CxZ P w K mg base ["deck", "board", "chart", "pieces", "gos", "told", "place", "field", "player", "menu", "good", "way", "order"] "_law_orders" (defScope s_lorders) f cdv A outer s H E).prog (CxZ P w K mg base ["deck", "board", "chart", "pieces", "gos", "told", "place", "field", "player", "menu", "good", "way", "order"] "_law_orders" (defScope s_lorders) f cdv A outer s H E).w) (CxZ P w K mg base ["deck", "board", "chart", "pieces", "gos", "told", "place", "field", "player", "menu", "good", "way", "order"] "_law_orders" (defScope s_lorders) f cdv A outer s H E).A (CxZ P w K mg base ["deck", "board", "chart", "pieces", "gos", "told", "place", "field", "player", "menu", "good", "way", "order"] "_law_orders" (defScope s_lorders) f cdv A outer s H E).env (CxZ P w K mg base ["deck", "board", "chart", "pieces", "gos", "told", "place", "field", "player", "menu", "good", "way", "order"] "_law_orders" (defScope s_lorders) f cdv A outer s H E).xe := passes_of rfl
  exact (sss_cons (ss_asg (se_var (pv 1)) (sg_tup rfl (sgs_cons (sg_name (pg_name (i := 2) sc.nd rfl (by first | exact .inl rfl | exact .inr rfl))) (sgs_cons (sg_name (pg_name (i := 3) sc.nd rfl (by first | exact .inl rfl | exact .inr rfl))) sgs_nil))))
    (sss_cons (ss_tup rfl (sa_cons (se_callD (ok_lgos T) bi_lgos (hr.mono (by decide)) hG tk (by rfl) (sa_cons (se_var (pv 0)) (sa_cons (se_var (pv 1)) sa_nil))) (sa_cons (se_new sa_nil) sa_nil)) (sgs_cons (sg_name (pg_name (i := 4) sc.nd rfl (by first | exact .inl rfl | exact .inr rfl))) (sgs_cons (sg_name (pg_name (i := 5) sc.nd rfl (by first | exact .inl rfl | exact .inr rfl))) sgs_nil)))
    (sss_cons (ss_for hp rfl (si_enumE (by rfl) T.z_enumerate (sa_cons (se_var (pv 3)) sa_nil)) (sg_tup rfl (sgs_cons (sg_name (pg_name (i := 6) sc.nd rfl (by first | exact .inl rfl | exact .inr rfl))) (sgs_cons (sg_tup rfl (sgs_cons (sg_name (pg_name (i := 7) sc.nd rfl (by first | exact .inl rfl | exact .inr rfl))) (sgs_cons (sg_name (pg_name (i := 8) sc.nd rfl (by first | exact .inl rfl | exact .inr rfl))) sgs_nil))) sgs_nil))) (sss_cons (ss_if (st_inX (room_u65 hr) (se_var (pv 7)) (se_var (pv 4))) (sss_cons (ss_expr (se_meth PySem.F.plainAttrs_list PySem.F.slot_list_append PySem.F.type_list_append mt_append mz_append (se_var (pv 5)) (sa_cons (se_tup (sa_cons se_str (sa_cons (se_ixX (room_u65 hr) (se_var (pv 4)) (se_var (pv 7))) sa_nil))) sa_nil)))
    (sss_one ss_continue)) sss_nil)
    (sss_cons (ss_set (i := 9) sc.nd rfl (by first | exact .inl rfl | exact .inr rfl) (se_callD (ok_lorders_of T) bi_lorders_of (hr.mono (by decide)) hG tk (by rfl) (sa_cons (se_var (pv 1)) (sa_cons (se_var (pv 6)) sa_nil))))
    (sss_cons (ss_setLc (i := 10) (own := [("order", 12)]) (.inl rfl) rfl sc.nd rfl rfl (sw_true rfl rfl rfl (by decide +kernel)) (si_seqE (se_var (pv 9))) (blkOk_by (N := ["deck", "board", "chart", "pieces", "gos", "told", "place", "field", "player", "menu", "good", "way", "order"]) (sc := defScope s_lorders) (own := [("order", 12)]) (by decide +kernel)) (fun _ _ _ _ _ => (sgo_name (by decide) (pg_name (i := 12) sc.nd rfl (by first | exact .inl rfl | exact .inr rfl)))) (fun _ _ _ _ _ => (sts_one (SW.st (sw_and (st_eq (room_u64 hr) (se_ixX (room_u65 hr) (se_var (pv 12)) se_int) se_str) (sw_and1 (st_eq (room_u64 hr) (se_get2 (room_u65 hr) (se_var (pv 4)) (se_ixX (room_u65 hr) (se_var (pv 12)) se_int) (se_neg se_int)) (se_ixX (room_u65 hr) (se_var (pv 12)) se_int))))))) (fun _ _ _ _ _ => (se_var (pv 12))))
    (sss_cons (ss_set (i := 10) sc.nd rfl (by first | exact .inl rfl | exact .inr rfl) (se_if (st_ne (room_u64 hr) (se_var (pv 10)) (se_lst sa_nil)) (se_var (pv 10)) (se_lc (own := [("order", 12)]) (.inl rfl) rfl sc.nd (si_seqE (se_var (pv 9))) (blkOk_by (N := ["deck", "board", "chart", "pieces", "gos", "told", "place", "field", "player", "menu", "good", "way", "order"]) (sc := defScope s_lorders) (own := [("order", 12)]) (by decide +kernel)) (fun _ _ _ _ _ => (sgo_name (by decide) (pg_name (i := 12) sc.nd rfl (by first | exact .inl rfl | exact .inr rfl)))) (fun _ _ _ _ _ => (sts_one (SW.st (sw_and (st_eq (room_u64 hr) (se_ixX (room_u65 hr) (se_var (pv 12)) se_int) se_str) (sw_and1 (st_eq (room_u64 hr) (se_ixX (room_u65 hr) (se_var (pv 12)) se_int) (se_ixX (room_u65 hr) (se_var (pv 12)) se_int))))))) (fun _ _ _ _ _ => (se_var (pv 12))))))
    (sss_cons (ss_set (i := 11) sc.nd rfl (by first | exact .inl rfl | exact .inr rfl) (se_callD (ok_ldraw T) bi_ldraw (hr.mono (by decide)) hG tk (by rfl) (sa_cons (se_var (pv 0)) (sa_cons se_int sa_nil))))
    (sss_cons (ss_set (i := 9) sc.nd rfl (by first | exact .inl rfl | exact .inr rfl) (se_if (SW.st (sw_and (st_ne (room_u64 hr) (se_var (pv 10)) (se_lst sa_nil)) (sw_and1 (st_lt (se_var (pv 11)) se_int)))) (se_var (pv 10)) (se_if (st_eq (room_u64 hr) (se_var (pv 11)) se_int) (se_var (pv 9)) (se_slice (se_var (pv 9)) so_none (so_some se_int)))))
    (sss_one (ss_expr (se_meth PySem.F.plainAttrs_list PySem.F.slot_list_append PySem.F.type_list_append mt_append mz_append (se_var (pv 5)) (sa_cons (se_callD (ok_lpick T) bi_lpick (hr.mono (by decide)) hG tk (by rfl) (sa_cons (se_var (pv 0)) (sa_cons (se_var (pv 9)) sa_nil))) sa_nil)))))))))))
    (sss_one (ss_ret (se_callTy call_tuple_of cz_tuple (by rfl) T.z_tuple bb_tuple (sa_cons (se_var (pv 5)) sa_nil)))))))
theorem ok_lboard (T : Txt K mg) : DefZ P w K mg base 4 "_law_board" s_lboard ["deck", "fields", "many"] d_lboard := by
  refine defZ T.f_lboard sc_lboard (by decide) fun f cdv A outer s H E hr hG => ?_
  have sc := sc_lboard
  have tk : Takes (CxZ P w K mg base ["deck", "fields", "many", "chart"] "_law_board" (defScope s_lboard) f cdv A outer s H E) (fun c d _ H' => E c d H') := takes_of rfl rfl rfl rfl
  have hp : PassesOwn (model (CxZ P w K mg base ["deck", "fields", "many", "chart"] "_law_board" (defScope s_lboard) f cdv A outer s H E).prog (CxZ P w K mg base ["deck", "fields", "many", "chart"] "_law_board" (defScope s_lboard) f cdv A outer s H E).w) (CxZ P w K mg base ["deck", "fields", "many", "chart"] "_law_board" (defScope s_lboard) f cdv A outer s H E).A (CxZ P w K mg base ["deck", "fields", "many", "chart"] "_law_board" (defScope s_lboard) f cdv A outer s H E).env (CxZ P w K mg base ["deck", "fields", "many", "chart"] "_law_board" (defScope s_lboard) f cdv A outer s H E).xe := passes_of rfl
  exact (sss_cons (ss_set (i := 3) sc.nd rfl (by first | exact .inl rfl | exact .inr rfl) (se_callD (ok_lchart T) bi_lchart (hr.mono (by decide)) hG tk (by rfl) (sa_cons (se_var (pv 0)) (sa_cons (se_var (pv 1)) (sa_cons (se_add se_int (se_callD (ok_ldraw T) bi_ldraw (hr.mono (by decide)) hG tk (by rfl) (sa_cons (se_var (pv 0)) (sa_cons se_int sa_nil)))) sa_nil)))))
    (sss_one (ss_ret (se_tup (sa_cons (se_var (pv 3)) (sa_cons (se_callD (ok_lpieces T) bi_lpieces (hr.mono (by decide)) hG tk (by rfl) (sa_cons (se_var (pv 0)) (sa_cons (se_var (pv 3)) (sa_cons (se_var (pv 2)) sa_nil)))) sa_nil))))))
theorem ok_law (T : Txt K mg) : DefZ P w K mg base 5 "law" s_law ["script"] d_law := by
  refine defZ T.f_law sc_law (by decide) fun f cdv A outer s H E hr hG => ?_
  have sc := sc_law
  have tk : Takes (CxZ P w K mg base ["script", "deck", "turn", "board", "orders", "tried", "spot", "order", "value", "kept", "place", "due", "told"] "law" (defScope s_law) f cdv A outer s H E) (fun c d _ H' => E c d H') := takes_of rfl rfl rfl rfl
  have hp : PassesOwn (model (CxZ P w K mg base ["script", "deck", "turn", "board", "orders", "tried", "spot", "order", "value", "kept", "place", "due", "told"] "law" (defScope s_law) f cdv A outer s H E).prog (CxZ P w K mg base ["script", "deck", "turn", "board", "orders", "tried", "spot", "order", "value", "kept", "place", "due", "told"] "law" (defScope s_law) f cdv A outer s H E).w) (CxZ P w K mg base ["script", "deck", "turn", "board", "orders", "tried", "spot", "order", "value", "kept", "place", "due", "told"] "law" (defScope s_law) f cdv A outer s H E).A (CxZ P w K mg base ["script", "deck", "turn", "board", "orders", "tried", "spot", "order", "value", "kept", "place", "due", "told"] "law" (defScope s_law) f cdv A outer s H E).env (CxZ P w K mg base ["script", "deck", "turn", "board", "orders", "tried", "spot", "order", "value", "kept", "place", "due", "told"] "law" (defScope s_law) f cdv A outer s H E).xe := passes_of rfl
  exact (sss_cons (ss_set (i := 1) sc.nd rfl (by first | exact .inl rfl | exact .inr rfl) (se_callD (ok_ldeck T) bi_ldeck (hr.mono (by decide)) hG tk (by rfl) (sa_cons (se_var (pv 0)) sa_nil)))
    (sss_cons (ss_for hp rfl (si_range1E (by rfl) T.z_range (sa_cons se_int sa_nil)) (sg_name (pg_name (i := 2) sc.nd rfl (by first | exact .inl rfl | exact .inr rfl))) (sss_cons (ss_set (i := 3) sc.nd rfl (by first | exact .inl rfl | exact .inr rfl) (se_callD (ok_lboard T) bi_lboard (hr.mono (by decide)) hG tk (by rfl) (sa_cons (se_var (pv 1)) (sa_cons (se_add se_int (se_callD (ok_ldraw T) bi_ldraw (hr.mono (by decide)) hG tk (by rfl) (sa_cons (se_var (pv 1)) (sa_cons se_int sa_nil)))) (sa_cons (se_add se_int (se_callD (ok_ldraw T) bi_ldraw (hr.mono (by decide)) hG tk (by rfl) (sa_cons (se_var (pv 1)) (sa_cons se_int sa_nil)))) sa_nil)))))
    (sss_cons (ss_set (i := 4) sc.nd rfl (by first | exact .inl rfl | exact .inr rfl) (se_callD (ok_lorders T) bi_lorders (hr.mono (by decide)) hG tk (by rfl) (sa_cons (se_var (pv 1)) (sa_cons (se_var (pv 3)) sa_nil))))
    (sss_cons (ss_par (ps_par (i := 5) (j := 6) rfl sc.nd rfl rfl (by decide) rfl rfl (SA.pa (sa_cons (se_new (sa_cons (se_var (pv 4)) sa_nil)) (sa_cons (se_callD (ok_ldraw T) bi_ldraw (hr.mono (by decide)) hG tk (by rfl) (sa_cons (se_var (pv 1)) (sa_cons (se_callB call_len cz_len (by rfl) T.z_len bb_len (sa_cons (se_var (pv 4)) sa_nil)) sa_nil))) sa_nil))) (by rfl)))
    (sss_cons (ss_for hp rfl (si_seqE (se_callD (ok_lorders_of T) bi_lorders_of (hr.mono (by decide)) hG tk (by rfl) (sa_cons (se_var (pv 3)) (sa_cons (se_var (pv 6)) sa_nil)))) (sg_name (pg_name (i := 7) sc.nd rfl (by first | exact .inl rfl | exact .inr rfl))) (sss_one (ss_if (st_eq (room_u64 hr) (se_ixX (room_u65 hr) (se_var (pv 7)) se_int) se_str) (sss_one (ss_expr (se_meth PySem.F.plainAttrs_list PySem.F.slot_list_append PySem.F.type_list_append mt_append mz_append (se_var (pv 5)) (sa_cons (se_add (se_add (se_slice (se_var (pv 4)) so_none (so_some (se_var (pv 6)))) (se_tup (sa_cons (se_var (pv 7)) sa_nil))) (se_slice (se_var (pv 4)) (so_some (se_add (se_var (pv 6)) se_int)) so_none)) sa_nil)))) sss_nil)))
    (sss_one (ss_gh 5 (ss_for hp rfl (si_seqE (se_var (pv 5))) (sg_name (pg_name (i := 8) sc.nd rfl (by first | exact .inl rfl | exact .inr rfl))) (sss_cons (ss_set (i := 9) sc.nd rfl (by first | exact .inl rfl | exact .inr rfl) (se_callB (call_reprZ hG (room_u70 hr)) cz_repr (by rfl) T.z_repr bb_repr (sa_cons (se_lst (sa_cons (se_var (pv 3)) (sa_cons (se_var (pv 8)) sa_nil))) sa_nil)))
    (sss_cons (ss_for hp rfl (si_enumE (by rfl) T.z_enumerate (sa_cons (se_var (pv 8)) sa_nil)) (sg_tup rfl (sgs_cons (sg_name (pg_name (i := 10) sc.nd rfl (by first | exact .inl rfl | exact .inr rfl))) (sgs_cons (sg_name (pg_name (i := 7) sc.nd rfl (by first | exact .inl rfl | exact .inr rfl))) sgs_nil))) (sss_one (ss_if (SW.st (sw_and (st_eq (room_u64 hr) (se_ixX (room_u65 hr) (se_var (pv 7)) se_int) se_str) (sw_and1 (SW.st (sw_or (st_eq (room_u64 hr) (se_var (pv 8)) (se_var (pv 4))) (sw_or1 (st_eq (room_u64 hr) (se_var (pv 10)) (se_var (pv 6))))))))) (sss_cons (ss_set (i := 11) sc.nd rfl (by first | exact .inl rfl | exact .inr rfl) (se_callB (call_reprZ hG (room_u70 hr)) cz_repr (by rfl) T.z_repr bb_repr (sa_cons (se_callD (ok_lback_fits T) bi_lback_fits (hr.mono (by decide)) hG tk (by rfl) (sa_cons (se_var (pv 3)) (sa_cons (se_var (pv 8)) (sa_cons (se_var (pv 10)) sa_nil)))) sa_nil)))
    (sss_cons (ss_set (i := 12) sc.nd rfl (by first | exact .inl rfl | exact .inr rfl) (se_if (st_eq (room_u64 hr) (se_mod (se_var (pv 10)) se_int) se_int) (se_callDK0 (ok_fits T) kb_fits_0 (hr.mono (by decide)) hG tk (by rfl) (sk_cons (se_var (pv 10)) (sk_cons (se_var (pv 8)) (sk_cons (se_var (pv 3)) sk_nil)))) (se_callD (ok_fits T) bi_fits (hr.mono (by decide)) hG tk (by rfl) (sa_cons (se_var (pv 3)) (sa_cons (se_var (pv 8)) (sa_cons (se_var (pv 10)) sa_nil))))))
    (sss_one (ss_if (SW.st (sw_or (st_ne (room_u64 hr) (se_callB (call_reprZ hG (room_u70 hr)) cz_repr (by rfl) T.z_repr bb_repr (sa_cons (se_var (pv 12)) sa_nil)) (se_var (pv 11))) (sw_or1 (st_ne (room_u64 hr) (se_callB (call_reprZ hG (room_u70 hr)) cz_repr (by rfl) T.z_repr bb_repr (sa_cons (se_callD (ok_fits T) bi_fits (hr.mono (by decide)) hG tk (by rfl) (sa_cons (se_var (pv 3)) (sa_cons (se_var (pv 8)) (sa_cons (se_var (pv 10)) sa_nil)))) sa_nil)) (se_var (pv 11)))))) (sss_one (ss_ret se_bl)) sss_nil)))) sss_nil)))
    (sss_one (ss_if (st_ne (room_u64 hr) (se_callB (call_reprZ hG (room_u70 hr)) cz_repr (by rfl) T.z_repr bb_repr (sa_cons (se_lst (sa_cons (se_var (pv 3)) (sa_cons (se_var (pv 8)) sa_nil))) sa_nil)) (se_var (pv 9))) (sss_one (ss_ret se_bl)) sss_nil))))))))))))
    (sss_one (ss_ret se_bl))))
end
end Zl
namespace Zl
open PySem PySem.Spec PyProof.Rows L2 Zm
open WM (pu bd)
open LO (lf)
/-! ### the deck is laid -/
def natV (y : Val) : Prop := ∃ x, y = .d x ∧ ∃ i : Int, x = .int i ∧ 0 ≤ i
theorem deck_ok {ns : List Int} (hl : ns.length ≤ 63) : ∃ q : Dk, d_ldeck [.scr ns] [] = .ok (.obj 1) (q.mem []) := by
  obtain ⟨ys, M1, e1, rfl, hR, hyl⟩ := compL_inv (g := g2_ldeck) (t := mYes) (e := e2_ldeck) (s0 := [some (.scr ns), none, none, none]) (fun M => M = []) natV ((cutL (ns.map PyData.int) none (some 63)).map .d) (by
    rintro v hv M rfl
    obtain ⟨x, hx, rfl⟩ := List.mem_map.mp hv
    obtain ⟨i, hi, rfl⟩ := List.mem_map.mp ((cutL_sub _ _ _).mem hx)
    refine ⟨_, _, rfl, _, _, rfl, ?_⟩
    rw [if_pos rfl]
    unfold e2_ldeck
    simp only [z_bok, z_bsok, z_bbad, z_bsbad, z_seqbad, z_outbad, z_asgbad, small_fmod, small_lit, fits_le, smallR_lit, z_na64, z_bif, z_bsif, z_noer, z_seqn, z_seqr, z_seqif, z_outr, z_outn, z_outif, z_C, z_op, z_T, z_tand, z_tor, z_tnot, z_and, z_or, z_not, z_if, z_nil, z_cons, z_tup, z_lst, z_new, z_allD0, z_allD1, z_map, z_sNil, z_sSeq, z_sIf, z_sDrop, z_sRet, z_sAsg, z_asg, z_asgif, z_sPar, z_gN, z_gT, z_gsNil, z_gsCons, z_obind, z_gSet, z_B, z_It, z_Enum, z_R1, z_R2, z_r1, z_r2, z_Comp, z_For, z_Yes, z_M, z_Sl, z_oN, z_oS, z_Rev, z_Neg, z_IsI, z_call, z_callK, z_chain, z_body, z_rdd, z_rds, z_int, z_vI, z_vB, z_le, z_eqi, z_nei, z_nes, z_eqs, z_vInt, z_vI2, z_isN, z_notN, z_enumt, z_enuml, z_itl, z_itt, z_its, z_ixt0, z_ixt1, z_ixt2, z_lenl, z_lent, z_tyt, z_tyl, z_tyd, z_tyi, z_tyb, z_tys, z_tyn, isT_tt, isT_lt, isT_dt, isT_it, isT_bt, isT_st, isT_nt, isT_ti, isT_li, isT_di, isT_ii, isT_bi, isT_si, isT_ni, isT_tb, isT_lb, isT_db, isT_ib, isT_bb, isT_sb, isT_nb, isT_ts, isT_ls, isT_ds, isT_is, isT_bs, isT_ss, isT_ns, z_forn, z_mulx, z_lr1, z_lr1N, okR_le, dk_get, dk_set, dk_add, dk_ll, z_rdo, z_tyo, z_app, z_ext, z_star, z_lr2, z_listN, z_sqt, z_sql, z_leno, z_frz, fzL_d, z_lens, z_sls, z_sll, z_addl, z_addt, z_na10, z_dct0, z_disp, z_disp1, z_slt, z_revt, dk_rd2, dk_ty2, dk_mem1, dk_len0, z_tupl, z_tupt, z_listt, z_listl, z_in2, slots0, mVar, wipeS, pickBy, dk_rd0, dk_rd1, dk_ix0, dk_ix1, dk_ix2, dk_ne, dk_setn, dk_ty0, dk_ty1, Option.some.injEq, List.map_cons, List.map_nil, List.length_cons, List.length_nil, List.replicate_succ, List.replicate_zero, List.cons_append, List.nil_append, List.append_nil, List.getElem?_cons_zero, List.getElem?_cons_succ, List.set_cons_zero, List.set_cons_succ, List.zip_cons_cons, List.zip_nil_left, List.foldl_cons, List.foldl_nil, List.filterMap_cons, List.filterMap_nil, Nat.reduceSub, Nat.reduceAdd, Nat.reduceLT, Nat.reduceLeDiff, Nat.zero_add, Nat.add_zero, Nat.reduceEqDiff, decide_eq_true_eq, Bool.not_eq_true, Bool.not_true, Bool.not_false, Bool.not_not, ite_true, ite_false, if_true, if_false, reduceIte, Bool.false_eq_true, and_self, and_true, true_and, Int.reduceNeg, Int.reduceLT, Int.reduceLE, Int.reduceSub, Int.reduceAdd, Int.reduceMul, Int.reducePow, Int.reduceEq, Int.reduceNe, decide_true, decide_false, decide_not, Bool.and_true, Bool.true_and, Bool.or_true, Bool.true_or, ne_eq, not_true_eq_false, not_false_eq_true, Bool.and_self, false_and, and_false, reduceCtorEq, eq_self, beq_self_eq_true, List.set_nil, List.getElem?_nil, List.length_append, List.length_map, Bool.false_and, Bool.and_false, Bool.false_or, Bool.or_false, Int.cast_ofNat_Int, Int.reduceToNat, Int.zero_add, Int.add_zero]
    by_cases h : 0 ≤ i
    · simp only [z_bok, z_bsok, z_bbad, z_bsbad, z_seqbad, z_outbad, z_asgbad, small_fmod, small_lit, fits_le, smallR_lit, z_na64, z_bif, z_bsif, z_noer, z_seqn, z_seqr, z_seqif, z_outr, z_outn, z_outif, z_C, z_op, z_T, z_tand, z_tor, z_tnot, z_and, z_or, z_not, z_if, z_nil, z_cons, z_tup, z_lst, z_new, z_allD0, z_allD1, z_map, z_sNil, z_sSeq, z_sIf, z_sDrop, z_sRet, z_sAsg, z_asg, z_asgif, z_sPar, z_gN, z_gT, z_gsNil, z_gsCons, z_obind, z_gSet, z_B, z_It, z_Enum, z_R1, z_R2, z_r1, z_r2, z_Comp, z_For, z_Yes, z_M, z_Sl, z_oN, z_oS, z_Rev, z_Neg, z_IsI, z_call, z_callK, z_chain, z_body, z_rdd, z_rds, z_int, z_vI, z_vB, z_le, z_eqi, z_nei, z_nes, z_eqs, z_vInt, z_vI2, z_isN, z_notN, z_enumt, z_enuml, z_itl, z_itt, z_its, z_ixt0, z_ixt1, z_ixt2, z_lenl, z_lent, z_tyt, z_tyl, z_tyd, z_tyi, z_tyb, z_tys, z_tyn, isT_tt, isT_lt, isT_dt, isT_it, isT_bt, isT_st, isT_nt, isT_ti, isT_li, isT_di, isT_ii, isT_bi, isT_si, isT_ni, isT_tb, isT_lb, isT_db, isT_ib, isT_bb, isT_sb, isT_nb, isT_ts, isT_ls, isT_ds, isT_is, isT_bs, isT_ss, isT_ns, z_forn, z_mulx, z_lr1, z_lr1N, okR_le, dk_get, dk_set, dk_add, dk_ll, z_rdo, z_tyo, z_app, z_ext, z_star, z_lr2, z_listN, z_sqt, z_sql, z_leno, z_frz, fzL_d, z_lens, z_sls, z_sll, z_addl, z_addt, z_na10, z_dct0, z_disp, z_disp1, z_slt, z_revt, dk_rd2, dk_ty2, dk_mem1, dk_len0, z_tupl, z_tupt, z_listt, z_listl, z_in2, slots0, mVar, wipeS, pickBy, dk_rd0, dk_rd1, dk_ix0, dk_ix1, dk_ix2, dk_ne, dk_setn, dk_ty0, dk_ty1, Option.some.injEq, List.map_cons, List.map_nil, List.length_cons, List.length_nil, List.replicate_succ, List.replicate_zero, List.cons_append, List.nil_append, List.append_nil, List.getElem?_cons_zero, List.getElem?_cons_succ, List.set_cons_zero, List.set_cons_succ, List.zip_cons_cons, List.zip_nil_left, List.foldl_cons, List.foldl_nil, List.filterMap_cons, List.filterMap_nil, Nat.reduceSub, Nat.reduceAdd, Nat.reduceLT, Nat.reduceLeDiff, Nat.zero_add, Nat.add_zero, Nat.reduceEqDiff, decide_eq_true_eq, Bool.not_eq_true, Bool.not_true, Bool.not_false, Bool.not_not, ite_true, ite_false, if_true, if_false, reduceIte, Bool.false_eq_true, and_self, and_true, true_and, Int.reduceNeg, Int.reduceLT, Int.reduceLE, Int.reduceSub, Int.reduceAdd, Int.reduceMul, Int.reducePow, Int.reduceEq, Int.reduceNe, decide_true, decide_false, decide_not, Bool.and_true, Bool.true_and, Bool.or_true, Bool.true_or, ne_eq, not_true_eq_false, not_false_eq_true, Bool.and_self, false_and, and_false, reduceCtorEq, eq_self, beq_self_eq_true, List.set_nil, List.getElem?_nil, List.length_append, List.length_map, Bool.false_and, Bool.and_false, Bool.false_or, Bool.or_false, Int.cast_ofNat_Int, Int.reduceToNat, Int.zero_add, Int.add_zero, h]
      exact ⟨_, _, rfl, rfl, _, rfl, _, rfl, by omega⟩
    · simp only [z_bok, z_bsok, z_bbad, z_bsbad, z_seqbad, z_outbad, z_asgbad, small_fmod, small_lit, fits_le, smallR_lit, z_na64, z_bif, z_bsif, z_noer, z_seqn, z_seqr, z_seqif, z_outr, z_outn, z_outif, z_C, z_op, z_T, z_tand, z_tor, z_tnot, z_and, z_or, z_not, z_if, z_nil, z_cons, z_tup, z_lst, z_new, z_allD0, z_allD1, z_map, z_sNil, z_sSeq, z_sIf, z_sDrop, z_sRet, z_sAsg, z_asg, z_asgif, z_sPar, z_gN, z_gT, z_gsNil, z_gsCons, z_obind, z_gSet, z_B, z_It, z_Enum, z_R1, z_R2, z_r1, z_r2, z_Comp, z_For, z_Yes, z_M, z_Sl, z_oN, z_oS, z_Rev, z_Neg, z_IsI, z_call, z_callK, z_chain, z_body, z_rdd, z_rds, z_int, z_vI, z_vB, z_le, z_eqi, z_nei, z_nes, z_eqs, z_vInt, z_vI2, z_isN, z_notN, z_enumt, z_enuml, z_itl, z_itt, z_its, z_ixt0, z_ixt1, z_ixt2, z_lenl, z_lent, z_tyt, z_tyl, z_tyd, z_tyi, z_tyb, z_tys, z_tyn, isT_tt, isT_lt, isT_dt, isT_it, isT_bt, isT_st, isT_nt, isT_ti, isT_li, isT_di, isT_ii, isT_bi, isT_si, isT_ni, isT_tb, isT_lb, isT_db, isT_ib, isT_bb, isT_sb, isT_nb, isT_ts, isT_ls, isT_ds, isT_is, isT_bs, isT_ss, isT_ns, z_forn, z_mulx, z_lr1, z_lr1N, okR_le, dk_get, dk_set, dk_add, dk_ll, z_rdo, z_tyo, z_app, z_ext, z_star, z_lr2, z_listN, z_sqt, z_sql, z_leno, z_frz, fzL_d, z_lens, z_sls, z_sll, z_addl, z_addt, z_na10, z_dct0, z_disp, z_disp1, z_slt, z_revt, dk_rd2, dk_ty2, dk_mem1, dk_len0, z_tupl, z_tupt, z_listt, z_listl, z_in2, slots0, mVar, wipeS, pickBy, dk_rd0, dk_rd1, dk_ix0, dk_ix1, dk_ix2, dk_ne, dk_setn, dk_ty0, dk_ty1, Option.some.injEq, List.map_cons, List.map_nil, List.length_cons, List.length_nil, List.replicate_succ, List.replicate_zero, List.cons_append, List.nil_append, List.append_nil, List.getElem?_cons_zero, List.getElem?_cons_succ, List.set_cons_zero, List.set_cons_succ, List.zip_cons_cons, List.zip_nil_left, List.foldl_cons, List.foldl_nil, List.filterMap_cons, List.filterMap_nil, Nat.reduceSub, Nat.reduceAdd, Nat.reduceLT, Nat.reduceLeDiff, Nat.zero_add, Nat.add_zero, Nat.reduceEqDiff, decide_eq_true_eq, Bool.not_eq_true, Bool.not_true, Bool.not_false, Bool.not_not, ite_true, ite_false, if_true, if_false, reduceIte, Bool.false_eq_true, and_self, and_true, true_and, Int.reduceNeg, Int.reduceLT, Int.reduceLE, Int.reduceSub, Int.reduceAdd, Int.reduceMul, Int.reducePow, Int.reduceEq, Int.reduceNe, decide_true, decide_false, decide_not, Bool.and_true, Bool.true_and, Bool.or_true, Bool.true_or, ne_eq, not_true_eq_false, not_false_eq_true, Bool.and_self, false_and, and_false, reduceCtorEq, eq_self, beq_self_eq_true, List.set_nil, List.getElem?_nil, List.length_append, List.length_map, Bool.false_and, Bool.and_false, Bool.false_or, Bool.or_false, Int.cast_ofNat_Int, Int.reduceToNat, Int.zero_add, Int.add_zero, h]
      exact ⟨_, _, rfl, rfl, _, rfl, _, rfl, by omega⟩) [] rfl
  obtain ⟨ds, rfl, hds⟩ := allD_of hR
  have hlen : ds.length ≤ 63 := by
    rw [List.length_map, List.length_map] at hyl
    have := cutL_len (ns.map PyData.int) none (some 63)
    rw [List.length_map] at this
    omega
  obtain ⟨s2, M2, e2, ⟨st, c, rfl, rfl⟩⟩ := forL_inv (g := g1_ldeck) (b := l1_ldeck) (fun s M => ∃ (st : Int) (c : Option Val), s = [some (.scr ns), some (.d (.list ds)), some (.d (.int st)), c] ∧ M = []) (ds.map .d) (by
    rintro v hv s M ⟨st, c, rfl, rfl⟩
    obtain ⟨x, hx, rfl⟩ := List.mem_map.mp hv
    obtain ⟨i, rfl, hi⟩ := hds x hx
    refine ⟨_, _, rfl, ?_⟩
    unfold l1_ldeck
    simp only [z_bok, z_bsok, z_bbad, z_bsbad, z_seqbad, z_outbad, z_asgbad, small_fmod, small_lit, fits_le, smallR_lit, z_na64, z_bif, z_bsif, z_noer, z_seqn, z_seqr, z_seqif, z_outr, z_outn, z_outif, z_C, z_op, z_T, z_tand, z_tor, z_tnot, z_and, z_or, z_not, z_if, z_nil, z_cons, z_tup, z_lst, z_new, z_allD0, z_allD1, z_map, z_sNil, z_sSeq, z_sIf, z_sDrop, z_sRet, z_sAsg, z_asg, z_asgif, z_sPar, z_gN, z_gT, z_gsNil, z_gsCons, z_obind, z_gSet, z_B, z_It, z_Enum, z_R1, z_R2, z_r1, z_r2, z_Comp, z_For, z_Yes, z_M, z_Sl, z_oN, z_oS, z_Rev, z_Neg, z_IsI, z_call, z_callK, z_chain, z_body, z_rdd, z_rds, z_int, z_vI, z_vB, z_le, z_eqi, z_nei, z_nes, z_eqs, z_vInt, z_vI2, z_isN, z_notN, z_enumt, z_enuml, z_itl, z_itt, z_its, z_ixt0, z_ixt1, z_ixt2, z_lenl, z_lent, z_tyt, z_tyl, z_tyd, z_tyi, z_tyb, z_tys, z_tyn, isT_tt, isT_lt, isT_dt, isT_it, isT_bt, isT_st, isT_nt, isT_ti, isT_li, isT_di, isT_ii, isT_bi, isT_si, isT_ni, isT_tb, isT_lb, isT_db, isT_ib, isT_bb, isT_sb, isT_nb, isT_ts, isT_ls, isT_ds, isT_is, isT_bs, isT_ss, isT_ns, z_forn, z_mulx, z_lr1, z_lr1N, okR_le, dk_get, dk_set, dk_add, dk_ll, z_rdo, z_tyo, z_app, z_ext, z_star, z_lr2, z_listN, z_sqt, z_sql, z_leno, z_frz, fzL_d, z_lens, z_sls, z_sll, z_addl, z_addt, z_na10, z_dct0, z_disp, z_disp1, z_slt, z_revt, dk_rd2, dk_ty2, dk_mem1, dk_len0, z_tupl, z_tupt, z_listt, z_listl, z_in2, slots0, mVar, wipeS, pickBy, dk_rd0, dk_rd1, dk_ix0, dk_ix1, dk_ix2, dk_ne, dk_setn, dk_ty0, dk_ty1, Option.some.injEq, List.map_cons, List.map_nil, List.length_cons, List.length_nil, List.replicate_succ, List.replicate_zero, List.cons_append, List.nil_append, List.append_nil, List.getElem?_cons_zero, List.getElem?_cons_succ, List.set_cons_zero, List.set_cons_succ, List.zip_cons_cons, List.zip_nil_left, List.foldl_cons, List.foldl_nil, List.filterMap_cons, List.filterMap_nil, Nat.reduceSub, Nat.reduceAdd, Nat.reduceLT, Nat.reduceLeDiff, Nat.zero_add, Nat.add_zero, Nat.reduceEqDiff, decide_eq_true_eq, Bool.not_eq_true, Bool.not_true, Bool.not_false, Bool.not_not, ite_true, ite_false, if_true, if_false, reduceIte, Bool.false_eq_true, and_self, and_true, true_and, Int.reduceNeg, Int.reduceLT, Int.reduceLE, Int.reduceSub, Int.reduceAdd, Int.reduceMul, Int.reducePow, Int.reduceEq, Int.reduceNe, decide_true, decide_false, decide_not, Bool.and_true, Bool.true_and, Bool.or_true, Bool.true_or, ne_eq, not_true_eq_false, not_false_eq_true, Bool.and_self, false_and, and_false, reduceCtorEq, eq_self, beq_self_eq_true, List.set_nil, List.getElem?_nil, List.length_append, List.length_map, Bool.false_and, Bool.and_false, Bool.false_or, Bool.or_false, Int.cast_ofNat_Int, Int.reduceToNat, Int.zero_add, Int.add_zero]
    exact ⟨_, _, rfl, _, _, rfl, rfl⟩) [some (.scr ns), some (.d (.list ds)), some (.d (.int (48009 + ns.length))), none] [] ⟨_, _, rfl, rfl⟩
  obtain ⟨zs, M3, e3, rfl, hR3, hzl⟩ := compL_inv (g := g0_ldeck) (t := t0_ldeck) (e := e0_ldeck) (s0 := [some (.scr ns), some (.d (.list ds)), some (.d (.int st)), none]) (fun M => M = []) natV (ds.map .d) (by
    rintro v hv M rfl
    obtain ⟨x, hx, rfl⟩ := List.mem_map.mp hv
    obtain ⟨i, rfl, hi⟩ := hds x hx
    refine ⟨_, _, rfl, ?_⟩
    unfold t0_ldeck
    simp only [z_bok, z_bsok, z_bbad, z_bsbad, z_seqbad, z_outbad, z_asgbad, small_fmod, small_lit, fits_le, smallR_lit, z_na64, z_bif, z_bsif, z_noer, z_seqn, z_seqr, z_seqif, z_outr, z_outn, z_outif, z_C, z_op, z_T, z_tand, z_tor, z_tnot, z_and, z_or, z_not, z_if, z_nil, z_cons, z_tup, z_lst, z_new, z_allD0, z_allD1, z_map, z_sNil, z_sSeq, z_sIf, z_sDrop, z_sRet, z_sAsg, z_asg, z_asgif, z_sPar, z_gN, z_gT, z_gsNil, z_gsCons, z_obind, z_gSet, z_B, z_It, z_Enum, z_R1, z_R2, z_r1, z_r2, z_Comp, z_For, z_Yes, z_M, z_Sl, z_oN, z_oS, z_Rev, z_Neg, z_IsI, z_call, z_callK, z_chain, z_body, z_rdd, z_rds, z_int, z_vI, z_vB, z_le, z_eqi, z_nei, z_nes, z_eqs, z_vInt, z_vI2, z_isN, z_notN, z_enumt, z_enuml, z_itl, z_itt, z_its, z_ixt0, z_ixt1, z_ixt2, z_lenl, z_lent, z_tyt, z_tyl, z_tyd, z_tyi, z_tyb, z_tys, z_tyn, isT_tt, isT_lt, isT_dt, isT_it, isT_bt, isT_st, isT_nt, isT_ti, isT_li, isT_di, isT_ii, isT_bi, isT_si, isT_ni, isT_tb, isT_lb, isT_db, isT_ib, isT_bb, isT_sb, isT_nb, isT_ts, isT_ls, isT_ds, isT_is, isT_bs, isT_ss, isT_ns, z_forn, z_mulx, z_lr1, z_lr1N, okR_le, dk_get, dk_set, dk_add, dk_ll, z_rdo, z_tyo, z_app, z_ext, z_star, z_lr2, z_listN, z_sqt, z_sql, z_leno, z_frz, fzL_d, z_lens, z_sls, z_sll, z_addl, z_addt, z_na10, z_dct0, z_disp, z_disp1, z_slt, z_revt, dk_rd2, dk_ty2, dk_mem1, dk_len0, z_tupl, z_tupt, z_listt, z_listl, z_in2, slots0, mVar, wipeS, pickBy, dk_rd0, dk_rd1, dk_ix0, dk_ix1, dk_ix2, dk_ne, dk_setn, dk_ty0, dk_ty1, Option.some.injEq, List.map_cons, List.map_nil, List.length_cons, List.length_nil, List.replicate_succ, List.replicate_zero, List.cons_append, List.nil_append, List.append_nil, List.getElem?_cons_zero, List.getElem?_cons_succ, List.set_cons_zero, List.set_cons_succ, List.zip_cons_cons, List.zip_nil_left, List.foldl_cons, List.foldl_nil, List.filterMap_cons, List.filterMap_nil, Nat.reduceSub, Nat.reduceAdd, Nat.reduceLT, Nat.reduceLeDiff, Nat.zero_add, Nat.add_zero, Nat.reduceEqDiff, decide_eq_true_eq, Bool.not_eq_true, Bool.not_true, Bool.not_false, Bool.not_not, ite_true, ite_false, if_true, if_false, reduceIte, Bool.false_eq_true, and_self, and_true, true_and, Int.reduceNeg, Int.reduceLT, Int.reduceLE, Int.reduceSub, Int.reduceAdd, Int.reduceMul, Int.reducePow, Int.reduceEq, Int.reduceNe, decide_true, decide_false, decide_not, Bool.and_true, Bool.true_and, Bool.or_true, Bool.true_or, ne_eq, not_true_eq_false, not_false_eq_true, Bool.and_self, false_and, and_false, reduceCtorEq, eq_self, beq_self_eq_true, List.set_nil, List.getElem?_nil, List.length_append, List.length_map, Bool.false_and, Bool.and_false, Bool.false_or, Bool.or_false, Int.cast_ofNat_Int, Int.reduceToNat, Int.zero_add, Int.add_zero]
    refine ⟨_, _, rfl, ?_⟩
    split
    · exact ⟨_, _, rfl, rfl, _, rfl, i, rfl, hi⟩
    · rfl) [] rfl
  obtain ⟨es, rfl, hes⟩ := allD_of hR3
  have hcells : ∃ cells : List Int, es = cells.map .int ∧ ∀ c ∈ cells, 0 ≤ c := by
    clear e3 hR3 hzl
    induction es with
    | nil => exact ⟨[], rfl, fun _ h => by cases h⟩
    | cons x es ih =>
      obtain ⟨i, rfl, hi⟩ := hes x (List.mem_cons_self ..)
      obtain ⟨cs, rfl, hc⟩ := ih fun y hy => hes y (List.mem_cons_of_mem _ hy)
      exact ⟨i :: cs, rfl, fun c hc' => by rcases List.mem_cons.mp hc' with rfl | h; exact hi; exact hc c h⟩
  obtain ⟨cells, rfl, hc⟩ := hcells
  refine ⟨⟨cells, st, 0, hc⟩, z_trimo ?_⟩
  rw [List.length_map, List.length_map, List.length_map] at hzl
  unfold b_ldeck
  simp only [z_bok, z_bsok, z_bbad, z_bsbad, z_seqbad, z_outbad, z_asgbad, small_fmod, small_lit, fits_le, smallR_lit, z_na64, z_bif, z_bsif, z_noer, z_seqn, z_seqr, z_seqif, z_outr, z_outn, z_outif, z_C, z_op, z_T, z_tand, z_tor, z_tnot, z_and, z_or, z_not, z_if, z_nil, z_cons, z_tup, z_lst, z_new, z_allD0, z_allD1, z_map, z_sNil, z_sSeq, z_sIf, z_sDrop, z_sRet, z_sAsg, z_asg, z_asgif, z_sPar, z_gN, z_gT, z_gsNil, z_gsCons, z_obind, z_gSet, z_B, z_It, z_Enum, z_R1, z_R2, z_r1, z_r2, z_Comp, z_For, z_Yes, z_M, z_Sl, z_oN, z_oS, z_Rev, z_Neg, z_IsI, z_call, z_callK, z_chain, z_body, z_rdd, z_rds, z_int, z_vI, z_vB, z_le, z_eqi, z_nei, z_nes, z_eqs, z_vInt, z_vI2, z_isN, z_notN, z_enumt, z_enuml, z_itl, z_itt, z_its, z_ixt0, z_ixt1, z_ixt2, z_lenl, z_lent, z_tyt, z_tyl, z_tyd, z_tyi, z_tyb, z_tys, z_tyn, isT_tt, isT_lt, isT_dt, isT_it, isT_bt, isT_st, isT_nt, isT_ti, isT_li, isT_di, isT_ii, isT_bi, isT_si, isT_ni, isT_tb, isT_lb, isT_db, isT_ib, isT_bb, isT_sb, isT_nb, isT_ts, isT_ls, isT_ds, isT_is, isT_bs, isT_ss, isT_ns, z_forn, z_mulx, z_lr1, z_lr1N, okR_le, dk_get, dk_set, dk_add, dk_ll, z_rdo, z_tyo, z_app, z_ext, z_star, z_lr2, z_listN, z_sqt, z_sql, z_leno, z_frz, fzL_d, z_lens, z_sls, z_sll, z_addl, z_addt, z_na10, z_dct0, z_disp, z_disp1, z_slt, z_revt, dk_rd2, dk_ty2, dk_mem1, dk_len0, z_tupl, z_tupt, z_listt, z_listl, z_in2, slots0, mVar, wipeS, pickBy, dk_rd0, dk_rd1, dk_ix0, dk_ix1, dk_ix2, dk_ne, dk_setn, dk_ty0, dk_ty1, Option.some.injEq, List.map_cons, List.map_nil, List.length_cons, List.length_nil, List.replicate_succ, List.replicate_zero, List.cons_append, List.nil_append, List.append_nil, List.getElem?_cons_zero, List.getElem?_cons_succ, List.set_cons_zero, List.set_cons_succ, List.zip_cons_cons, List.zip_nil_left, List.foldl_cons, List.foldl_nil, List.filterMap_cons, List.filterMap_nil, Nat.reduceSub, Nat.reduceAdd, Nat.reduceLT, Nat.reduceLeDiff, Nat.zero_add, Nat.add_zero, Nat.reduceEqDiff, decide_eq_true_eq, Bool.not_eq_true, Bool.not_true, Bool.not_false, Bool.not_not, ite_true, ite_false, if_true, if_false, reduceIte, Bool.false_eq_true, and_self, and_true, true_and, Int.reduceNeg, Int.reduceLT, Int.reduceLE, Int.reduceSub, Int.reduceAdd, Int.reduceMul, Int.reducePow, Int.reduceEq, Int.reduceNe, decide_true, decide_false, decide_not, Bool.and_true, Bool.true_and, Bool.or_true, Bool.true_or, ne_eq, not_true_eq_false, not_false_eq_true, Bool.and_self, false_and, and_false, reduceCtorEq, eq_self, beq_self_eq_true, List.set_nil, List.getElem?_nil, List.length_append, List.length_map, Bool.false_and, Bool.and_false, Bool.false_or, Bool.or_false, Int.cast_ofNat_Int, Int.reduceToNat, Int.zero_add, Int.add_zero, e1, z_lcK (show ds.length ≤ 16777216 by omega), e2, e3, z_lcN (M := []) (us := (cells.map PyData.int).map .d) (by rw [List.length_map, List.length_map]; omega)]
  show Out.ok (Val.obj 1) [MO.lst ((cells.map PyData.int).map Val.d), _] = _
  rw [← dmap]
  rfl
theorem draw_ok (q : Dk) (rest : Mm) {m : Int} (hm : 0 < m) (hm2 : m < 1073741824) : ∃ (r : Int) (q' : Dk), d_ldraw [.obj 1, .d (.int m)] (q.mem rest) = .ok (.d (.int r)) (q'.mem rest) ∧ 0 ≤ r ∧ r < m := by
  have hne : m ≠ 0 := by omega
  have hab : m.natAbs < 1073741824 := by omega
  have key : ∃ (x : Int) (q' : Dk), body 4 b_ldraw [.obj 1, .d (.int m)] (q.mem rest) = .ok (.d (.int (x.fmod m))) (q'.mem rest) := by
    obtain ⟨cells, st, n, hp⟩ := q
    cases cells with
    | nil =>
      unfold b_ldraw
      simp only [z_bok, z_bsok, z_bbad, z_bsbad, z_seqbad, z_outbad, z_asgbad, small_fmod, small_lit, fits_le, smallR_lit, z_na64, z_bif, z_bsif, z_noer, z_seqn, z_seqr, z_seqif, z_outr, z_outn, z_outif, z_C, z_op, z_T, z_tand, z_tor, z_tnot, z_and, z_or, z_not, z_if, z_nil, z_cons, z_tup, z_lst, z_new, z_allD0, z_allD1, z_map, z_sNil, z_sSeq, z_sIf, z_sDrop, z_sRet, z_sAsg, z_asg, z_asgif, z_sPar, z_gN, z_gT, z_gsNil, z_gsCons, z_obind, z_gSet, z_B, z_It, z_Enum, z_R1, z_R2, z_r1, z_r2, z_Comp, z_For, z_Yes, z_M, z_Sl, z_oN, z_oS, z_Rev, z_Neg, z_IsI, z_call, z_callK, z_chain, z_body, z_rdd, z_rds, z_int, z_vI, z_vB, z_le, z_eqi, z_nei, z_nes, z_eqs, z_vInt, z_vI2, z_isN, z_notN, z_enumt, z_enuml, z_itl, z_itt, z_its, z_ixt0, z_ixt1, z_ixt2, z_lenl, z_lent, z_tyt, z_tyl, z_tyd, z_tyi, z_tyb, z_tys, z_tyn, isT_tt, isT_lt, isT_dt, isT_it, isT_bt, isT_st, isT_nt, isT_ti, isT_li, isT_di, isT_ii, isT_bi, isT_si, isT_ni, isT_tb, isT_lb, isT_db, isT_ib, isT_bb, isT_sb, isT_nb, isT_ts, isT_ls, isT_ds, isT_is, isT_bs, isT_ss, isT_ns, z_forn, z_mulx, z_lr1, z_lr1N, okR_le, dk_get, dk_set, dk_add, dk_ll, z_rdo, z_tyo, z_app, z_ext, z_star, z_lr2, z_listN, z_sqt, z_sql, z_leno, z_frz, fzL_d, z_lens, z_sls, z_sll, z_addl, z_addt, z_na10, z_dct0, z_disp, z_disp1, z_slt, z_revt, dk_rd2, dk_ty2, dk_mem1, dk_len0, z_tupl, z_tupt, z_listt, z_listl, z_in2, slots0, mVar, wipeS, pickBy, dk_rd0, dk_rd1, dk_ix0, dk_ix1, dk_ix2, dk_ne, dk_setn, dk_ty0, dk_ty1, Option.some.injEq, List.map_cons, List.map_nil, List.length_cons, List.length_nil, List.replicate_succ, List.replicate_zero, List.cons_append, List.nil_append, List.append_nil, List.getElem?_cons_zero, List.getElem?_cons_succ, List.set_cons_zero, List.set_cons_succ, List.zip_cons_cons, List.zip_nil_left, List.foldl_cons, List.foldl_nil, List.filterMap_cons, List.filterMap_nil, Nat.reduceSub, Nat.reduceAdd, Nat.reduceLT, Nat.reduceLeDiff, Nat.zero_add, Nat.add_zero, Nat.reduceEqDiff, decide_eq_true_eq, Bool.not_eq_true, Bool.not_true, Bool.not_false, Bool.not_not, ite_true, ite_false, if_true, if_false, reduceIte, Bool.false_eq_true, and_self, and_true, true_and, Int.reduceNeg, Int.reduceLT, Int.reduceLE, Int.reduceSub, Int.reduceAdd, Int.reduceMul, Int.reducePow, Int.reduceEq, Int.reduceNe, decide_true, decide_false, decide_not, Bool.and_true, Bool.true_and, Bool.or_true, Bool.true_or, ne_eq, not_true_eq_false, not_false_eq_true, Bool.and_self, false_and, and_false, reduceCtorEq, eq_self, beq_self_eq_true, List.set_nil, List.getElem?_nil, List.length_append, List.length_map, Bool.false_and, Bool.and_false, Bool.false_or, Bool.or_false, Int.cast_ofNat_Int, Int.reduceToNat, Int.zero_add, Int.add_zero, dkX0, dkX1, dkX2, dkX_setn, hne, hab, List.isEmpty_nil]
      exact ⟨_, Dk.mk [] st (n+1) hp, rfl⟩
    | cons c cs => 
      unfold b_ldraw
      have hv : 0 ≤ c.fdiv m := Int.fdiv_nonneg (hp c (List.mem_cons_self ..)) (by omega)
      simp only [z_bok, z_bsok, z_bbad, z_bsbad, z_seqbad, z_outbad, z_asgbad, small_fmod, small_lit, fits_le, smallR_lit, z_na64, z_bif, z_bsif, z_noer, z_seqn, z_seqr, z_seqif, z_outr, z_outn, z_outif, z_C, z_op, z_T, z_tand, z_tor, z_tnot, z_and, z_or, z_not, z_if, z_nil, z_cons, z_tup, z_lst, z_new, z_allD0, z_allD1, z_map, z_sNil, z_sSeq, z_sIf, z_sDrop, z_sRet, z_sAsg, z_asg, z_asgif, z_sPar, z_gN, z_gT, z_gsNil, z_gsCons, z_obind, z_gSet, z_B, z_It, z_Enum, z_R1, z_R2, z_r1, z_r2, z_Comp, z_For, z_Yes, z_M, z_Sl, z_oN, z_oS, z_Rev, z_Neg, z_IsI, z_call, z_callK, z_chain, z_body, z_rdd, z_rds, z_int, z_vI, z_vB, z_le, z_eqi, z_nei, z_nes, z_eqs, z_vInt, z_vI2, z_isN, z_notN, z_enumt, z_enuml, z_itl, z_itt, z_its, z_ixt0, z_ixt1, z_ixt2, z_lenl, z_lent, z_tyt, z_tyl, z_tyd, z_tyi, z_tyb, z_tys, z_tyn, isT_tt, isT_lt, isT_dt, isT_it, isT_bt, isT_st, isT_nt, isT_ti, isT_li, isT_di, isT_ii, isT_bi, isT_si, isT_ni, isT_tb, isT_lb, isT_db, isT_ib, isT_bb, isT_sb, isT_nb, isT_ts, isT_ls, isT_ds, isT_is, isT_bs, isT_ss, isT_ns, z_forn, z_mulx, z_lr1, z_lr1N, okR_le, dk_get, dk_set, dk_add, dk_ll, z_rdo, z_tyo, z_app, z_ext, z_star, z_lr2, z_listN, z_sqt, z_sql, z_leno, z_frz, fzL_d, z_lens, z_sls, z_sll, z_addl, z_addt, z_na10, z_dct0, z_disp, z_disp1, z_slt, z_revt, dk_rd2, dk_ty2, dk_mem1, dk_len0, z_tupl, z_tupt, z_listt, z_listl, z_in2, slots0, mVar, wipeS, pickBy, dk_rd0, dk_rd1, dk_ix0, dk_ix1, dk_ix2, dk_ne, dk_setn, dk_ty0, dk_ty1, Option.some.injEq, List.map_cons, List.map_nil, List.length_cons, List.length_nil, List.replicate_succ, List.replicate_zero, List.cons_append, List.nil_append, List.append_nil, List.getElem?_cons_zero, List.getElem?_cons_succ, List.set_cons_zero, List.set_cons_succ, List.zip_cons_cons, List.zip_nil_left, List.foldl_cons, List.foldl_nil, List.filterMap_cons, List.filterMap_nil, Nat.reduceSub, Nat.reduceAdd, Nat.reduceLT, Nat.reduceLeDiff, Nat.zero_add, Nat.add_zero, Nat.reduceEqDiff, decide_eq_true_eq, Bool.not_eq_true, Bool.not_true, Bool.not_false, Bool.not_not, ite_true, ite_false, if_true, if_false, reduceIte, Bool.false_eq_true, and_self, and_true, true_and, Int.reduceNeg, Int.reduceLT, Int.reduceLE, Int.reduceSub, Int.reduceAdd, Int.reduceMul, Int.reducePow, Int.reduceEq, Int.reduceNe, decide_true, decide_false, decide_not, Bool.and_true, Bool.true_and, Bool.or_true, Bool.true_or, ne_eq, not_true_eq_false, not_false_eq_true, Bool.and_self, false_and, and_false, reduceCtorEq, eq_self, beq_self_eq_true, List.set_nil, List.getElem?_nil, List.length_append, List.length_map, Bool.false_and, Bool.and_false, Bool.false_or, Bool.or_false, Int.cast_ofNat_Int, Int.reduceToNat, Int.zero_add, Int.add_zero, hne, hab, dkX00 (q := Dk.mk (c :: cs) st n hp) rfl, dkX0, dkX1, dkX2, dkX_setn, List.isEmpty_cons, dkX_set0 hp hv]
      by_cases hlt : c < m
      · simp only [z_bok, z_bsok, z_bbad, z_bsbad, z_seqbad, z_outbad, z_asgbad, small_fmod, small_lit, fits_le, smallR_lit, z_na64, z_bif, z_bsif, z_noer, z_seqn, z_seqr, z_seqif, z_outr, z_outn, z_outif, z_C, z_op, z_T, z_tand, z_tor, z_tnot, z_and, z_or, z_not, z_if, z_nil, z_cons, z_tup, z_lst, z_new, z_allD0, z_allD1, z_map, z_sNil, z_sSeq, z_sIf, z_sDrop, z_sRet, z_sAsg, z_asg, z_asgif, z_sPar, z_gN, z_gT, z_gsNil, z_gsCons, z_obind, z_gSet, z_B, z_It, z_Enum, z_R1, z_R2, z_r1, z_r2, z_Comp, z_For, z_Yes, z_M, z_Sl, z_oN, z_oS, z_Rev, z_Neg, z_IsI, z_call, z_callK, z_chain, z_body, z_rdd, z_rds, z_int, z_vI, z_vB, z_le, z_eqi, z_nei, z_nes, z_eqs, z_vInt, z_vI2, z_isN, z_notN, z_enumt, z_enuml, z_itl, z_itt, z_its, z_ixt0, z_ixt1, z_ixt2, z_lenl, z_lent, z_tyt, z_tyl, z_tyd, z_tyi, z_tyb, z_tys, z_tyn, isT_tt, isT_lt, isT_dt, isT_it, isT_bt, isT_st, isT_nt, isT_ti, isT_li, isT_di, isT_ii, isT_bi, isT_si, isT_ni, isT_tb, isT_lb, isT_db, isT_ib, isT_bb, isT_sb, isT_nb, isT_ts, isT_ls, isT_ds, isT_is, isT_bs, isT_ss, isT_ns, z_forn, z_mulx, z_lr1, z_lr1N, okR_le, dk_get, dk_set, dk_add, dk_ll, z_rdo, z_tyo, z_app, z_ext, z_star, z_lr2, z_listN, z_sqt, z_sql, z_leno, z_frz, fzL_d, z_lens, z_sls, z_sll, z_addl, z_addt, z_na10, z_dct0, z_disp, z_disp1, z_slt, z_revt, dk_rd2, dk_ty2, dk_mem1, dk_len0, z_tupl, z_tupt, z_listt, z_listl, z_in2, slots0, mVar, wipeS, pickBy, dk_rd0, dk_rd1, dk_ix0, dk_ix1, dk_ix2, dk_ne, dk_setn, dk_ty0, dk_ty1, Option.some.injEq, List.map_cons, List.map_nil, List.length_cons, List.length_nil, List.replicate_succ, List.replicate_zero, List.cons_append, List.nil_append, List.append_nil, List.getElem?_cons_zero, List.getElem?_cons_succ, List.set_cons_zero, List.set_cons_succ, List.zip_cons_cons, List.zip_nil_left, List.foldl_cons, List.foldl_nil, List.filterMap_cons, List.filterMap_nil, Nat.reduceSub, Nat.reduceAdd, Nat.reduceLT, Nat.reduceLeDiff, Nat.zero_add, Nat.add_zero, Nat.reduceEqDiff, decide_eq_true_eq, Bool.not_eq_true, Bool.not_true, Bool.not_false, Bool.not_not, ite_true, ite_false, if_true, if_false, reduceIte, Bool.false_eq_true, and_self, and_true, true_and, Int.reduceNeg, Int.reduceLT, Int.reduceLE, Int.reduceSub, Int.reduceAdd, Int.reduceMul, Int.reducePow, Int.reduceEq, Int.reduceNe, decide_true, decide_false, decide_not, Bool.and_true, Bool.true_and, Bool.or_true, Bool.true_or, ne_eq, not_true_eq_false, not_false_eq_true, Bool.and_self, false_and, and_false, reduceCtorEq, eq_self, beq_self_eq_true, List.set_nil, List.getElem?_nil, List.length_append, List.length_map, Bool.false_and, Bool.and_false, Bool.false_or, Bool.or_false, Int.cast_ofNat_Int, Int.reduceToNat, Int.zero_add, Int.add_zero, dkX0, dkX1, dkX2, dkX_setn, hlt, hne, hab, dk_pop]
        exact ⟨_, Dk.mk cs st n _, rfl⟩
      · simp only [z_bok, z_bsok, z_bbad, z_bsbad, z_seqbad, z_outbad, z_asgbad, small_fmod, small_lit, fits_le, smallR_lit, z_na64, z_bif, z_bsif, z_noer, z_seqn, z_seqr, z_seqif, z_outr, z_outn, z_outif, z_C, z_op, z_T, z_tand, z_tor, z_tnot, z_and, z_or, z_not, z_if, z_nil, z_cons, z_tup, z_lst, z_new, z_allD0, z_allD1, z_map, z_sNil, z_sSeq, z_sIf, z_sDrop, z_sRet, z_sAsg, z_asg, z_asgif, z_sPar, z_gN, z_gT, z_gsNil, z_gsCons, z_obind, z_gSet, z_B, z_It, z_Enum, z_R1, z_R2, z_r1, z_r2, z_Comp, z_For, z_Yes, z_M, z_Sl, z_oN, z_oS, z_Rev, z_Neg, z_IsI, z_call, z_callK, z_chain, z_body, z_rdd, z_rds, z_int, z_vI, z_vB, z_le, z_eqi, z_nei, z_nes, z_eqs, z_vInt, z_vI2, z_isN, z_notN, z_enumt, z_enuml, z_itl, z_itt, z_its, z_ixt0, z_ixt1, z_ixt2, z_lenl, z_lent, z_tyt, z_tyl, z_tyd, z_tyi, z_tyb, z_tys, z_tyn, isT_tt, isT_lt, isT_dt, isT_it, isT_bt, isT_st, isT_nt, isT_ti, isT_li, isT_di, isT_ii, isT_bi, isT_si, isT_ni, isT_tb, isT_lb, isT_db, isT_ib, isT_bb, isT_sb, isT_nb, isT_ts, isT_ls, isT_ds, isT_is, isT_bs, isT_ss, isT_ns, z_forn, z_mulx, z_lr1, z_lr1N, okR_le, dk_get, dk_set, dk_add, dk_ll, z_rdo, z_tyo, z_app, z_ext, z_star, z_lr2, z_listN, z_sqt, z_sql, z_leno, z_frz, fzL_d, z_lens, z_sls, z_sll, z_addl, z_addt, z_na10, z_dct0, z_disp, z_disp1, z_slt, z_revt, dk_rd2, dk_ty2, dk_mem1, dk_len0, z_tupl, z_tupt, z_listt, z_listl, z_in2, slots0, mVar, wipeS, pickBy, dk_rd0, dk_rd1, dk_ix0, dk_ix1, dk_ix2, dk_ne, dk_setn, dk_ty0, dk_ty1, Option.some.injEq, List.map_cons, List.map_nil, List.length_cons, List.length_nil, List.replicate_succ, List.replicate_zero, List.cons_append, List.nil_append, List.append_nil, List.getElem?_cons_zero, List.getElem?_cons_succ, List.set_cons_zero, List.set_cons_succ, List.zip_cons_cons, List.zip_nil_left, List.foldl_cons, List.foldl_nil, List.filterMap_cons, List.filterMap_nil, Nat.reduceSub, Nat.reduceAdd, Nat.reduceLT, Nat.reduceLeDiff, Nat.zero_add, Nat.add_zero, Nat.reduceEqDiff, decide_eq_true_eq, Bool.not_eq_true, Bool.not_true, Bool.not_false, Bool.not_not, ite_true, ite_false, if_true, if_false, reduceIte, Bool.false_eq_true, and_self, and_true, true_and, Int.reduceNeg, Int.reduceLT, Int.reduceLE, Int.reduceSub, Int.reduceAdd, Int.reduceMul, Int.reducePow, Int.reduceEq, Int.reduceNe, decide_true, decide_false, decide_not, Bool.and_true, Bool.true_and, Bool.or_true, Bool.true_or, ne_eq, not_true_eq_false, not_false_eq_true, Bool.and_self, false_and, and_false, reduceCtorEq, eq_self, beq_self_eq_true, List.set_nil, List.getElem?_nil, List.length_append, List.length_map, Bool.false_and, Bool.and_false, Bool.false_or, Bool.or_false, Int.cast_ofNat_Int, Int.reduceToNat, Int.zero_add, Int.add_zero, dkX0, dkX1, dkX2, dkX_setn, hlt, hne, hab]
        exact ⟨_, Dk.mk (c.fdiv m :: cs) st n _, rfl⟩
  obtain ⟨x, q', e⟩ := key
  exact ⟨_, q', z_trim e rfl, Int.fmod_nonneg_of_pos _ hm, Int.fmod_lt_of_pos _ hm⟩
theorem pick_ok (q : Dk) (rest : Mm) {ds : List PyData} (h : 0 < ds.length) (hl : ds.length < 1073741824) : ∃ x ∈ ds, ∃ q' : Dk, d_lpick [.obj 1, .d (.list ds)] (q.mem rest) = .ok (.d x) (q'.mem rest) := by
  obtain ⟨r, q', e, h0, h1⟩ := draw_ok q rest (m := ds.length) (by omega) (by omega)
  obtain ⟨x, hx, hm⟩ := atI_in h0 h1
  refine ⟨x, hm, q', z_trim ?_ rfl⟩
  unfold b_lpick
  simp only [z_bok, z_bsok, z_bbad, z_bsbad, z_seqbad, z_outbad, z_asgbad, small_fmod, small_lit, fits_le, smallR_lit, z_na64, z_bif, z_bsif, z_noer, z_seqn, z_seqr, z_seqif, z_outr, z_outn, z_outif, z_C, z_op, z_T, z_tand, z_tor, z_tnot, z_and, z_or, z_not, z_if, z_nil, z_cons, z_tup, z_lst, z_new, z_allD0, z_allD1, z_map, z_sNil, z_sSeq, z_sIf, z_sDrop, z_sRet, z_sAsg, z_asg, z_asgif, z_sPar, z_gN, z_gT, z_gsNil, z_gsCons, z_obind, z_gSet, z_B, z_It, z_Enum, z_R1, z_R2, z_r1, z_r2, z_Comp, z_For, z_Yes, z_M, z_Sl, z_oN, z_oS, z_Rev, z_Neg, z_IsI, z_call, z_callK, z_chain, z_body, z_rdd, z_rds, z_int, z_vI, z_vB, z_le, z_eqi, z_nei, z_nes, z_eqs, z_vInt, z_vI2, z_isN, z_notN, z_enumt, z_enuml, z_itl, z_itt, z_its, z_ixt0, z_ixt1, z_ixt2, z_lenl, z_lent, z_tyt, z_tyl, z_tyd, z_tyi, z_tyb, z_tys, z_tyn, isT_tt, isT_lt, isT_dt, isT_it, isT_bt, isT_st, isT_nt, isT_ti, isT_li, isT_di, isT_ii, isT_bi, isT_si, isT_ni, isT_tb, isT_lb, isT_db, isT_ib, isT_bb, isT_sb, isT_nb, isT_ts, isT_ls, isT_ds, isT_is, isT_bs, isT_ss, isT_ns, z_forn, z_mulx, z_lr1, z_lr1N, okR_le, dk_get, dk_set, dk_add, dk_ll, z_rdo, z_tyo, z_app, z_ext, z_star, z_lr2, z_listN, z_sqt, z_sql, z_leno, z_frz, fzL_d, z_lens, z_sls, z_sll, z_addl, z_addt, z_na10, z_dct0, z_disp, z_disp1, z_slt, z_revt, dk_rd2, dk_ty2, dk_mem1, dk_len0, z_tupl, z_tupt, z_listt, z_listl, z_in2, slots0, mVar, wipeS, pickBy, dk_rd0, dk_rd1, dk_ix0, dk_ix1, dk_ix2, dk_ne, dk_setn, dk_ty0, dk_ty1, Option.some.injEq, List.map_cons, List.map_nil, List.length_cons, List.length_nil, List.replicate_succ, List.replicate_zero, List.cons_append, List.nil_append, List.append_nil, List.getElem?_cons_zero, List.getElem?_cons_succ, List.set_cons_zero, List.set_cons_succ, List.zip_cons_cons, List.zip_nil_left, List.foldl_cons, List.foldl_nil, List.filterMap_cons, List.filterMap_nil, Nat.reduceSub, Nat.reduceAdd, Nat.reduceLT, Nat.reduceLeDiff, Nat.zero_add, Nat.add_zero, Nat.reduceEqDiff, decide_eq_true_eq, Bool.not_eq_true, Bool.not_true, Bool.not_false, Bool.not_not, ite_true, ite_false, if_true, if_false, reduceIte, Bool.false_eq_true, and_self, and_true, true_and, Int.reduceNeg, Int.reduceLT, Int.reduceLE, Int.reduceSub, Int.reduceAdd, Int.reduceMul, Int.reducePow, Int.reduceEq, Int.reduceNe, decide_true, decide_false, decide_not, Bool.and_true, Bool.true_and, Bool.or_true, Bool.true_or, ne_eq, not_true_eq_false, not_false_eq_true, Bool.and_self, false_and, and_false, reduceCtorEq, eq_self, beq_self_eq_true, List.set_nil, List.getElem?_nil, List.length_append, List.length_map, Bool.false_and, Bool.and_false, Bool.false_or, Bool.or_false, Int.cast_ofNat_Int, Int.reduceToNat, Int.zero_add, Int.add_zero, e, z_ixXl hx]
theorem fd_ldraw : FnD DkD 1 d_ldraw (fun a : Int × Unit => drawD a.1) (fun a => [.int a.1]) PyData.int := fnD_draw draw_ok
theorem fd_lpick {α : Type} (e : α → PyData) : FnD DkD 1 d_lpick (fun a : List α × Unit => pickD a.1) (fun a => [eL e a.1]) e := fnD_pick pick_ok e
theorem q_lmixed {α : Type} (e : α → PyData) (R0 : Mm) (h0 : ∀ q, (DkD.m0 q ++ R0).all (MO.below (DkD.n + R0.length)) = true) (items : List α) : JS (μ := Dm) (DkD.B R0 h0) [.o 1, .v (eL e items), .n, .n] [] b_lmixed (mixP e items) (Kr _ (eL e)) := by
  unfold mixP b_lmixed
  refine js_seq (js_par (α := List α × List α × Unit) (is := [2, 3]) (sps := fun a => [.l (a.1.map e), .l (a.2.1.map e)]) (JA.cv (ja_cons (jx_listN (e := e) (x := eL e) (jo_of (jx_var (i := 1) (x := eL e) items rfl)) (fun _ => .inl rfl)) (ja_cons (JX.map (sp' := fun q => .l (List.map e q)) (jx_new (xs := fun _ => []) ja_nil) (fun _ => ([] : List α)) (fun _ => rfl)) ja_nil)) rfl) xo_ne) fun a => ?_
  refine js_seqF (Γσ := fun st : List α × List α => [.o 1, .v (eL e items), .l (st.1.map e), .l (st.2.map e)]) (y := eL e) id kt_kr (js_while (a.1, a.2.1) (fun st => jt_of (JX.cv (f' := lf (neO (eL e st.1) (eL e []))) (jx_opM (xc := PyData.bool) (fun (p q : List α) => neO (eL e p) (eL e q)) (jo_list (i := 2) (x := eL e) st.1 rfl) (JX.ro (JX.mapV (y := eL e) (jx_lst (xs := fun _ => []) ja_nil) (fun _ => ([] : List α)) (fun _ => rfl))) (fun p q r h => o2_neD _ _ r h)) rfl)) (fun _ => xo_ne) (wkm [true, true, true, true] rfl) fun st => ?_) fun st => ?_
  · refine js_go (fun z : List α × α × List α => (z.2.2, z.1)) (js_append2 (i := 3) (g := Prod.fst) st.2 (jx_pop (i := 2) (y := e) st.1 (JX.cv (f' := drawD (st.1.length : Int)) (jx_callD (fun a : Unit × Int × Unit => a.2) fd_ldraw (ja_cons (jx_obj (j := 1) (i := 0) rfl dk_nf) (ja_cons (jx_read (y := PyData.int) (fun a : List α => (a.length : Int)) (jo_list (i := 2) (x := eL e) st.1 rfl) (fun a v M r => cz_lenL a v M r)) ja_nil))) rfl) rfl) rfl (fun _ => rfl) xo_ne) fun z => wkm [true, true, true, true] rfl
  · exact js_ghL (i := 3) rfl (JS.ret (js_ret (y := eL e) (jx_fix (i := 3) (x := eL e) st.2 rfl) xo_ne))
theorem fd_lmixed {α : Type} (e : α → PyData) : FnD DkD 1 d_lmixed (fun a : List α × Unit => mixD e a.1) (fun a => [eL e a.1]) (eL e) :=
  FnD.weaken (fnD_of (f := fun a : List α × Unit => mixP e a.1) (fun a => [.o 1, .v (eL e a.1), .n, .n]) fun a R0 h0 => q_lmixed e R0 h0 a.1) fun a Q h => mix_le e a.1 Q h
end Zl
namespace Zl
open PySem PySem.Spec PyProof.Rows L2 Zm
open WM (pu bd)
open LO (lf)
noncomputable def p0_place_in (field : Int) (place : Int) (piece : (Int × Int)) : Option (Tn Unit (Option Int)) :=
  bd (pu (decide ((piece.1) = field))) fun k1 => if k1 = true then bd (pu (some place)) fun r => pu (Tn.rt r) else bd (pu ()) fun _ => pu (Tn.go ())
theorem q0_place_in (𝔅 : Bas) (field : Int) (place : Int) (piece : (Int × Int)) : JS (μ := Option) 𝔅 [.n, .v (PyData.int field), .v (PyData.int place), .v ((eP2 PyData.int PyData.int) piece)] [] l0_place_in (p0_place_in field place piece) (Ks 𝔅 (fun (st : Unit) => [.n, .v (PyData.int field), .n, .n]) (eO PyData.int)) := by
  unfold p0_place_in l0_place_in
  exact (js_if (JT.cv (f' := pu (decide ((piece.1) = field))) (jt_of (jx_op (xc := PyData.bool) (fun (p : Int) (q : Int) => decide (p = q)) (JX.ro (jx_proj (y := PyData.int) (ys := fun p : (Int × Int) => [PyData.int p.1, PyData.int p.2]) 0 (fun p : (Int × Int) => p.1) (JX.ro (jx_var (i := 3) (x := (eP2 PyData.int PyData.int)) piece rfl)) (fun _ => rfl) (fun _ => rfl))) (JX.ro (jx_var (i := 1) (x := PyData.int) field rfl)) (fun p q => o2_eqI p q))) (by first | rfl | (simp only [WM.pu_bd, WM.bd_as, lf_pu, lf_puo]; done) | (simp only [WM.pu_bd, WM.bd_as, lf_pu, lf_puo]; rfl))) xo_ne (JS.turn (js_retL (y := (eO PyData.int)) (Γσ := (fun (st : Unit) => [.n, .v (PyData.int field), .n, .n])) (JX.cv (f' := pu (some place)) (JX.mapV (y := (eO PyData.int)) (jx_var (i := 2) (x := PyData.int) place rfl) some (fun _ => rfl)) (by first | rfl | (simp only [WM.pu_bd, WM.bd_as, lf_pu, lf_puo]; done) | (simp only [WM.pu_bd, WM.bd_as, lf_pu, lf_puo]; rfl))) xo_ne)) (js_go (y := (eO PyData.int)) (Γσ := (fun (st : Unit) => [.n, .v (PyData.int field), .n, .n])) (fun _ => ()) (js_nil (Γ1 := fun _ => [.n, .v (PyData.int field), .v (PyData.int place), .v ((eP2 PyData.int PyData.int) piece)]) () .refl) (fun _ => wkm [false, true, false, false] rfl)))
noncomputable def p_place_in (board : ((Int × (List (Int × Int)) × (List Int)) × (List (Int × Int)))) (field : Int) : Option (Option Int) :=
  bd (forT (fun (st2 : Unit) (y3 : (Int × (Int × Int))) => p0_place_in field y3.1 y3.2) (enu (board.2)) ()) (fiE (fun s4 => pu ((fun _ => none) ())) fun r5 => pu (r5))
theorem q_place_in (𝔅 : Bas) (board : ((Int × (List (Int × Int)) × (List Int)) × (List (Int × Int)))) (field : Int) : JS (μ := Option) 𝔅 [.v ((eP2 (eP3 PyData.int (eT (eP2 PyData.int PyData.int)) (eT PyData.int)) (eT (eP2 PyData.int PyData.int))) board), .v (PyData.int field), .n, .n] [] b_place_in (p_place_in board field) (Kr _ (eO PyData.int)) := by
  unfold p_place_in b_place_in
  exact (js_seqF id kt_kr (JS.cv (f' := forT (fun (st2 : Unit) (y3 : (Int × (Int × Int))) => p0_place_in field y3.1 y3.2) (enu (board.2)) ()) (js_forT (enc := (eP2 PyData.int (eP2 PyData.int PyData.int))) (Γσ := (fun (st2 : Unit) => [.n, .v (PyData.int field), .n, .n])) (y := (eO PyData.int)) (fb := fun (st2 : Unit) (y3 : (Int × (Int × Int))) => p0_place_in field y3.1 y3.2) () (JI.cv (f' := pu (enu (board.2))) (ji_enu (enc := (eP2 PyData.int PyData.int)) (x := (eT (eP2 PyData.int PyData.int))) (jx_proj (y := (eT (eP2 PyData.int PyData.int))) (ys := fun p : ((Int × (List (Int × Int)) × (List Int)) × (List (Int × Int))) => [(eP3 PyData.int (eT (eP2 PyData.int PyData.int)) (eT PyData.int)) p.1, (eT (eP2 PyData.int PyData.int)) p.2]) 1 (fun p : ((Int × (List (Int × Int)) × (List Int)) × (List (Int × Int))) => p.2) (JX.ro (jx_var (i := 0) (x := (eP2 (eP3 PyData.int (eT (eP2 PyData.int PyData.int)) (eT PyData.int)) (eT (eP2 PyData.int PyData.int)))) board rfl)) (fun _ => rfl) (fun _ => rfl)) (fun _ => .inr rfl)) (by first | rfl | (simp only [WM.pu_bd, WM.bd_as, lf_pu, lf_puo]; done) | (simp only [WM.pu_bd, WM.bd_as, lf_pu, lf_puo]; rfl))) xo_ne (wkm [false, true, false, false] rfl) (fun st2 y3 => (jg_tup (jgs_cons jg_name (jgs_cons jg_name jgs_nil)))) (fun st2 y3 => q0_place_in _ field y3.1 y3.2)) (by first | rfl | (simp only [WM.pu_bd, WM.bd_as, lf_pu, lf_puo]; done) | (simp only [WM.pu_bd, WM.bd_as, lf_pu, lf_puo]; rfl))) (fun s4 => (JS.ret (js_ret (y := (eO PyData.int)) (JX.cv (f' := pu ((fun _ => none) ())) (JX.mapV (y := (eO PyData.int)) (jx_c (x := eN) ()) (fun _ => none) (fun _ => rfl)) (by first | rfl | (simp only [WM.pu_bd, WM.bd_as, lf_pu, lf_puo]; done) | (simp only [WM.pu_bd, WM.bd_as, lf_pu, lf_puo]; rfl))) xo_ne))))
theorem fp_place_in : FnP d_place_in (fun a : ((Int × (List (Int × Int)) × (List Int)) × (List (Int × Int))) × Int × Unit => p_place_in a.1 a.2.1) (fun a => [(eP2 (eP3 PyData.int (eT (eP2 PyData.int PyData.int)) (eT PyData.int)) (eT (eP2 PyData.int PyData.int))) a.1, PyData.int a.2.1]) (eO PyData.int) :=
  fnP_of (fun a => [.v ((eP2 (eP3 PyData.int (eT (eP2 PyData.int PyData.int)) (eT PyData.int)) (eT (eP2 PyData.int PyData.int))) a.1), .v (PyData.int a.2.1), .n, .n]) (fun a M hM => q_place_in _ a.1 a.2.1)
noncomputable def p_goer (order : PyData) : Option Bool :=
  bd (lf (ixD order (0 : Int))) fun x1 => lf (eqO (eD x1) (PyData.str ("go" : Str)))
theorem q_goer (𝔅 : Bas) (order : PyData) : JS (μ := Option) 𝔅 [.v (eD order)] [] b_goer (p_goer order) (Kr _ PyData.bool) := by
  unfold p_goer b_goer
  exact (JS.ret (js_ret (y := PyData.bool) (JX.cv (f' := bd (lf (ixD order (0 : Int))) fun x1 => lf (eqO (eD x1) (PyData.str ("go" : Str)))) (jx_opM (xc := PyData.bool) (fun (p : PyData) (q : Str) => eqO (eD p) (PyData.str q)) (JX.ro (jx_opM (xc := eD) (fun (p : PyData) (q : Int) => ixD p q) (JX.ro (jx_var (i := 0) (x := eD) order rfl)) (JX.ro (jx_c (x := PyData.int) (0 : Int))) (fun p q r h => o2_ixD p q r h))) (JX.ro (jx_c (x := PyData.str) ("go" : Str))) (fun p q r h => o2_eqD _ _ r h)) (by first | rfl | (simp only [WM.pu_bd, WM.bd_as, lf_pu, lf_puo]; done) | (simp only [WM.pu_bd, WM.bd_as, lf_pu, lf_puo]; rfl))) xo_ne))
theorem fp_goer : FnP d_goer (fun a : PyData × Unit => p_goer a.1) (fun a => [eD a.1]) PyData.bool :=
  fnP_of (fun a => [.v (eD a.1)]) (fun a M hM => q_goer _ a.1)
noncomputable def p_lbeside (chart : (Int × (List (Int × Int)) × (List Int))) (field : Int) : Option (List Int) :=
  bd (lf (lim ((List.filter (fun (y1 : (Int × Int)) => (mem field ((fun p : (Int × Int) => [p.1, p.2]) ((y1.1, y1.2))))) (chart.2.1)).map (fun (y1 : (Int × Int)) => ((y1.1 + y1.2) - field))))) fun x2 => pu (sortI x2)
theorem q_lbeside (𝔅 : Bas) (chart : (Int × (List (Int × Int)) × (List Int))) (field : Int) : JS (μ := Option) 𝔅 [.v ((eP3 PyData.int (eT (eP2 PyData.int PyData.int)) (eT PyData.int)) chart), .v (PyData.int field), .n, .n] [] b_lbeside (p_lbeside chart field) (Kr _ (eL PyData.int)) := by
  unfold p_lbeside b_lbeside
  exact (JS.ret (js_ret (y := (eL PyData.int)) (JX.cv (f' := bd (lf (lim ((List.filter (fun (y1 : (Int × Int)) => (mem field ((fun p : (Int × Int) => [p.1, p.2]) ((y1.1, y1.2))))) (chart.2.1)).map (fun (y1 : (Int × Int)) => ((y1.1 + y1.2) - field))))) fun x2 => pu (sortI x2)) (jx_read (y := (eL PyData.int)) (fun a : (List Int) => sortI a) (JX.ro (JX.cv (jx_comp (enc := (eP2 PyData.int PyData.int)) (y := PyData.int) (ft := fun (y1 : (Int × Int)) => pu (mem field ((fun p : (Int × Int) => [p.1, p.2]) ((y1.1, y1.2))))) (fe := fun (y1 : (Int × Int)) => pu ((y1.1 + y1.2) - field)) (ji_tup (enc := (eP2 PyData.int PyData.int)) (jx_proj (y := (eT (eP2 PyData.int PyData.int))) (ys := fun p : (Int × (List (Int × Int)) × (List Int)) => [PyData.int p.1, (eT (eP2 PyData.int PyData.int)) p.2.1, (eT PyData.int) p.2.2]) 1 (fun p : (Int × (List (Int × Int)) × (List Int)) => p.2.1) (JX.ro (jx_var (i := 0) (x := (eP3 PyData.int (eT (eP2 PyData.int PyData.int)) (eT PyData.int))) chart rfl)) (fun _ => rfl) (fun _ => rfl))) (fun y1 => (jg_tup (jgs_cons jg_name (jgs_cons jg_name jgs_nil)))) (fun y1 => (JT.cv (f' := pu (mem field ((fun p : (Int × Int) => [p.1, p.2]) ((y1.1, y1.2))))) (jt_of (jx_op (xc := PyData.bool) (fun (p : Int) (q : (List Int)) => mem p q) (JX.ro (jx_var (i := 1) (x := PyData.int) field rfl)) (JX.ro (JX.mapV (y := (eT PyData.int)) (JX.map (sp' := fun q => .v ((eP2 PyData.int PyData.int) q)) (jx_tup (xs := fun a : Int × Int × Unit => [PyData.int a.1, PyData.int a.2.1]) (ja_cons (jx_var (i := 2) (x := PyData.int) y1.1 rfl) (ja_cons (jx_var (i := 3) (x := PyData.int) y1.2 rfl) ja_nil))) (fun a : Int × Int × Unit => (a.1, a.2.1)) (fun _ => rfl)) (fun p : (Int × Int) => [p.1, p.2]) (fun _ => rfl))) (fun p q => o2_inT eqe_I (by decide) p q))) (by first | rfl | (simp only [WM.pu_bd, WM.bd_as, lf_pu, lf_puo]; done) | (simp only [WM.pu_bd, WM.bd_as, lf_pu, lf_puo]; rfl)))) (fun y1 => (JX.cv (f' := pu ((y1.1 + y1.2) - field)) (jx_op (xc := PyData.int) (fun (p : Int) (q : Int) => p - q) (JX.ro (jx_op (xc := PyData.int) (fun (p : Int) (q : Int) => p + q) (JX.ro (jx_var (i := 2) (x := PyData.int) y1.1 rfl)) (JX.ro (jx_var (i := 3) (x := PyData.int) y1.2 rfl)) (fun p q => o2_add p q))) (JX.ro (jx_var (i := 1) (x := PyData.int) field rfl)) (fun p q => o2_sub p q)) (by first | rfl | (simp only [WM.pu_bd, WM.bd_as, lf_pu, lf_puo]; done) | (simp only [WM.pu_bd, WM.bd_as, lf_pu, lf_puo]; rfl))))) (comp_pu (fun (y1 : (Int × Int)) => (mem field ((fun p : (Int × Int) => [p.1, p.2]) ((y1.1, y1.2))))) (fun (y1 : (Int × Int)) => ((y1.1 + y1.2) - field))))) (fun a v M r => cz_sortI a v M r)) (by first | rfl | (simp only [WM.pu_bd, WM.bd_as, lf_pu, lf_puo]; done) | (simp only [WM.pu_bd, WM.bd_as, lf_pu, lf_puo]; rfl))) xo_ne))
theorem fp_lbeside : FnP d_lbeside (fun a : (Int × (List (Int × Int)) × (List Int)) × Int × Unit => p_lbeside a.1 a.2.1) (fun a => [(eP3 PyData.int (eT (eP2 PyData.int PyData.int)) (eT PyData.int)) a.1, PyData.int a.2.1]) (eL PyData.int) :=
  fnP_of (fun a => [.v ((eP3 PyData.int (eT (eP2 PyData.int PyData.int)) (eT PyData.int)) a.1), .v (PyData.int a.2.1), .n, .n]) (fun a M hM => q_lbeside _ a.1 a.2.1)
noncomputable def p_lback_fits (board : ((Int × (List (Int × Int)) × (List Int)) × (List (Int × Int)))) (orders : (List PyData)) (place : Int) : Option Bool :=
  bd (bd (lf (ixO orders place)) fun x1 => lf ((toP3 some some some) x1)) fun a2 => bd (bd (bd (bd (cmpM (fun (y4 : (Int × (Int × Int))) => lf (eqO (PyData.int (y4.2.1)) (eD a2.2.1))) (fun (y4 : (Int × (Int × Int))) => pu y4.1) (enu (board.2))) fun r5 => lf (lim r5)) fun x6 => lf (ixO x6 (0 : Int))) fun x7 => lf (ixO orders x7)) fun order_3 => bd (lf (neO (eD a2.2.2) (eD a2.2.1))) fun k9 => if k9 = true then lf (eqO (eD order_3) ((eP2 PyData.str eD) ((("go" : Str), a2.2.2)))) else bd (lf (ixD order_3 (0 : Int))) fun x8 => lf (neO (eD x8) (PyData.str ("go" : Str)))
theorem q_lback_fits (𝔅 : Bas) (board : ((Int × (List (Int × Int)) × (List Int)) × (List (Int × Int)))) (orders : (List PyData)) (place : Int) : JS (μ := Option) 𝔅 [.v ((eP2 (eP3 PyData.int (eT (eP2 PyData.int PyData.int)) (eT PyData.int)) (eT (eP2 PyData.int PyData.int))) board), .v ((eT eD) orders), .v (PyData.int place), .n, .n, .n, .n, .n, .n] [] b_lback_fits (p_lback_fits board orders place) (Kr _ PyData.bool) := by
  unfold p_lback_fits b_lback_fits
  exact (js_seq (js_asgT (x := (eP3 eD eD eD)) (JX.cv (f' := bd (lf (ixO orders place)) fun x1 => lf ((toP3 some some some) x1)) (JX.down (y := (eP3 eD eD eD)) (jx_opM (xc := eD) (fun (p : (List PyData)) (q : Int) => ixO p q) (JX.ro (jx_var (i := 1) (x := (eT eD)) orders rfl)) (JX.ro (jx_var (i := 2) (x := PyData.int) place rfl)) (fun p q r h => o2_ixT p q r h)) (toP3 some some some) (dec_P3 dec_D dec_D dec_D)) (by first | rfl | (simp only [WM.pu_bd, WM.bd_as, lf_pu, lf_puo]; done) | (simp only [WM.pu_bd, WM.bd_as, lf_pu, lf_puo]; rfl))) (fun a2 => (jg_tup (jgs_cons jg_name (jgs_cons jg_name (jgs_cons jg_name jgs_nil))))) xo_ne) (fun a2 => (js_seq (js_asg (i := 6) (sp := fun q => .v (eD q)) (JX.cv (f' := bd (bd (bd (cmpM (fun (y4 : (Int × (Int × Int))) => lf (eqO (PyData.int (y4.2.1)) (eD a2.2.1))) (fun (y4 : (Int × (Int × Int))) => pu y4.1) (enu (board.2))) fun r5 => lf (lim r5)) fun x6 => lf (ixO x6 (0 : Int))) fun x7 => lf (ixO orders x7)) (jx_opM (xc := eD) (fun (p : (List PyData)) (q : Int) => ixO p q) (JX.ro (jx_var (i := 1) (x := (eT eD)) orders rfl)) (JX.ro (jx_opM (xc := PyData.int) (fun (p : (List Int)) (q : Int) => ixO p q) (JX.ro (jx_comp (enc := (eP2 PyData.int (eP2 PyData.int PyData.int))) (y := PyData.int) (ft := fun (y4 : (Int × (Int × Int))) => lf (eqO (PyData.int (y4.2.1)) (eD a2.2.1))) (fe := fun (y4 : (Int × (Int × Int))) => pu y4.1) (ji_enu (enc := (eP2 PyData.int PyData.int)) (x := (eT (eP2 PyData.int PyData.int))) (jx_proj (y := (eT (eP2 PyData.int PyData.int))) (ys := fun p : ((Int × (List (Int × Int)) × (List Int)) × (List (Int × Int))) => [(eP3 PyData.int (eT (eP2 PyData.int PyData.int)) (eT PyData.int)) p.1, (eT (eP2 PyData.int PyData.int)) p.2]) 1 (fun p : ((Int × (List (Int × Int)) × (List Int)) × (List (Int × Int))) => p.2) (JX.ro (jx_var (i := 0) (x := (eP2 (eP3 PyData.int (eT (eP2 PyData.int PyData.int)) (eT PyData.int)) (eT (eP2 PyData.int PyData.int)))) board rfl)) (fun _ => rfl) (fun _ => rfl)) (fun _ => .inr rfl)) (fun y4 => (jg_tup (jgs_cons jg_name (jgs_cons jg_name jgs_nil)))) (fun y4 => (JT.cv (f' := lf (eqO (PyData.int (y4.2.1)) (eD a2.2.1))) (jt_of (jx_opM (xc := PyData.bool) (fun (p : Int) (q : PyData) => eqO (PyData.int p) (eD q)) (JX.ro (jx_proj (y := PyData.int) (ys := fun p : (Int × Int) => [PyData.int p.1, PyData.int p.2]) 0 (fun p : (Int × Int) => p.1) (JX.ro (jx_var (i := 8) (x := (eP2 PyData.int PyData.int)) y4.2 rfl)) (fun _ => rfl) (fun _ => rfl))) (JX.ro (jx_var (i := 4) (x := eD) a2.2.1 rfl)) (fun p q r h => o2_eqD _ _ r h))) (by first | rfl | (simp only [WM.pu_bd, WM.bd_as, lf_pu, lf_puo]; done) | (simp only [WM.pu_bd, WM.bd_as, lf_pu, lf_puo]; rfl)))) (fun y4 => (JX.cv (f' := pu y4.1) (jx_var (i := 7) (x := PyData.int) y4.1 rfl) (by first | rfl | (simp only [WM.pu_bd, WM.bd_as, lf_pu, lf_puo]; done) | (simp only [WM.pu_bd, WM.bd_as, lf_pu, lf_puo]; rfl)))))) (JX.ro (jx_c (x := PyData.int) (0 : Int))) (fun p q r h => o2_ixL p q r h))) (fun p q r h => o2_ixT p q r h)) (by first | rfl | (simp only [WM.pu_bd, WM.bd_as, lf_pu, lf_puo]; done) | (simp only [WM.pu_bd, WM.bd_as, lf_pu, lf_puo]; rfl))) xo_ne) (fun order_3 => (JS.ret (js_ret (y := PyData.bool) (JX.cv (f' := bd (lf (neO (eD a2.2.2) (eD a2.2.1))) fun k9 => if k9 = true then lf (eqO (eD order_3) ((eP2 PyData.str eD) ((("go" : Str), a2.2.2)))) else bd (lf (ixD order_3 (0 : Int))) fun x8 => lf (neO (eD x8) (PyData.str ("go" : Str)))) (jx_if (jt_of (jx_opM (xc := PyData.bool) (fun (p : PyData) (q : PyData) => neO (eD p) (eD q)) (JX.ro (jx_var (i := 5) (x := eD) a2.2.2 rfl)) (JX.ro (jx_var (i := 4) (x := eD) a2.2.1 rfl)) (fun p q r h => o2_neD _ _ r h))) (JX.cv (f' := lf (eqO (eD order_3) ((eP2 PyData.str eD) ((("go" : Str), a2.2.2))))) (jx_opM (xc := PyData.bool) (fun (p : PyData) (q : (Str × PyData)) => eqO (eD p) ((eP2 PyData.str eD) q)) (JX.ro (jx_var (i := 6) (x := eD) order_3 rfl)) (JX.ro (JX.map (sp' := fun q => .v ((eP2 PyData.str eD) q)) (jx_tup (xs := fun a : Str × PyData × Unit => [PyData.str a.1, eD a.2.1]) (ja_cons (jx_c (x := PyData.str) ("go" : Str)) (ja_cons (jx_var (i := 5) (x := eD) a2.2.2 rfl) ja_nil))) (fun a : Str × PyData × Unit => (a.1, a.2.1)) (fun _ => rfl))) (fun p q r h => o2_eqD _ _ r h)) (by first | rfl | (simp only [WM.pu_bd, WM.bd_as, lf_pu, lf_puo]; done) | (simp only [WM.pu_bd, WM.bd_as, lf_pu, lf_puo]; rfl))) (JX.cv (f' := bd (lf (ixD order_3 (0 : Int))) fun x8 => lf (neO (eD x8) (PyData.str ("go" : Str)))) (jx_opM (xc := PyData.bool) (fun (p : PyData) (q : Str) => neO (eD p) (PyData.str q)) (JX.ro (jx_opM (xc := eD) (fun (p : PyData) (q : Int) => ixD p q) (JX.ro (jx_var (i := 6) (x := eD) order_3 rfl)) (JX.ro (jx_c (x := PyData.int) (0 : Int))) (fun p q r h => o2_ixD p q r h))) (JX.ro (jx_c (x := PyData.str) ("go" : Str))) (fun p q r h => o2_neD _ _ r h)) (by first | rfl | (simp only [WM.pu_bd, WM.bd_as, lf_pu, lf_puo]; done) | (simp only [WM.pu_bd, WM.bd_as, lf_pu, lf_puo]; rfl)))) (by first | rfl | (simp only [WM.pu_bd, WM.bd_as, lf_pu, lf_puo]; done) | (simp only [WM.pu_bd, WM.bd_as, lf_pu, lf_puo]; rfl))) xo_ne))))))
theorem fp_lback_fits : FnP d_lback_fits (fun a : ((Int × (List (Int × Int)) × (List Int)) × (List (Int × Int))) × (List PyData) × Int × Unit => p_lback_fits a.1 a.2.1 a.2.2.1) (fun a => [(eP2 (eP3 PyData.int (eT (eP2 PyData.int PyData.int)) (eT PyData.int)) (eT (eP2 PyData.int PyData.int))) a.1, (eT eD) a.2.1, PyData.int a.2.2.1]) PyData.bool :=
  fnP_of (fun a => [.v ((eP2 (eP3 PyData.int (eT (eP2 PyData.int PyData.int)) (eT PyData.int)) (eT (eP2 PyData.int PyData.int))) a.1), .v ((eT eD) a.2.1), .v (PyData.int a.2.2.1), .n, .n, .n, .n, .n, .n]) (fun a M hM => q_lback_fits _ a.1 a.2.1 a.2.2.1)
noncomputable def p_is_for (back : PyData) (other : PyData) : Option Bool :=
  bd (lf ((toP3 some some some) back)) fun a1 => bd (lf (eqO (eD a1.2.2) (eD a1.2.1))) fun k3 => if k3 = true then bd (lf (p_goer other)) fun x2 => pu (!x2) else lf (eqO (eD other) ((eP2 PyData.str eD) ((("go" : Str), a1.2.2))))
theorem q_is_for (𝔅 : Bas) (back : PyData) (other : PyData) : JS (μ := Option) 𝔅 [.v (eD back), .v (eD other), .n, .n, .n] [] b_is_for (p_is_for back other) (Kr _ PyData.bool) := by
  unfold p_is_for b_is_for
  exact (js_seq (js_asgT (x := (eP3 eD eD eD)) (JX.cv (f' := lf ((toP3 some some some) back)) (JX.down (y := (eP3 eD eD eD)) (jx_var (i := 0) (x := eD) back rfl) (toP3 some some some) (dec_P3 dec_D dec_D dec_D)) (by first | rfl | (simp only [WM.pu_bd, WM.bd_as, lf_pu, lf_puo]; done) | (simp only [WM.pu_bd, WM.bd_as, lf_pu, lf_puo]; rfl))) (fun a1 => (jg_tup (jgs_cons jg_name (jgs_cons jg_name (jgs_cons jg_name jgs_nil))))) xo_ne) (fun a1 => (JS.ret (js_ret (y := PyData.bool) (JX.cv (f' := bd (lf (eqO (eD a1.2.2) (eD a1.2.1))) fun k3 => if k3 = true then bd (lf (p_goer other)) fun x2 => pu (!x2) else lf (eqO (eD other) ((eP2 PyData.str eD) ((("go" : Str), a1.2.2))))) (jx_if (jt_of (jx_opM (xc := PyData.bool) (fun (p : PyData) (q : PyData) => eqO (eD p) (eD q)) (JX.ro (jx_var (i := 4) (x := eD) a1.2.2 rfl)) (JX.ro (jx_var (i := 3) (x := eD) a1.2.1 rfl)) (fun p q r h => o2_eqD _ _ r h))) (JX.cv (f' := bd (lf (p_goer other)) fun x2 => pu (!x2)) (jx_not (jx_call (fun a => a) fp_goer (ja_cons (jx_var (i := 1) (x := eD) other rfl) ja_nil))) (by first | rfl | (simp only [WM.pu_bd, WM.bd_as, lf_pu, lf_puo]; done) | (simp only [WM.pu_bd, WM.bd_as, lf_pu, lf_puo]; rfl))) (JX.cv (f' := lf (eqO (eD other) ((eP2 PyData.str eD) ((("go" : Str), a1.2.2))))) (jx_opM (xc := PyData.bool) (fun (p : PyData) (q : (Str × PyData)) => eqO (eD p) ((eP2 PyData.str eD) q)) (JX.ro (jx_var (i := 1) (x := eD) other rfl)) (JX.ro (JX.map (sp' := fun q => .v ((eP2 PyData.str eD) q)) (jx_tup (xs := fun a : Str × PyData × Unit => [PyData.str a.1, eD a.2.1]) (ja_cons (jx_c (x := PyData.str) ("go" : Str)) (ja_cons (jx_var (i := 4) (x := eD) a1.2.2 rfl) ja_nil))) (fun a : Str × PyData × Unit => (a.1, a.2.1)) (fun _ => rfl))) (fun p q r h => o2_eqD _ _ r h)) (by first | rfl | (simp only [WM.pu_bd, WM.bd_as, lf_pu, lf_puo]; done) | (simp only [WM.pu_bd, WM.bd_as, lf_pu, lf_puo]; rfl)))) (by first | rfl | (simp only [WM.pu_bd, WM.bd_as, lf_pu, lf_puo]; done) | (simp only [WM.pu_bd, WM.bd_as, lf_pu, lf_puo]; rfl))) xo_ne))))
theorem fp_is_for : FnP d_is_for (fun a : PyData × PyData × Unit => p_is_for a.1 a.2.1) (fun a => [eD a.1, eD a.2.1]) PyData.bool :=
  fnP_of (fun a => [.v (eD a.1), .v (eD a.2.1), .n, .n, .n]) (fun a M hM => q_is_for _ a.1 a.2.1)
noncomputable def p0_lchart (many : Int) (more : Int) (roads : (List (Int × Int))) (b : Int) : Dm ((List (Int × Int))) :=
  bd (bd (drawD (9 : Int)) fun x2 => pu (decide ((0 : Int) < x2))) fun k8 => if k8 = true then bd (bd (bd (bd (bd (drawD (3 : Int)) fun x4 => pu ((b - (1 : Int)) - x4)) fun x5 => pu ((if x5 > (0 : Int) then x5 else (0 : Int)))) fun x6 => pu ((x6, b))) fun x7 => lf (psh roads x7)) fun roads_3 => pu (roads_3) else bd (pu ()) fun _ => pu (roads)
theorem q0_lchart (R0 : Mm) (h0 : ∀ q, (DkD.m0 q ++ R0).all (MO.below (DkD.n + R0.length)) = true) (many : Int) (more : Int) (roads : (List (Int × Int))) (b : Int) : JS (μ := Dm) (DkD.B R0 h0) [.o 1, .v (PyData.int many), .v (PyData.int more), .l (roads.map (eP2 PyData.int PyData.int)), .v (PyData.int b), .n, .n, .n, .n] [] l2_lchart (p0_lchart many more roads b) (Kg (DkD.B R0 h0) (fun (st : ((List (Int × Int)))) => [.o 1, .v (PyData.int many), .v (PyData.int more), .l (st.map (eP2 PyData.int PyData.int)), .n, .n, .n, .n, .n])) := by
  unfold p0_lchart l2_lchart
  exact (js_if (JT.cv (f' := bd (drawD (9 : Int)) fun x2 => pu (decide ((0 : Int) < x2))) (jt_of (jx_op (xc := PyData.bool) (fun (p q : Int) => decide (q < p)) (JX.ro (jx_callD (fun a : Unit × Int × Unit => a.2) fd_ldraw (ja_cons (jx_obj (j := 1) (i := 0) rfl dk_nf) (ja_cons (jx_c (x := PyData.int) (9 : Int)) ja_nil)))) (JX.ro (jx_c (x := PyData.int) (0 : Int))) (fun p q => o2_gt p q))) (by first | rfl | (simp only [WM.pu_bd, WM.bd_as, lf_pu, lf_puo]; done) | (simp only [WM.pu_bd, WM.bd_as, lf_pu, lf_puo]; rfl))) xo_ne (js_goG (Γσ := (fun (st : ((List (Int × Int)))) => [.o 1, .v (PyData.int many), .v (PyData.int more), .l (st.map (eP2 PyData.int PyData.int)), .n, .n, .n, .n, .n])) (fun roads_3 => roads_3) (JS.cv (f' := bd (bd (bd (bd (drawD (3 : Int)) fun x4 => pu ((b - (1 : Int)) - x4)) fun x5 => pu ((if x5 > (0 : Int) then x5 else (0 : Int)))) fun x6 => pu ((x6, b))) fun x7 => lf (psh roads x7)) (js_append (i := 3) roads (JX.map (sp' := fun q => .v ((eP2 PyData.int PyData.int) q)) (jx_tup (xs := fun a : Int × Int × Unit => [PyData.int a.1, PyData.int a.2.1]) (ja_cons (jx_data (xs := fun a : Int × Int × Unit => [PyData.int a.1, PyData.int a.2.1]) (y := PyData.int) (fun a => (if a.2.1 > a.1 then a.2.1 else a.1)) (ja_cons (jx_c (x := PyData.int) (0 : Int)) (ja_cons (jx_op (xc := PyData.int) (fun (p : Int) (q : Int) => p - q) (JX.ro (jx_op (xc := PyData.int) (fun (p : Int) (q : Int) => p - q) (JX.ro (jx_var (i := 4) (x := PyData.int) b rfl)) (JX.ro (jx_c (x := PyData.int) (1 : Int))) (fun p q => o2_sub p q))) (JX.ro (jx_callD (fun a : Unit × Int × Unit => a.2) fd_ldraw (ja_cons (jx_obj (j := 1) (i := 0) rfl dk_nf) (ja_cons (jx_c (x := PyData.int) (3 : Int)) ja_nil)))) (fun p q => o2_sub p q)) ja_nil)) (fun _ _ => rfl)) (ja_cons (jx_var (i := 4) (x := PyData.int) b rfl) ja_nil))) (fun a : Int × Int × Unit => (a.1, a.2.1)) (fun _ => rfl)) rfl xo_ne) (by first | rfl | (simp only [WM.pu_bd, WM.bd_as, lf_pu, lf_puo]; done) | (simp only [WM.pu_bd, WM.bd_as, lf_pu, lf_puo]; rfl))) (fun roads_3 => wkm [true, true, true, true, false, false, false, false, false] rfl)) (js_goG (Γσ := (fun (st : ((List (Int × Int)))) => [.o 1, .v (PyData.int many), .v (PyData.int more), .l (st.map (eP2 PyData.int PyData.int)), .n, .n, .n, .n, .n])) (fun _ => roads) (js_nil (Γ1 := fun _ => [.o 1, .v (PyData.int many), .v (PyData.int more), .l (roads.map (eP2 PyData.int PyData.int)), .v (PyData.int b), .n, .n, .n, .n]) () .refl) (fun _ => wkm [true, true, true, true, false, false, false, false, false] rfl)))
noncomputable def p1_lchart (many : Int) (roads : (List (Int × Int))) (turn : Int) : Dm ((List (Int × Int))) :=
  bd (bd (drawD many) fun x14 => bd (drawD many) fun x15 => pu (x14, x15, ())) fun a13 => bd (pu ((decide (a13.1 < a13.2.1)) && (!mem ((a13.1, a13.2.1)) roads))) fun k17 => if k17 = true then bd (lf (psh roads ((a13.1, a13.2.1)))) fun roads_16 => pu (roads_16) else bd (pu ()) fun _ => pu (roads)
theorem q1_lchart (R0 : Mm) (h0 : ∀ q, (DkD.m0 q ++ R0).all (MO.below (DkD.n + R0.length)) = true) (many : Int) (roads : (List (Int × Int))) (turn : Int) : JS (μ := Dm) (DkD.B R0 h0) [.o 1, .v (PyData.int many), .n, .l (roads.map (eP2 PyData.int PyData.int)), .n, .v (PyData.int turn), .n, .n, .n] [] l1_lchart (p1_lchart many roads turn) (Kg (DkD.B R0 h0) (fun (st : ((List (Int × Int)))) => [.o 1, .v (PyData.int many), .n, .l (st.map (eP2 PyData.int PyData.int)), .n, .n, .n, .n, .n])) := by
  unfold p1_lchart l1_lchart
  exact (js_seq (js_par (α := Int × Int × Unit) (is := [7, 4]) (sps := (fun a => [.v (PyData.int a.1), .v (PyData.int a.2.1)])) (JA.cv (f' := bd (drawD many) fun x14 => bd (drawD many) fun x15 => pu (x14, x15, ())) (ja_cons (jx_callD (fun a : Unit × Int × Unit => a.2) fd_ldraw (ja_cons (jx_obj (j := 1) (i := 0) rfl dk_nf) (ja_cons (jx_var (i := 1) (x := PyData.int) many rfl) ja_nil))) (ja_cons (jx_callD (fun a : Unit × Int × Unit => a.2) fd_ldraw (ja_cons (jx_obj (j := 1) (i := 0) rfl dk_nf) (ja_cons (jx_var (i := 1) (x := PyData.int) many rfl) ja_nil))) ja_nil)) (by first | rfl | (simp only [WM.pu_bd, WM.bd_as, lf_pu, lf_puo]; done) | (simp only [WM.pu_bd, WM.bd_as, lf_pu, lf_puo]; rfl))) xo_ne) (fun a13 => (js_if (JT.cv (f' := pu ((decide (a13.1 < a13.2.1)) && (!mem ((a13.1, a13.2.1)) roads))) (JT.cv (JT.cv (f' := (if (decide (a13.1 < a13.2.1)) = true then pu (!mem ((a13.1, a13.2.1)) roads) else pu false)) (jt_and (jt_of (jx_op (xc := PyData.bool) (fun (p : Int) (q : Int) => decide (p < q)) (JX.ro (jx_var (i := 7) (x := PyData.int) a13.1 rfl)) (JX.ro (jx_var (i := 4) (x := PyData.int) a13.2.1 rfl)) (fun p q => o2_lt p q))) (jt_of (jx_op (xc := PyData.bool) (fun (p : (Int × Int)) (q : (List (Int × Int))) => !mem p q) (JX.ro (JX.map (sp' := fun q => .v ((eP2 PyData.int PyData.int) q)) (jx_tup (xs := fun a : Int × Int × Unit => [PyData.int a.1, PyData.int a.2.1]) (ja_cons (jx_var (i := 7) (x := PyData.int) a13.1 rfl) (ja_cons (jx_var (i := 4) (x := PyData.int) a13.2.1 rfl) ja_nil))) (fun a : Int × Int × Unit => (a.1, a.2.1)) (fun _ => rfl))) (jo_list (i := 3) (x := (eL (eP2 PyData.int PyData.int))) roads rfl) (fun p q => o2_ni (eqe_P2 eqe_I eqe_I) (by decide) p q)))) rfl) (and_pu _ _)) (by first | rfl | (simp only [WM.pu_bd, WM.bd_as, lf_pu, lf_puo]; done) | (simp only [WM.pu_bd, WM.bd_as, lf_pu, lf_puo]; rfl))) xo_ne (js_goG (Γσ := (fun (st : ((List (Int × Int)))) => [.o 1, .v (PyData.int many), .n, .l (st.map (eP2 PyData.int PyData.int)), .n, .n, .n, .n, .n])) (fun roads_16 => roads_16) (JS.cv (f' := lf (psh roads ((a13.1, a13.2.1)))) (js_append (i := 3) roads (JX.map (sp' := fun q => .v ((eP2 PyData.int PyData.int) q)) (jx_tup (xs := fun a : Int × Int × Unit => [PyData.int a.1, PyData.int a.2.1]) (ja_cons (jx_var (i := 7) (x := PyData.int) a13.1 rfl) (ja_cons (jx_var (i := 4) (x := PyData.int) a13.2.1 rfl) ja_nil))) (fun a : Int × Int × Unit => (a.1, a.2.1)) (fun _ => rfl)) rfl xo_ne) (by first | rfl | (simp only [WM.pu_bd, WM.bd_as, lf_pu, lf_puo]; done) | (simp only [WM.pu_bd, WM.bd_as, lf_pu, lf_puo]; rfl))) (fun roads_16 => wkm [true, true, false, true, false, false, false, false, false] rfl)) (js_goG (Γσ := (fun (st : ((List (Int × Int)))) => [.o 1, .v (PyData.int many), .n, .l (st.map (eP2 PyData.int PyData.int)), .n, .n, .n, .n, .n])) (fun _ => roads) (js_nil (Γ1 := fun _ => [.o 1, .v (PyData.int many), .n, .l (roads.map (eP2 PyData.int PyData.int)), .v (PyData.int a13.2.1), .v (PyData.int turn), .n, .v (PyData.int a13.1), .n]) () .refl) (fun _ => wkm [true, true, false, true, false, false, false, false, false] rfl)))))
noncomputable def p_lchart (many : Int) (more : Int) : Dm (Int × (List (Int × Int)) × (List Int)) :=
  bd (pu (([] : (List (Int × Int))))) fun roads_1 => bd (bd (lf (ran2 (1 : Int) many)) fun x11 => forM' (fun (st9 : ((List (Int × Int)))) (y10 : Int) => p0_lchart many more st9 y10) x11 roads_1) fun s12 => bd (bd (lf (ran1 more)) fun x20 => forM' (fun (st18 : ((List (Int × Int)))) (y19 : Int) => p1_lchart many st18 y19) x20 s12) fun s21 => bd (bd (lf (ran1 many)) fun x26 => bd (cmpM (fun (y23 : Int) => bd (drawD (2 : Int)) fun x24 => pu (decide (x24 = (0 : Int)))) (fun (y23 : Int) => pu y23) x26) fun r25 => lf (lim r25)) fun centres_22 => pu ((many, ((sortP s21)), (centres_22)))
theorem q_lchart (R0 : Mm) (h0 : ∀ q, (DkD.m0 q ++ R0).all (MO.below (DkD.n + R0.length)) = true) (many : Int) (more : Int) : JS (μ := Dm) (DkD.B R0 h0) [.o 1, .v (PyData.int many), .v (PyData.int more), .n, .n, .n, .n, .n, .n] [] b_lchart (p_lchart many more) (Kr _ (eP3 PyData.int (eT (eP2 PyData.int PyData.int)) (eT PyData.int))) := by
  unfold p_lchart b_lchart
  exact (js_seq (js_asg (i := 3) (sp := fun q => .l (List.map (eP2 PyData.int PyData.int) q)) (JX.cv (f' := pu (([] : (List (Int × Int))))) (JX.map (sp' := fun q => .l (List.map (eP2 PyData.int PyData.int) q)) (jx_new (xs := fun a : Unit => []) ja_nil) (fun a : Unit => ([] : (List (Int × Int)))) (fun _ => rfl)) rfl) xo_ne) (fun roads_1 => (js_seq (JS.cv (f' := bd (lf (ran2 (1 : Int) many)) fun x11 => forM' (fun (st9 : ((List (Int × Int)))) (y10 : Int) => p0_lchart many more st9 y10) x11 roads_1) (js_for (enc := PyData.int) (Γσ := (fun (st9 : ((List (Int × Int)))) => [.o 1, .v (PyData.int many), .v (PyData.int more), .l (st9.map (eP2 PyData.int PyData.int)), .n, .n, .n, .n, .n]))  (fb := fun (st9 : ((List (Int × Int)))) (y10 : Int) => p0_lchart many more st9 y10) roads_1 (JI.cv (f' := lf (ran2 (1 : Int) many)) (ji_ran2 (jx_c (x := PyData.int) (1 : Int)) (jx_var (i := 1) (x := PyData.int) many rfl)) (by first | rfl | (simp only [WM.pu_bd, WM.bd_as, lf_pu, lf_puo]; done) | (simp only [WM.pu_bd, WM.bd_as, lf_pu, lf_puo]; rfl))) xo_ne (wkm [true, true, true, true, false, false, false, false, false] rfl) (fun st9 y10 => jg_name) (fun st9 y10 => q0_lchart R0 h0 many more st9 y10)) (by first | rfl | (simp only [WM.pu_bd, WM.bd_as, lf_pu, lf_puo]; done) | (simp only [WM.pu_bd, WM.bd_as, lf_pu, lf_puo]; rfl))) (fun s12 => (js_seq (JS.cv (f' := bd (lf (ran1 more)) fun x20 => forM' (fun (st18 : ((List (Int × Int)))) (y19 : Int) => p1_lchart many st18 y19) x20 s12) (js_for (enc := PyData.int) (Γσ := (fun (st18 : ((List (Int × Int)))) => [.o 1, .v (PyData.int many), .n, .l (st18.map (eP2 PyData.int PyData.int)), .n, .n, .n, .n, .n]))  (fb := fun (st18 : ((List (Int × Int)))) (y19 : Int) => p1_lchart many st18 y19) s12 (JI.cv (f' := lf (ran1 more)) (ji_ran1 (jx_var (i := 2) (x := PyData.int) more rfl)) (by first | rfl | (simp only [WM.pu_bd, WM.bd_as, lf_pu, lf_puo]; done) | (simp only [WM.pu_bd, WM.bd_as, lf_pu, lf_puo]; rfl))) xo_ne (wkm [true, true, false, true, false, false, false, false, false] rfl) (fun st18 y19 => jg_name) (fun st18 y19 => q1_lchart R0 h0 many st18 y19)) (by first | rfl | (simp only [WM.pu_bd, WM.bd_as, lf_pu, lf_puo]; done) | (simp only [WM.pu_bd, WM.bd_as, lf_pu, lf_puo]; rfl))) (fun s21 => (js_seq (js_asg (i := 6) (sp := fun q => .v ((eL PyData.int) q)) (JX.cv (f' := bd (lf (ran1 many)) fun x26 => bd (cmpM (fun (y23 : Int) => bd (drawD (2 : Int)) fun x24 => pu (decide (x24 = (0 : Int)))) (fun (y23 : Int) => pu y23) x26) fun r25 => lf (lim r25)) (jx_comp (enc := PyData.int) (y := PyData.int) (ft := fun (y23 : Int) => bd (drawD (2 : Int)) fun x24 => pu (decide (x24 = (0 : Int)))) (fe := fun (y23 : Int) => pu y23) (ji_ran1 (jx_var (i := 1) (x := PyData.int) many rfl)) (fun y23 => jg_name) (fun y23 => (JT.cv (f' := bd (drawD (2 : Int)) fun x24 => pu (decide (x24 = (0 : Int)))) (jt_of (jx_op (xc := PyData.bool) (fun (p : Int) (q : Int) => decide (p = q)) (JX.ro (jx_callD (fun a : Unit × Int × Unit => a.2) fd_ldraw (ja_cons (jx_obj (j := 1) (i := 0) rfl dk_nf) (ja_cons (jx_c (x := PyData.int) (2 : Int)) ja_nil)))) (JX.ro (jx_c (x := PyData.int) (0 : Int))) (fun p q => o2_eqI p q))) (by first | rfl | (simp only [WM.pu_bd, WM.bd_as, lf_pu, lf_puo]; done) | (simp only [WM.pu_bd, WM.bd_as, lf_pu, lf_puo]; rfl)))) (fun y23 => (JX.cv (f' := pu y23) (jx_var (i := 8) (x := PyData.int) y23 rfl) (by first | rfl | (simp only [WM.pu_bd, WM.bd_as, lf_pu, lf_puo]; done) | (simp only [WM.pu_bd, WM.bd_as, lf_pu, lf_puo]; rfl))))) (by first | rfl | (simp only [WM.pu_bd, WM.bd_as, lf_pu, lf_puo]; done) | (simp only [WM.pu_bd, WM.bd_as, lf_pu, lf_puo]; rfl))) xo_ne) (fun centres_22 => (JS.ret (js_ret (y := (eP3 PyData.int (eT (eP2 PyData.int PyData.int)) (eT PyData.int))) (JX.cv (f' := pu ((many, ((sortP s21)), (centres_22)))) (JX.map (sp' := fun q => .v ((eP3 PyData.int (eT (eP2 PyData.int PyData.int)) (eT PyData.int)) q)) (jx_tup (xs := fun a : Int × (List (Int × Int)) × (List Int) × Unit => [PyData.int a.1, (eT (eP2 PyData.int PyData.int)) a.2.1, (eT PyData.int) a.2.2.1]) (ja_cons (jx_var (i := 1) (x := PyData.int) many rfl) (ja_cons (jx_read (y := (eT (eP2 PyData.int PyData.int))) (fun a => a) (JX.ro (jx_read (y := (eL (eP2 PyData.int PyData.int))) (fun a : (List (Int × Int)) => sortP a) (jo_list (i := 3) (x := (eL (eP2 PyData.int PyData.int))) s21 rfl) (fun a v M r => cz_sortP a v M r))) (fun a v M r => cz_tupL a v M r)) (ja_cons (jx_read (y := (eT PyData.int)) (fun a => a) (JX.ro (jx_var (i := 6) (x := (eL PyData.int)) centres_22 rfl)) (fun a v M r => cz_tupL a v M r)) ja_nil)))) (fun a : Int × (List (Int × Int)) × (List Int) × Unit => (a.1, a.2.1, a.2.2.1)) (fun _ => rfl)) (by first | rfl | (simp only [WM.pu_bd, WM.bd_as, lf_pu, lf_puo]; done) | (simp only [WM.pu_bd, WM.bd_as, lf_pu, lf_puo]; rfl))) xo_ne))))))))))
theorem fd_lchart : FnD DkD 1 d_lchart (fun a : Int × Int × Unit => p_lchart a.1 a.2.1) (fun a => [PyData.int a.1, PyData.int a.2.1]) (eP3 PyData.int (eT (eP2 PyData.int PyData.int)) (eT PyData.int)) :=
  fnD_of (fun a => [.o 1, .v (PyData.int a.1), .v (PyData.int a.2.1), .n, .n, .n, .n, .n, .n]) (fun a R0 h0 => q_lchart R0 h0 a.1 a.2.1)
noncomputable def p1_lorders_of (chart : (Int × (List (Int × Int)) × (List Int))) (own : Int) (reach : (List Int)) (gos : (List (Str × Int))) (backs : (List (Str × Int × Int))) (field : Int) (goal : Int) : Option ((List (Str × Int × Int))) :=
  bd (if (decide (goal = field)) = true then pu true else bd (lf (p_lbeside chart field)) fun x11 => pu (mem goal x11)) fun k13 => if k13 = true then bd (lf (psh backs ((("back" : Str), field, goal)))) fun backs_12 => pu (backs_12) else bd (pu ()) fun _ => pu (backs)
theorem q1_lorders_of (𝔅 : Bas) (chart : (Int × (List (Int × Int)) × (List Int))) (own : Int) (reach : (List Int)) (gos : (List (Str × Int))) (backs : (List (Str × Int × Int))) (field : Int) (goal : Int) : JS (μ := Option) 𝔅 [.n, .n, .v ((eP3 PyData.int (eT (eP2 PyData.int PyData.int)) (eT PyData.int)) chart), .n, .v (PyData.int own), .n, .v ((eL PyData.int) reach), .v ((eL (eP2 PyData.str PyData.int)) gos), .l (backs.map (eP3 PyData.str PyData.int PyData.int)), .v (PyData.int field), .v (PyData.int goal), .n] [] l1_lorders_of (p1_lorders_of chart own reach gos backs field goal) (Kg 𝔅 (fun (st : ((List (Str × Int × Int)))) => [.n, .n, .v ((eP3 PyData.int (eT (eP2 PyData.int PyData.int)) (eT PyData.int)) chart), .n, .v (PyData.int own), .n, .v ((eL PyData.int) reach), .v ((eL (eP2 PyData.str PyData.int)) gos), .l (st.map (eP3 PyData.str PyData.int PyData.int)), .v (PyData.int field), .n, .n])) := by
  unfold p1_lorders_of l1_lorders_of
  exact (js_if (JT.cv (f' := if (decide (goal = field)) = true then pu true else bd (lf (p_lbeside chart field)) fun x11 => pu (mem goal x11)) (JT.cv (f' := if (decide (goal = field)) = true then pu true else bd (lf (p_lbeside chart field)) fun x11 => pu (mem goal x11)) (jt_or (jt_of (jx_op (xc := PyData.bool) (fun (p : Int) (q : Int) => decide (p = q)) (JX.ro (jx_var (i := 10) (x := PyData.int) goal rfl)) (JX.ro (jx_var (i := 9) (x := PyData.int) field rfl)) (fun p q => o2_eqI p q))) (jt_of (jx_op (xc := PyData.bool) (fun (p : Int) (q : (List Int)) => mem p q) (JX.ro (jx_var (i := 10) (x := PyData.int) goal rfl)) (JX.ro (jx_call (fun a => a) fp_lbeside (ja_cons (jx_var (i := 2) (x := (eP3 PyData.int (eT (eP2 PyData.int PyData.int)) (eT PyData.int))) chart rfl) (ja_cons (jx_var (i := 9) (x := PyData.int) field rfl) ja_nil)))) (fun p q => o2_in eqe_I (by decide) p q)))) rfl) (by first | rfl | (simp only [WM.pu_bd, WM.bd_as, lf_pu, lf_puo]; done) | (simp only [WM.pu_bd, WM.bd_as, lf_pu, lf_puo]; rfl))) xo_ne (js_goG (Γσ := (fun (st : ((List (Str × Int × Int)))) => [.n, .n, .v ((eP3 PyData.int (eT (eP2 PyData.int PyData.int)) (eT PyData.int)) chart), .n, .v (PyData.int own), .n, .v ((eL PyData.int) reach), .v ((eL (eP2 PyData.str PyData.int)) gos), .l (st.map (eP3 PyData.str PyData.int PyData.int)), .v (PyData.int field), .n, .n])) (fun backs_12 => backs_12) (JS.cv (f' := lf (psh backs ((("back" : Str), field, goal)))) (js_append (i := 8) backs (JX.map (sp' := fun q => .v ((eP3 PyData.str PyData.int PyData.int) q)) (jx_tup (xs := fun a : Str × Int × Int × Unit => [PyData.str a.1, PyData.int a.2.1, PyData.int a.2.2.1]) (ja_cons (jx_c (x := PyData.str) ("back" : Str)) (ja_cons (jx_var (i := 9) (x := PyData.int) field rfl) (ja_cons (jx_var (i := 10) (x := PyData.int) goal rfl) ja_nil)))) (fun a : Str × Int × Int × Unit => (a.1, a.2.1, a.2.2.1)) (fun _ => rfl)) rfl xo_ne) (by first | rfl | (simp only [WM.pu_bd, WM.bd_as, lf_pu, lf_puo]; done) | (simp only [WM.pu_bd, WM.bd_as, lf_pu, lf_puo]; rfl))) (fun backs_12 => wkm [false, false, true, false, true, false, true, true, true, true, false, false] rfl)) (js_goG (Γσ := (fun (st : ((List (Str × Int × Int)))) => [.n, .n, .v ((eP3 PyData.int (eT (eP2 PyData.int PyData.int)) (eT PyData.int)) chart), .n, .v (PyData.int own), .n, .v ((eL PyData.int) reach), .v ((eL (eP2 PyData.str PyData.int)) gos), .l (st.map (eP3 PyData.str PyData.int PyData.int)), .v (PyData.int field), .n, .n])) (fun _ => backs) (js_nil (Γ1 := fun _ => [.n, .n, .v ((eP3 PyData.int (eT (eP2 PyData.int PyData.int)) (eT PyData.int)) chart), .n, .v (PyData.int own), .n, .v ((eL PyData.int) reach), .v ((eL (eP2 PyData.str PyData.int)) gos), .l (backs.map (eP3 PyData.str PyData.int PyData.int)), .v (PyData.int field), .v (PyData.int goal), .n]) () .refl) (fun _ => wkm [false, false, true, false, true, false, true, true, true, true, false, false] rfl)))
noncomputable def p0_lorders_of (chart : (Int × (List (Int × Int)) × (List Int))) (own : Int) (reach : (List Int)) (gos : (List (Str × Int))) (backs : (List (Str × Int × Int))) (field : Int) : Option ((List (Str × Int × Int))) :=
  bd (pu (!decide (field = own))) fun k17 => if k17 = true then bd (forM' (fun (st14 : ((List (Str × Int × Int)))) (y15 : Int) => p1_lorders_of chart own reach gos st14 field y15) reach backs) fun s16 => pu (s16) else bd (pu ()) fun _ => pu (backs)
theorem q0_lorders_of (𝔅 : Bas) (chart : (Int × (List (Int × Int)) × (List Int))) (own : Int) (reach : (List Int)) (gos : (List (Str × Int))) (backs : (List (Str × Int × Int))) (field : Int) : JS (μ := Option) 𝔅 [.n, .n, .v ((eP3 PyData.int (eT (eP2 PyData.int PyData.int)) (eT PyData.int)) chart), .n, .v (PyData.int own), .n, .v ((eL PyData.int) reach), .v ((eL (eP2 PyData.str PyData.int)) gos), .l (backs.map (eP3 PyData.str PyData.int PyData.int)), .v (PyData.int field), .n, .n] [] l0_lorders_of (p0_lorders_of chart own reach gos backs field) (Kg 𝔅 (fun (st : ((List (Str × Int × Int)))) => [.n, .n, .v ((eP3 PyData.int (eT (eP2 PyData.int PyData.int)) (eT PyData.int)) chart), .n, .v (PyData.int own), .n, .v ((eL PyData.int) reach), .v ((eL (eP2 PyData.str PyData.int)) gos), .l (st.map (eP3 PyData.str PyData.int PyData.int)), .n, .n, .n])) := by
  unfold p0_lorders_of l0_lorders_of
  exact (js_if (JT.cv (f' := pu (!decide (field = own))) (jt_of (jx_op (xc := PyData.bool) (fun (p : Int) (q : Int) => !decide (p = q)) (JX.ro (jx_var (i := 9) (x := PyData.int) field rfl)) (JX.ro (jx_var (i := 4) (x := PyData.int) own rfl)) (fun p q => o2_neI p q))) (by first | rfl | (simp only [WM.pu_bd, WM.bd_as, lf_pu, lf_puo]; done) | (simp only [WM.pu_bd, WM.bd_as, lf_pu, lf_puo]; rfl))) xo_ne (js_goG (Γσ := (fun (st : ((List (Str × Int × Int)))) => [.n, .n, .v ((eP3 PyData.int (eT (eP2 PyData.int PyData.int)) (eT PyData.int)) chart), .n, .v (PyData.int own), .n, .v ((eL PyData.int) reach), .v ((eL (eP2 PyData.str PyData.int)) gos), .l (st.map (eP3 PyData.str PyData.int PyData.int)), .n, .n, .n])) (fun s16 => s16) (JS.cv (f' := forM' (fun (st14 : ((List (Str × Int × Int)))) (y15 : Int) => p1_lorders_of chart own reach gos st14 field y15) reach backs) (js_for (enc := PyData.int) (Γσ := (fun (st14 : ((List (Str × Int × Int)))) => [.n, .n, .v ((eP3 PyData.int (eT (eP2 PyData.int PyData.int)) (eT PyData.int)) chart), .n, .v (PyData.int own), .n, .v ((eL PyData.int) reach), .v ((eL (eP2 PyData.str PyData.int)) gos), .l (st14.map (eP3 PyData.str PyData.int PyData.int)), .v (PyData.int field), .n, .n]))  (fb := fun (st14 : ((List (Str × Int × Int)))) (y15 : Int) => p1_lorders_of chart own reach gos st14 field y15) backs (JI.cv (f' := pu reach) (ji_list (enc := PyData.int) (jx_var (i := 6) (x := (eL PyData.int)) reach rfl)) (by first | rfl | (simp only [WM.pu_bd, WM.bd_as, lf_pu, lf_puo]; done) | (simp only [WM.pu_bd, WM.bd_as, lf_pu, lf_puo]; rfl))) xo_ne (wkm [false, false, true, false, true, false, true, true, true, true, false, false] rfl) (fun st14 y15 => jg_name) (fun st14 y15 => q1_lorders_of _ chart own reach gos st14 field y15)) (by first | rfl | (simp only [WM.pu_bd, WM.bd_as, lf_pu, lf_puo]; done) | (simp only [WM.pu_bd, WM.bd_as, lf_pu, lf_puo]; rfl))) (fun s16 => wkm [false, false, true, false, true, false, true, true, true, false, false, false] rfl)) (js_goG (Γσ := (fun (st : ((List (Str × Int × Int)))) => [.n, .n, .v ((eP3 PyData.int (eT (eP2 PyData.int PyData.int)) (eT PyData.int)) chart), .n, .v (PyData.int own), .n, .v ((eL PyData.int) reach), .v ((eL (eP2 PyData.str PyData.int)) gos), .l (st.map (eP3 PyData.str PyData.int PyData.int)), .n, .n, .n])) (fun _ => backs) (js_nil (Γ1 := fun _ => [.n, .n, .v ((eP3 PyData.int (eT (eP2 PyData.int PyData.int)) (eT PyData.int)) chart), .n, .v (PyData.int own), .n, .v ((eL PyData.int) reach), .v ((eL (eP2 PyData.str PyData.int)) gos), .l (backs.map (eP3 PyData.str PyData.int PyData.int)), .v (PyData.int field), .n, .n]) () .refl) (fun _ => wkm [false, false, true, false, true, false, true, true, true, false, false, false] rfl)))
noncomputable def p_lorders_of (board : ((Int × (List (Int × Int)) × (List Int)) × (List (Int × Int)))) (place : Int) : Option (List PyData) :=
  bd (pu board) fun a1 => bd (bd (bd (lf (ixO a1.2 place)) fun x2 => pu (x2.1)) fun x5 => bd (lf (lim (List.map (fun (y3 : (Int × Int)) => y3.1) a1.2))) fun x6 => pu (x5, x6, ())) fun a4 => bd (lf (p_lbeside a1.1 a4.1)) fun reach_7 => bd (bd (lf (lim (List.map (fun (y8 : Int) => ((("go" : Str), y8))) reach_7))) fun x10 => pu (x10, (([] : (List (Str × Int × Int)))), ())) fun a9 => bd (forM' (fun (st18 : ((List (Str × Int × Int)))) (y19 : Int) => p0_lorders_of a1.1 a4.1 reach_7 a9.1 st18 y19) a4.2.1 a9.2.1) fun s20 => bd (lf (catO ((List.map (eP1 PyData.str)) ([(("stay" : Str))])) ((List.map (eP2 PyData.str PyData.int)) a9.1))) fun x21 => bd (lf (sortO ((List.map (eP3 PyData.str PyData.int PyData.int)) s20))) fun x22 => lf (catO x21 x22)
theorem q_lorders_of (𝔅 : Bas) (board : ((Int × (List (Int × Int)) × (List Int)) × (List (Int × Int)))) (place : Int) : JS (μ := Option) 𝔅 [.v ((eP2 (eP3 PyData.int (eT (eP2 PyData.int PyData.int)) (eT PyData.int)) (eT (eP2 PyData.int PyData.int))) board), .v (PyData.int place), .n, .n, .n, .n, .n, .n, .n, .n, .n, .n] [] b_lorders_of (p_lorders_of board place) (Kr _ (eL eD)) := by
  unfold p_lorders_of b_lorders_of
  exact (js_seq (js_asgT (x := (eP2 (eP3 PyData.int (eT (eP2 PyData.int PyData.int)) (eT PyData.int)) (eT (eP2 PyData.int PyData.int)))) (JX.cv (f' := pu board) (jx_var (i := 0) (x := (eP2 (eP3 PyData.int (eT (eP2 PyData.int PyData.int)) (eT PyData.int)) (eT (eP2 PyData.int PyData.int)))) board rfl) (by first | rfl | (simp only [WM.pu_bd, WM.bd_as, lf_pu, lf_puo]; done) | (simp only [WM.pu_bd, WM.bd_as, lf_pu, lf_puo]; rfl))) (fun a1 => (jg_tup (jgs_cons jg_name (jgs_cons jg_name jgs_nil)))) xo_ne) (fun a1 => (js_seq (js_par (α := Int × (List Int) × Unit) (is := [4, 5]) (sps := (fun a => [.v (PyData.int a.1), .v ((eL PyData.int) a.2.1)])) (JA.cv (f' := bd (bd (lf (ixO a1.2 place)) fun x2 => pu (x2.1)) fun x5 => bd (lf (lim (List.map (fun (y3 : (Int × Int)) => y3.1) a1.2))) fun x6 => pu (x5, x6, ())) (ja_cons (jx_proj (y := PyData.int) (ys := fun p : (Int × Int) => [PyData.int p.1, PyData.int p.2]) 0 (fun p : (Int × Int) => p.1) (JX.ro (jx_opM (xc := (eP2 PyData.int PyData.int)) (fun (p : (List (Int × Int))) (q : Int) => ixO p q) (JX.ro (jx_var (i := 3) (x := (eT (eP2 PyData.int PyData.int))) a1.2 rfl)) (JX.ro (jx_var (i := 1) (x := PyData.int) place rfl)) (fun p q r h => o2_ixT p q r h))) (fun _ => rfl) (fun _ => rfl)) (ja_cons (JX.cv (jx_comp (enc := (eP2 PyData.int PyData.int)) (y := PyData.int) (ft := fun (y3 : (Int × Int)) => pu true) (fe := fun (y3 : (Int × Int)) => pu y3.1) (ji_tup (enc := (eP2 PyData.int PyData.int)) (jx_var (i := 3) (x := (eT (eP2 PyData.int PyData.int))) a1.2 rfl)) (fun y3 => (jg_tup (jgs_cons jg_name (jgs_cons jg_name jgs_nil)))) (fun y3 => (JT.cv (f' := pu true) jt_yes (by first | rfl | (simp only [WM.pu_bd, WM.bd_as, lf_pu, lf_puo]; done) | (simp only [WM.pu_bd, WM.bd_as, lf_pu, lf_puo]; rfl)))) (fun y3 => (JX.cv (f' := pu y3.1) (jx_var (i := 9) (x := PyData.int) y3.1 rfl) (by first | rfl | (simp only [WM.pu_bd, WM.bd_as, lf_pu, lf_puo]; done) | (simp only [WM.pu_bd, WM.bd_as, lf_pu, lf_puo]; rfl))))) (comp_pu1 (fun (y3 : (Int × Int)) => y3.1))) ja_nil)) (by first | rfl | (simp only [WM.pu_bd, WM.bd_as, lf_pu, lf_puo]; done) | (simp only [WM.pu_bd, WM.bd_as, lf_pu, lf_puo]; rfl))) xo_ne) (fun a4 => (js_seq (js_asg (i := 6) (sp := fun q => .v ((eL PyData.int) q)) (JX.cv (f' := lf (p_lbeside a1.1 a4.1)) (jx_call (fun a => a) fp_lbeside (ja_cons (jx_var (i := 2) (x := (eP3 PyData.int (eT (eP2 PyData.int PyData.int)) (eT PyData.int))) a1.1 rfl) (ja_cons (jx_var (i := 4) (x := PyData.int) a4.1 rfl) ja_nil))) (by first | rfl | (simp only [WM.pu_bd, WM.bd_as, lf_pu, lf_puo]; done) | (simp only [WM.pu_bd, WM.bd_as, lf_pu, lf_puo]; rfl))) xo_ne) (fun reach_7 => (js_seq (js_par (α := (List (Str × Int)) × (List (Str × Int × Int)) × Unit) (is := [7, 8]) (sps := (fun a => [.v ((eL (eP2 PyData.str PyData.int)) a.1), .l (a.2.1.map (eP3 PyData.str PyData.int PyData.int))])) (JA.cv (f' := bd (lf (lim (List.map (fun (y8 : Int) => ((("go" : Str), y8))) reach_7))) fun x10 => pu (x10, (([] : (List (Str × Int × Int)))), ())) (ja_cons (JX.cv (jx_comp (enc := PyData.int) (y := (eP2 PyData.str PyData.int)) (ft := fun (y8 : Int) => pu true) (fe := fun (y8 : Int) => pu ((("go" : Str), y8))) (ji_list (enc := PyData.int) (jx_var (i := 6) (x := (eL PyData.int)) reach_7 rfl)) (fun y8 => jg_name) (fun y8 => (JT.cv (f' := pu true) jt_yes (by first | rfl | (simp only [WM.pu_bd, WM.bd_as, lf_pu, lf_puo]; done) | (simp only [WM.pu_bd, WM.bd_as, lf_pu, lf_puo]; rfl)))) (fun y8 => (JX.cv (f' := pu ((("go" : Str), y8))) (JX.map (sp' := fun q => .v ((eP2 PyData.str PyData.int) q)) (jx_tup (xs := fun a : Str × Int × Unit => [PyData.str a.1, PyData.int a.2.1]) (ja_cons (jx_c (x := PyData.str) ("go" : Str)) (ja_cons (jx_var (i := 9) (x := PyData.int) y8 rfl) ja_nil))) (fun a : Str × Int × Unit => (a.1, a.2.1)) (fun _ => rfl)) (by first | rfl | (simp only [WM.pu_bd, WM.bd_as, lf_pu, lf_puo]; done) | (simp only [WM.pu_bd, WM.bd_as, lf_pu, lf_puo]; rfl))))) (comp_pu1 (fun (y8 : Int) => ((("go" : Str), y8))))) (ja_cons (JX.map (sp' := fun q => .l (List.map (eP3 PyData.str PyData.int PyData.int) q)) (jx_new (xs := fun a : Unit => []) ja_nil) (fun a : Unit => ([] : (List (Str × Int × Int)))) (fun _ => rfl)) ja_nil)) (by first | rfl | (simp only [WM.pu_bd, WM.bd_as, lf_pu, lf_puo]; done) | (simp only [WM.pu_bd, WM.bd_as, lf_pu, lf_puo]; rfl))) xo_ne) (fun a9 => (js_seq (JS.cv (f' := forM' (fun (st18 : ((List (Str × Int × Int)))) (y19 : Int) => p0_lorders_of a1.1 a4.1 reach_7 a9.1 st18 y19) a4.2.1 a9.2.1) (js_for (enc := PyData.int) (Γσ := (fun (st18 : ((List (Str × Int × Int)))) => [.n, .n, .v ((eP3 PyData.int (eT (eP2 PyData.int PyData.int)) (eT PyData.int)) a1.1), .n, .v (PyData.int a4.1), .n, .v ((eL PyData.int) reach_7), .v ((eL (eP2 PyData.str PyData.int)) a9.1), .l (st18.map (eP3 PyData.str PyData.int PyData.int)), .n, .n, .n]))  (fb := fun (st18 : ((List (Str × Int × Int)))) (y19 : Int) => p0_lorders_of a1.1 a4.1 reach_7 a9.1 st18 y19) a9.2.1 (JI.cv (f' := pu a4.2.1) (ji_list (enc := PyData.int) (jx_var (i := 5) (x := (eL PyData.int)) a4.2.1 rfl)) (by first | rfl | (simp only [WM.pu_bd, WM.bd_as, lf_pu, lf_puo]; done) | (simp only [WM.pu_bd, WM.bd_as, lf_pu, lf_puo]; rfl))) xo_ne (wkm [false, false, true, false, true, false, true, true, true, false, false, false] rfl) (fun st18 y19 => jg_name) (fun st18 y19 => q0_lorders_of _ a1.1 a4.1 reach_7 a9.1 st18 y19)) (by first | rfl | (simp only [WM.pu_bd, WM.bd_as, lf_pu, lf_puo]; done) | (simp only [WM.pu_bd, WM.bd_as, lf_pu, lf_puo]; rfl))) (fun s20 => (JS.ret (js_ret (y := (eL eD)) (JX.cv (f' := bd (lf (catO ((List.map (eP1 PyData.str)) ([(("stay" : Str))])) ((List.map (eP2 PyData.str PyData.int)) a9.1))) fun x21 => bd (lf (sortO ((List.map (eP3 PyData.str PyData.int PyData.int)) s20))) fun x22 => lf (catO x21 x22)) (jx_opM (xc := (eL eD)) (fun (p : (List PyData)) (q : (List PyData)) => catO p q) (JX.ro (jx_opM (xc := (eL eD)) (fun (p : (List PyData)) (q : (List PyData)) => catO p q) (JX.ro (JX.mapV (y := (eL eD)) (JX.map (sp' := fun q => .v ((eL (eP1 PyData.str)) q)) (jx_lst (xs := fun a : (Str) × Unit => [(eP1 PyData.str) a.1]) (ja_cons (JX.map (sp' := fun q => .v ((eP1 PyData.str) q)) (jx_tup (xs := fun a : Str × Unit => [PyData.str a.1]) (ja_cons (jx_c (x := PyData.str) ("stay" : Str)) ja_nil)) (fun a : Str × Unit => (a.1)) (fun _ => rfl)) ja_nil)) (fun a : (Str) × Unit => [a.1]) (fun _ => rfl)) (List.map (eP1 PyData.str)) (coe_L (fun _ => rfl)))) (JX.ro (JX.mapV (y := (eL eD)) (jx_var (i := 7) (x := (eL (eP2 PyData.str PyData.int))) a9.1 rfl) (List.map (eP2 PyData.str PyData.int)) (coe_L (fun _ => rfl)))) (fun p q r h => o2_catL p q r h))) (JX.ro (jx_readM (y := eL eD) (fun a => sortO a) (JO.map (y := (eL eD)) (jo_list (i := 8) (x := (eL (eP3 PyData.str PyData.int PyData.int))) s20 rfl) (List.map (eP3 PyData.str PyData.int PyData.int)) (coe_L (fun _ => rfl))) (fun a c v M h r => cz_sortDL a c v M h r))) (fun p q r h => o2_catL p q r h)) (by first | rfl | (simp only [WM.pu_bd, WM.bd_as, lf_pu, lf_puo]; done) | (simp only [WM.pu_bd, WM.bd_as, lf_pu, lf_puo]; rfl))) xo_ne))))))))))))
theorem fp_lorders_of : FnP d_lorders_of (fun a : ((Int × (List (Int × Int)) × (List Int)) × (List (Int × Int))) × Int × Unit => p_lorders_of a.1 a.2.1) (fun a => [(eP2 (eP3 PyData.int (eT (eP2 PyData.int PyData.int)) (eT PyData.int)) (eT (eP2 PyData.int PyData.int))) a.1, PyData.int a.2.1]) (eL eD) :=
  fnP_of (fun a => [.v ((eP2 (eP3 PyData.int (eT (eP2 PyData.int PyData.int)) (eT PyData.int)) (eT (eP2 PyData.int PyData.int))) a.1), .v (PyData.int a.2.1), .n, .n, .n, .n, .n, .n, .n, .n, .n, .n]) (fun a M hM => q_lorders_of _ a.1 a.2.1)
noncomputable def p_fits (board : ((Int × (List (Int × Int)) × (List Int)) × (List (Int × Int)))) (orders : (List PyData)) (place : Int) : Option Bool :=
  bd (lf (ixO orders place)) fun x6 => bd (bd (bd (bd (bd (bd (lf (ixO orders place)) fun x1 => lf (ixD x1 (1 : Int))) fun x2 => lf (toI x2)) fun x3 => lf (p_place_in board x3)) fun x4 => lf x4) fun x5 => lf (ixO orders x5)) fun x7 => lf (p_is_for x6 x7)
theorem q_fits (𝔅 : Bas) (board : ((Int × (List (Int × Int)) × (List Int)) × (List (Int × Int)))) (orders : (List PyData)) (place : Int) : JS (μ := Option) 𝔅 [.v ((eP2 (eP3 PyData.int (eT (eP2 PyData.int PyData.int)) (eT PyData.int)) (eT (eP2 PyData.int PyData.int))) board), .v ((eT eD) orders), .v (PyData.int place)] [] b_fits (p_fits board orders place) (Kr _ PyData.bool) := by
  unfold p_fits b_fits
  exact (JS.ret (js_ret (y := PyData.bool) (JX.cv (f' := bd (lf (ixO orders place)) fun x6 => bd (bd (bd (bd (bd (bd (lf (ixO orders place)) fun x1 => lf (ixD x1 (1 : Int))) fun x2 => lf (toI x2)) fun x3 => lf (p_place_in board x3)) fun x4 => lf x4) fun x5 => lf (ixO orders x5)) fun x7 => lf (p_is_for x6 x7)) (jx_call (fun a => a) fp_is_for (ja_cons (jx_opM (xc := eD) (fun (p : (List PyData)) (q : Int) => ixO p q) (JX.ro (jx_var (i := 1) (x := (eT eD)) orders rfl)) (JX.ro (jx_var (i := 2) (x := PyData.int) place rfl)) (fun p q r h => o2_ixT p q r h)) (ja_cons (jx_opM (xc := eD) (fun (p : (List PyData)) (q : Int) => ixO p q) (JX.ro (jx_var (i := 1) (x := (eT eD)) orders rfl)) (JX.ro (JX.down (y := PyData.int) (jx_call (fun a => a) fp_place_in (ja_cons (jx_var (i := 0) (x := (eP2 (eP3 PyData.int (eT (eP2 PyData.int PyData.int)) (eT PyData.int)) (eT (eP2 PyData.int PyData.int)))) board rfl) (ja_cons (JX.down (y := PyData.int) (jx_opM (xc := eD) (fun (p : PyData) (q : Int) => ixD p q) (JX.ro (jx_opM (xc := eD) (fun (p : (List PyData)) (q : Int) => ixO p q) (JX.ro (jx_var (i := 1) (x := (eT eD)) orders rfl)) (JX.ro (jx_var (i := 2) (x := PyData.int) place rfl)) (fun p q r h => o2_ixT p q r h))) (JX.ro (jx_c (x := PyData.int) (1 : Int))) (fun p q r h => o2_ixD p q r h)) toI dec_I) ja_nil))) (fun o => o) (fun o c h => by subst h; rfl))) (fun p q r h => o2_ixT p q r h)) ja_nil))) (by first | rfl | (simp only [WM.pu_bd, WM.bd_as, lf_pu, lf_puo]; done) | (simp only [WM.pu_bd, WM.bd_as, lf_pu, lf_puo]; rfl))) xo_ne))
theorem fp_fits : FnP d_fits (fun a : ((Int × (List (Int × Int)) × (List Int)) × (List (Int × Int))) × (List PyData) × Int × Unit => p_fits a.1 a.2.1 a.2.2.1) (fun a => [(eP2 (eP3 PyData.int (eT (eP2 PyData.int PyData.int)) (eT PyData.int)) (eT (eP2 PyData.int PyData.int))) a.1, (eT eD) a.2.1, PyData.int a.2.2.1]) PyData.bool :=
  fnP_of (fun a => [.v ((eP2 (eP3 PyData.int (eT (eP2 PyData.int PyData.int)) (eT PyData.int)) (eT (eP2 PyData.int PyData.int))) a.1), .v ((eT eD) a.2.1), .v (PyData.int a.2.2.1)]) (fun a M hM => q_fits _ a.1 a.2.1 a.2.2.1)
noncomputable def p_lpieces (chart : (Int × (List (Int × Int)) × (List Int))) (many : Int) : Dm (List (Int × Int)) :=
  bd (bd (bd (lf (rg1 (6 : Int))) fun x2 => mixD PyData.int x2) fun x4 => bd (bd (drawD (2 : Int)) fun x3 => pu ((2 : Int) + x3)) fun x5 => pu (cutL x4 none (some x5))) fun players_1 => bd (bd (bd (bd (lf (rg1 (chart.1))) fun x7 => mixD PyData.int x7) fun x8 => pu (cutL x8 none (some many))) fun x9 => pu (sortI x9)) fun fields_6 => bd (bd (cmpM (fun (y10 : Int) => pu true) (fun (y10 : Int) => bd (pickD players_1) fun x11 => pu ((y10, x11))) fields_6) fun r12 => lf (lim r12)) fun x13 => pu (x13)
theorem q_lpieces (R0 : Mm) (h0 : ∀ q, (DkD.m0 q ++ R0).all (MO.below (DkD.n + R0.length)) = true) (chart : (Int × (List (Int × Int)) × (List Int))) (many : Int) : JS (μ := Dm) (DkD.B R0 h0) [.o 1, .v ((eP3 PyData.int (eT (eP2 PyData.int PyData.int)) (eT PyData.int)) chart), .v (PyData.int many), .n, .n, .n] [] b_lpieces (p_lpieces chart many) (Kr _ (eT (eP2 PyData.int PyData.int))) := by
  unfold p_lpieces b_lpieces
  exact (js_seq (js_asg (i := 3) (sp := fun q => .v ((eL PyData.int) q)) (JX.cv (f' := bd (bd (lf (rg1 (6 : Int))) fun x2 => mixD PyData.int x2) fun x4 => bd (bd (drawD (2 : Int)) fun x3 => pu ((2 : Int) + x3)) fun x5 => pu (cutL x4 none (some x5))) (jx_sliceT (y := (eL PyData.int)) cutL (JX.ro (jx_callD (fun a : Unit × (List Int) × Unit => a.2) (fd_lmixed PyData.int) (ja_cons (jx_obj (j := 1) (i := 0) rfl dk_nf) (ja_cons (jx_lr1 (jx_c (x := PyData.int) (6 : Int))) ja_nil)))) jn_none (jn_some (jx_op (xc := PyData.int) (fun (p : Int) (q : Int) => p + q) (JX.ro (jx_c (x := PyData.int) (2 : Int))) (JX.ro (jx_callD (fun a : Unit × Int × Unit => a.2) fd_ldraw (ja_cons (jx_obj (j := 1) (i := 0) rfl dk_nf) (ja_cons (jx_c (x := PyData.int) (2 : Int)) ja_nil)))) (fun p q => o2_add p q))) (fun a lo hi v M r => sl_L a lo hi v M r)) (by first | rfl | (simp only [WM.pu_bd, WM.bd_as, lf_pu, lf_puo]; done) | (simp only [WM.pu_bd, WM.bd_as, lf_pu, lf_puo]; rfl))) xo_ne) (fun players_1 => (js_seq (js_asg (i := 4) (sp := fun q => .v ((eL PyData.int) q)) (JX.cv (f' := bd (bd (bd (lf (rg1 (chart.1))) fun x7 => mixD PyData.int x7) fun x8 => pu (cutL x8 none (some many))) fun x9 => pu (sortI x9)) (jx_read (y := (eL PyData.int)) (fun a : (List Int) => sortI a) (JX.ro (jx_sliceT (y := (eL PyData.int)) cutL (JX.ro (jx_callD (fun a : Unit × (List Int) × Unit => a.2) (fd_lmixed PyData.int) (ja_cons (jx_obj (j := 1) (i := 0) rfl dk_nf) (ja_cons (jx_lr1 (jx_proj (y := PyData.int) (ys := fun p : (Int × (List (Int × Int)) × (List Int)) => [PyData.int p.1, (eT (eP2 PyData.int PyData.int)) p.2.1, (eT PyData.int) p.2.2]) 0 (fun p : (Int × (List (Int × Int)) × (List Int)) => p.1) (JX.ro (jx_var (i := 1) (x := (eP3 PyData.int (eT (eP2 PyData.int PyData.int)) (eT PyData.int))) chart rfl)) (fun _ => rfl) (fun _ => rfl))) ja_nil)))) jn_none (jn_some (jx_var (i := 2) (x := PyData.int) many rfl)) (fun a lo hi v M r => sl_L a lo hi v M r))) (fun a v M r => cz_sortI a v M r)) (by first | rfl | (simp only [WM.pu_bd, WM.bd_as, lf_pu, lf_puo]; done) | (simp only [WM.pu_bd, WM.bd_as, lf_pu, lf_puo]; rfl))) xo_ne) (fun fields_6 => (JS.ret (js_ret (y := (eT (eP2 PyData.int PyData.int))) (JX.cv (f' := bd (bd (cmpM (fun (y10 : Int) => pu true) (fun (y10 : Int) => bd (pickD players_1) fun x11 => pu ((y10, x11))) fields_6) fun r12 => lf (lim r12)) fun x13 => pu (x13)) (jx_read (y := (eT (eP2 PyData.int PyData.int))) (fun a => a) (JX.ro (jx_comp (enc := PyData.int) (y := (eP2 PyData.int PyData.int)) (ft := fun (y10 : Int) => pu true) (fe := fun (y10 : Int) => bd (pickD players_1) fun x11 => pu ((y10, x11))) (ji_list (enc := PyData.int) (jx_var (i := 4) (x := (eL PyData.int)) fields_6 rfl)) (fun y10 => jg_name) (fun y10 => (JT.cv (f' := pu true) jt_yes (by first | rfl | (simp only [WM.pu_bd, WM.bd_as, lf_pu, lf_puo]; done) | (simp only [WM.pu_bd, WM.bd_as, lf_pu, lf_puo]; rfl)))) (fun y10 => (JX.cv (f' := bd (pickD players_1) fun x11 => pu ((y10, x11))) (JX.map (sp' := fun q => .v ((eP2 PyData.int PyData.int) q)) (jx_tup (xs := fun a : Int × Int × Unit => [PyData.int a.1, PyData.int a.2.1]) (ja_cons (jx_var (i := 5) (x := PyData.int) y10 rfl) (ja_cons (jx_callD (fun a : Unit × (List Int) × Unit => a.2) (fd_lpick PyData.int) (ja_cons (jx_obj (j := 1) (i := 0) rfl dk_nf) (ja_cons (jx_var (i := 3) (x := (eL PyData.int)) players_1 rfl) ja_nil))) ja_nil))) (fun a : Int × Int × Unit => (a.1, a.2.1)) (fun _ => rfl)) (by first | rfl | (simp only [WM.pu_bd, WM.bd_as, lf_pu, lf_puo]; done) | (simp only [WM.pu_bd, WM.bd_as, lf_pu, lf_puo]; rfl)))))) (fun a v M r => cz_tupL a v M r)) (by first | rfl | (simp only [WM.pu_bd, WM.bd_as, lf_pu, lf_puo]; done) | (simp only [WM.pu_bd, WM.bd_as, lf_pu, lf_puo]; rfl))) xo_ne))))))
theorem fd_lpieces : FnD DkD 1 d_lpieces (fun a : (Int × (List (Int × Int)) × (List Int)) × Int × Unit => p_lpieces a.1 a.2.1) (fun a => [(eP3 PyData.int (eT (eP2 PyData.int PyData.int)) (eT PyData.int)) a.1, PyData.int a.2.1]) (eT (eP2 PyData.int PyData.int)) :=
  fnD_of (fun a => [.o 1, .v ((eP3 PyData.int (eT (eP2 PyData.int PyData.int)) (eT PyData.int)) a.1), .v (PyData.int a.2.1), .n, .n, .n]) (fun a R0 h0 => q_lpieces R0 h0 a.1 a.2.1)
noncomputable def p0_lgos (chart : (Int × (List (Int × Int)) × (List Int))) (pieces : (List (Int × Int))) (fields : (List Int)) (gos : (List (Int × Int))) (fights : (List (Int × Int))) (field : Int) (player : Int) : Dm ((List (Int × Int))) :=
  bd (lf (p_lbeside chart field)) fun reach_5 => bd (bd (lf (lim ((List.filter (fun (y7 : (Int × Int)) => ((!decide (y7.2 = player)) && (mem y7.1 reach_5))) pieces).map (fun (y7 : (Int × Int)) => ((field, y7.1)))))) fun x8 => lf (catO fights x8)) fun fights_6 => pu (fights_6)
theorem q0_lgos (R0 : Mm) (h0 : ∀ q, (DkD.m0 q ++ R0).all (MO.below (DkD.n + R0.length)) = true) (chart : (Int × (List (Int × Int)) × (List Int))) (pieces : (List (Int × Int))) (fields : (List Int)) (gos : (List (Int × Int))) (fights : (List (Int × Int))) (field : Int) (player : Int) : JS (μ := Dm) (DkD.B R0 h0) [.o 1, .n, .v ((eP3 PyData.int (eT (eP2 PyData.int PyData.int)) (eT PyData.int)) chart), .v ((eT (eP2 PyData.int PyData.int)) pieces), .v ((eL PyData.int) fields), .k (eKs PyData.int PyData.int gos), .v ((eL (eP2 PyData.int PyData.int)) fights), .v (PyData.int field), .v (PyData.int player), .n, .n, .n, .n, .n, .n, .n, .n] [] l7_lgos (p0_lgos chart pieces fields gos fights field player) (Kg (DkD.B R0 h0) (fun (st : ((List (Int × Int)))) => [.o 1, .n, .v ((eP3 PyData.int (eT (eP2 PyData.int PyData.int)) (eT PyData.int)) chart), .v ((eT (eP2 PyData.int PyData.int)) pieces), .v ((eL PyData.int) fields), .k (eKs PyData.int PyData.int gos), .v ((eL (eP2 PyData.int PyData.int)) st), .n, .n, .n, .n, .n, .n, .n, .n, .n, .n])) := by
  unfold p0_lgos l7_lgos
  exact (js_seq (js_asg (i := 9) (sp := fun q => .v ((eL PyData.int) q)) (JX.cv (f' := lf (p_lbeside chart field)) (jx_call (fun a => a) fp_lbeside (ja_cons (jx_var (i := 2) (x := (eP3 PyData.int (eT (eP2 PyData.int PyData.int)) (eT PyData.int))) chart rfl) (ja_cons (jx_var (i := 7) (x := PyData.int) field rfl) ja_nil))) (by first | rfl | (simp only [WM.pu_bd, WM.bd_as, lf_pu, lf_puo]; done) | (simp only [WM.pu_bd, WM.bd_as, lf_pu, lf_puo]; rfl))) xo_ne) (fun reach_5 => (js_goG (Γσ := (fun (st : ((List (Int × Int)))) => [.o 1, .n, .v ((eP3 PyData.int (eT (eP2 PyData.int PyData.int)) (eT PyData.int)) chart), .v ((eT (eP2 PyData.int PyData.int)) pieces), .v ((eL PyData.int) fields), .k (eKs PyData.int PyData.int gos), .v ((eL (eP2 PyData.int PyData.int)) st), .n, .n, .n, .n, .n, .n, .n, .n, .n, .n])) (fun fights_6 => fights_6) (js_asg (i := 6) (sp := fun q => .v ((eL (eP2 PyData.int PyData.int)) q)) (JX.cv (f' := bd (lf (lim ((List.filter (fun (y7 : (Int × Int)) => ((!decide (y7.2 = player)) && (mem y7.1 reach_5))) pieces).map (fun (y7 : (Int × Int)) => ((field, y7.1)))))) fun x8 => lf (catO fights x8)) (jx_opM (xc := (eL (eP2 PyData.int PyData.int))) (fun (p : (List (Int × Int))) (q : (List (Int × Int))) => catO p q) (JX.ro (jx_var (i := 6) (x := (eL (eP2 PyData.int PyData.int))) fights rfl)) (JX.ro (JX.cv (jx_comp (enc := (eP2 PyData.int PyData.int)) (y := (eP2 PyData.int PyData.int)) (ft := fun (y7 : (Int × Int)) => pu ((!decide (y7.2 = player)) && (mem y7.1 reach_5))) (fe := fun (y7 : (Int × Int)) => pu ((field, y7.1))) (ji_tup (enc := (eP2 PyData.int PyData.int)) (jx_var (i := 3) (x := (eT (eP2 PyData.int PyData.int))) pieces rfl)) (fun y7 => (jg_tup (jgs_cons jg_name (jgs_cons jg_name jgs_nil)))) (fun y7 => (JT.cv (f' := pu ((!decide (y7.2 = player)) && (mem y7.1 reach_5))) (JT.cv (JT.cv (f' := (if (!decide (y7.2 = player)) = true then pu (mem y7.1 reach_5) else pu false)) (jt_and (jt_of (jx_op (xc := PyData.bool) (fun (p : Int) (q : Int) => !decide (p = q)) (JX.ro (jx_var (i := 16) (x := PyData.int) y7.2 rfl)) (JX.ro (jx_var (i := 8) (x := PyData.int) player rfl)) (fun p q => o2_neI p q))) (jt_of (jx_op (xc := PyData.bool) (fun (p : Int) (q : (List Int)) => mem p q) (JX.ro (jx_var (i := 11) (x := PyData.int) y7.1 rfl)) (JX.ro (jx_var (i := 9) (x := (eL PyData.int)) reach_5 rfl)) (fun p q => o2_in eqe_I (by decide) p q)))) rfl) (and_pu _ _)) (by first | rfl | (simp only [WM.pu_bd, WM.bd_as, lf_pu, lf_puo]; done) | (simp only [WM.pu_bd, WM.bd_as, lf_pu, lf_puo]; rfl)))) (fun y7 => (JX.cv (f' := pu ((field, y7.1))) (JX.map (sp' := fun q => .v ((eP2 PyData.int PyData.int) q)) (jx_tup (xs := fun a : Int × Int × Unit => [PyData.int a.1, PyData.int a.2.1]) (ja_cons (jx_var (i := 7) (x := PyData.int) field rfl) (ja_cons (jx_var (i := 11) (x := PyData.int) y7.1 rfl) ja_nil))) (fun a : Int × Int × Unit => (a.1, a.2.1)) (fun _ => rfl)) (by first | rfl | (simp only [WM.pu_bd, WM.bd_as, lf_pu, lf_puo]; done) | (simp only [WM.pu_bd, WM.bd_as, lf_pu, lf_puo]; rfl))))) (comp_pu (fun (y7 : (Int × Int)) => ((!decide (y7.2 = player)) && (mem y7.1 reach_5))) (fun (y7 : (Int × Int)) => ((field, y7.1)))))) (fun p q r h => o2_catL p q r h)) (by first | rfl | (simp only [WM.pu_bd, WM.bd_as, lf_pu, lf_puo]; done) | (simp only [WM.pu_bd, WM.bd_as, lf_pu, lf_puo]; rfl))) xo_ne) (fun fights_6 => wkm [true, false, true, true, true, true, true, false, false, false, false, false, false, false, false, false, false] rfl))))
noncomputable def p1_lgos (chart : (Int × (List (Int × Int)) × (List Int))) (fields : (List Int)) (gos : (List (Int × Int))) (field : Int) : Dm ((List (Int × Int))) :=
  bd (lf (p_lbeside chart field)) fun reach_14 => bd (if (!decide (reach_14 = ([] : (List Int)))) = true then bd (drawD (5 : Int)) fun x15 => pu (decide (x15 < (2 : Int))) else pu false) fun k23 => if k23 = true then bd (lf (lim ((List.filter (fun (y17 : Int) => (mem y17 fields)) reach_14).map (fun (y17 : Int) => y17)))) fun taken_16 => bd (bd (bd (bd (if (!decide (taken_16 = ([] : (List Int)))) = true then bd (drawD (4 : Int)) fun x18 => pu (decide ((0 : Int) < x18)) else pu false) fun k19 => if k19 = true then pu taken_16 else pu reach_14) fun x20 => pickD x20) fun x22 => lf (dputO gos field x22)) fun gos_21 => pu (gos_21) else bd (pu ()) fun _ => pu (gos)
theorem q1_lgos (R0 : Mm) (h0 : ∀ q, (DkD.m0 q ++ R0).all (MO.below (DkD.n + R0.length)) = true) (chart : (Int × (List (Int × Int)) × (List Int))) (fields : (List Int)) (gos : (List (Int × Int))) (field : Int) : JS (μ := Dm) (DkD.B R0 h0) [.o 1, .n, .v ((eP3 PyData.int (eT (eP2 PyData.int PyData.int)) (eT PyData.int)) chart), .n, .v ((eL PyData.int) fields), .k (eKs PyData.int PyData.int gos), .n, .v (PyData.int field), .n, .n, .n, .n, .n, .n, .n, .n, .n] [] l5_lgos (p1_lgos chart fields gos field) (Kg (DkD.B R0 h0) (fun (st : ((List (Int × Int)))) => [.o 1, .n, .v ((eP3 PyData.int (eT (eP2 PyData.int PyData.int)) (eT PyData.int)) chart), .n, .v ((eL PyData.int) fields), .k (eKs PyData.int PyData.int st), .n, .n, .n, .n, .n, .n, .n, .n, .n, .n, .n])) := by
  unfold p1_lgos l5_lgos
  exact (js_seq (js_asg (i := 9) (sp := fun q => .v ((eL PyData.int) q)) (JX.cv (f' := lf (p_lbeside chart field)) (jx_call (fun a => a) fp_lbeside (ja_cons (jx_var (i := 2) (x := (eP3 PyData.int (eT (eP2 PyData.int PyData.int)) (eT PyData.int))) chart rfl) (ja_cons (jx_var (i := 7) (x := PyData.int) field rfl) ja_nil))) (by first | rfl | (simp only [WM.pu_bd, WM.bd_as, lf_pu, lf_puo]; done) | (simp only [WM.pu_bd, WM.bd_as, lf_pu, lf_puo]; rfl))) xo_ne) (fun reach_14 => (js_if (JT.cv (f' := if (!decide (reach_14 = ([] : (List Int)))) = true then bd (drawD (5 : Int)) fun x15 => pu (decide (x15 < (2 : Int))) else pu false) (JT.cv (f' := if (!decide (reach_14 = ([] : (List Int)))) = true then bd (drawD (5 : Int)) fun x15 => pu (decide (x15 < (2 : Int))) else pu false) (jt_and (jt_of (jx_op (xc := PyData.bool) (fun (p : (List Int)) (q : (List Int)) => !decide (p = q)) (JX.ro (jx_var (i := 9) (x := (eL PyData.int)) reach_14 rfl)) (JX.ro (JX.mapV (y := (eL PyData.int)) (jx_lst (xs := fun _ => []) ja_nil) (fun _ => ([] : (List Int))) (fun _ => rfl))) (fun p q => o2_neE (eqe_L eqe_I) (by decide) p q))) (jt_of (jx_op (xc := PyData.bool) (fun (p : Int) (q : Int) => decide (p < q)) (JX.ro (jx_callD (fun a : Unit × Int × Unit => a.2) fd_ldraw (ja_cons (jx_obj (j := 1) (i := 0) rfl dk_nf) (ja_cons (jx_c (x := PyData.int) (5 : Int)) ja_nil)))) (JX.ro (jx_c (x := PyData.int) (2 : Int))) (fun p q => o2_lt p q)))) rfl) (by first | rfl | (simp only [WM.pu_bd, WM.bd_as, lf_pu, lf_puo]; done) | (simp only [WM.pu_bd, WM.bd_as, lf_pu, lf_puo]; rfl))) xo_ne (js_seq (js_asg (i := 13) (sp := fun q => .v ((eL PyData.int) q)) (JX.cv (f' := lf (lim ((List.filter (fun (y17 : Int) => (mem y17 fields)) reach_14).map (fun (y17 : Int) => y17)))) (JX.cv (jx_comp (enc := PyData.int) (y := PyData.int) (ft := fun (y17 : Int) => pu (mem y17 fields)) (fe := fun (y17 : Int) => pu y17) (ji_list (enc := PyData.int) (jx_var (i := 9) (x := (eL PyData.int)) reach_14 rfl)) (fun y17 => jg_name) (fun y17 => (JT.cv (f' := pu (mem y17 fields)) (jt_of (jx_op (xc := PyData.bool) (fun (p : Int) (q : (List Int)) => mem p q) (JX.ro (jx_var (i := 11) (x := PyData.int) y17 rfl)) (JX.ro (jx_var (i := 4) (x := (eL PyData.int)) fields rfl)) (fun p q => o2_in eqe_I (by decide) p q))) (by first | rfl | (simp only [WM.pu_bd, WM.bd_as, lf_pu, lf_puo]; done) | (simp only [WM.pu_bd, WM.bd_as, lf_pu, lf_puo]; rfl)))) (fun y17 => (JX.cv (f' := pu y17) (jx_var (i := 11) (x := PyData.int) y17 rfl) (by first | rfl | (simp only [WM.pu_bd, WM.bd_as, lf_pu, lf_puo]; done) | (simp only [WM.pu_bd, WM.bd_as, lf_pu, lf_puo]; rfl))))) (comp_pu (fun (y17 : Int) => (mem y17 fields)) (fun (y17 : Int) => y17))) (by first | rfl | (simp only [WM.pu_bd, WM.bd_as, lf_pu, lf_puo]; done) | (simp only [WM.pu_bd, WM.bd_as, lf_pu, lf_puo]; rfl))) xo_ne) (fun taken_16 => (js_goG (Γσ := (fun (st : ((List (Int × Int)))) => [.o 1, .n, .v ((eP3 PyData.int (eT (eP2 PyData.int PyData.int)) (eT PyData.int)) chart), .n, .v ((eL PyData.int) fields), .k (eKs PyData.int PyData.int st), .n, .n, .n, .n, .n, .n, .n, .n, .n, .n, .n])) (fun gos_21 => gos_21) (JS.cv (f' := bd (bd (bd (if (!decide (taken_16 = ([] : (List Int)))) = true then bd (drawD (4 : Int)) fun x18 => pu (decide ((0 : Int) < x18)) else pu false) fun k19 => if k19 = true then pu taken_16 else pu reach_14) fun x20 => pickD x20) fun x22 => lf (dputO gos field x22)) (js_put key_int (ev := PyData.int) (i := 5) gos (jx_callD (fun a : Unit × (List Int) × Unit => a.2) (fd_lpick PyData.int) (ja_cons (jx_obj (j := 1) (i := 0) rfl dk_nf) (ja_cons (jx_if (JT.cv (f' := if (!decide (taken_16 = ([] : (List Int)))) = true then bd (drawD (4 : Int)) fun x18 => pu (decide ((0 : Int) < x18)) else pu false) (jt_and (jt_of (jx_op (xc := PyData.bool) (fun (p : (List Int)) (q : (List Int)) => !decide (p = q)) (JX.ro (jx_var (i := 13) (x := (eL PyData.int)) taken_16 rfl)) (JX.ro (JX.mapV (y := (eL PyData.int)) (jx_lst (xs := fun _ => []) ja_nil) (fun _ => ([] : (List Int))) (fun _ => rfl))) (fun p q => o2_neE (eqe_L eqe_I) (by decide) p q))) (jt_of (jx_op (xc := PyData.bool) (fun (p q : Int) => decide (q < p)) (JX.ro (jx_callD (fun a : Unit × Int × Unit => a.2) fd_ldraw (ja_cons (jx_obj (j := 1) (i := 0) rfl dk_nf) (ja_cons (jx_c (x := PyData.int) (4 : Int)) ja_nil)))) (JX.ro (jx_c (x := PyData.int) (0 : Int))) (fun p q => o2_gt p q)))) rfl) (JX.cv (f' := pu taken_16) (jx_var (i := 13) (x := (eL PyData.int)) taken_16 rfl) (by first | rfl | (simp only [WM.pu_bd, WM.bd_as, lf_pu, lf_puo]; done) | (simp only [WM.pu_bd, WM.bd_as, lf_pu, lf_puo]; rfl))) (JX.cv (f' := pu reach_14) (jx_var (i := 9) (x := (eL PyData.int)) reach_14 rfl) (by first | rfl | (simp only [WM.pu_bd, WM.bd_as, lf_pu, lf_puo]; done) | (simp only [WM.pu_bd, WM.bd_as, lf_pu, lf_puo]; rfl)))) ja_nil))) (JX.cv (μ := Option) (f' := pu field) (jx_var (i := 7) (x := PyData.int) field rfl) (by first | rfl | (simp only [WM.pu_bd, WM.bd_as, lf_pu, lf_puo]; done) | (simp only [WM.pu_bd, WM.bd_as, lf_pu, lf_puo]; rfl))) rfl xo_ne) (by first | rfl | (simp only [WM.pu_bd, WM.bd_as, lf_pu, lf_puo]; done) | (simp only [WM.pu_bd, WM.bd_as, lf_pu, lf_puo]; rfl))) (fun gos_21 => wkm [true, false, true, false, true, true, false, false, false, false, false, false, false, false, false, false, false] rfl)))) (js_goG (Γσ := (fun (st : ((List (Int × Int)))) => [.o 1, .n, .v ((eP3 PyData.int (eT (eP2 PyData.int PyData.int)) (eT PyData.int)) chart), .n, .v ((eL PyData.int) fields), .k (eKs PyData.int PyData.int st), .n, .n, .n, .n, .n, .n, .n, .n, .n, .n, .n])) (fun _ => gos) (js_nil (Γ1 := fun _ => [.o 1, .n, .v ((eP3 PyData.int (eT (eP2 PyData.int PyData.int)) (eT PyData.int)) chart), .n, .v ((eL PyData.int) fields), .k (eKs PyData.int PyData.int gos), .n, .v (PyData.int field), .n, .v ((eL PyData.int) reach_14), .n, .n, .n, .n, .n, .n, .n]) () .refl) (fun _ => wkm [true, false, true, false, true, true, false, false, false, false, false, false, false, false, false, false, false] rfl)))))
noncomputable def p4_lgos (chart : (Int × (List (Int × Int)) × (List Int))) (fields : (List Int)) (gos : (List (Int × Int))) (a : Int) (b : Int) (c : Int) : Dm (Tn ((List (Int × Int))) (List (Int × Int))) :=
  bd (pu (mem c fields)) fun k35 => if k35 = true then bd (lf (dputs gos [(a, b), (b, c), (c, a)])) fun gos_34 => bd (pu gos_34) fun r => pu (Tn.rt r) else bd (pu ()) fun _ => pu (Tn.go gos)
theorem q4_lgos (R0 : Mm) (h0 : ∀ q, (DkD.m0 q ++ R0).all (MO.below (DkD.n + R0.length)) = true) (chart : (Int × (List (Int × Int)) × (List Int))) (fields : (List Int)) (gos : (List (Int × Int))) (a : Int) (b : Int) (c : Int) : JS (μ := Dm) (DkD.B R0 h0) [.o 1, .n, .v ((eP3 PyData.int (eT (eP2 PyData.int PyData.int)) (eT PyData.int)) chart), .n, .v ((eL PyData.int) fields), .k (eKs PyData.int PyData.int gos), .n, .n, .n, .n, .n, .n, .v (PyData.int a), .n, .v (PyData.int b), .v (PyData.int c), .n] [] l3_lgos (p4_lgos chart fields gos a b c) (Ks (DkD.B R0 h0) (fun (st : ((List (Int × Int)))) => [.o 1, .n, .v ((eP3 PyData.int (eT (eP2 PyData.int PyData.int)) (eT PyData.int)) chart), .n, .v ((eL PyData.int) fields), .k (eKs PyData.int PyData.int st), .n, .n, .n, .n, .n, .n, .v (PyData.int a), .n, .v (PyData.int b), .n, .n]) (eK PyData.int PyData.int)) := by
  unfold p4_lgos l3_lgos
  exact (js_if (JT.cv (f' := pu (mem c fields)) (jt_of (jx_op (xc := PyData.bool) (fun (p : Int) (q : (List Int)) => mem p q) (JX.ro (jx_var (i := 15) (x := PyData.int) c rfl)) (JX.ro (jx_var (i := 4) (x := (eL PyData.int)) fields rfl)) (fun p q => o2_in eqe_I (by decide) p q))) (by first | rfl | (simp only [WM.pu_bd, WM.bd_as, lf_pu, lf_puo]; done) | (simp only [WM.pu_bd, WM.bd_as, lf_pu, lf_puo]; rfl))) xo_ne (js_seq (JS.cv (f' := lf (dputs gos [(a, b), (b, c), (c, a)])) (js_puts key_int (ev := PyData.int) (i := 5) (vs := (fun a : Int × Int × Int × Unit => [a.1, a.2.1, a.2.2.1])) [mVar 12, mVar 14, mVar 15] [a, b, c] gos (ja_cons (jx_var (i := 14) (x := PyData.int) b rfl) (ja_cons (jx_var (i := 15) (x := PyData.int) c rfl) (ja_cons (jx_var (i := 12) (x := PyData.int) a rfl) ja_nil))) (KeysE.cons (fun _ => (jx_var (i := 12) (x := PyData.int) a rfl)) (KeysE.cons (fun _ => (jx_var (i := 14) (x := PyData.int) b rfl)) (KeysE.cons (fun _ => (jx_var (i := 15) (x := PyData.int) c rfl)) KeysE.nil))) rfl xo_ne) (by first | rfl | (simp only [WM.pu_bd, WM.bd_as, lf_pu, lf_puo]; done) | (simp only [WM.pu_bd, WM.bd_as, lf_pu, lf_puo]; rfl))) (fun gos_34 => (js_ghK (i := 5) rfl (JS.turn (js_retL (y := (eK PyData.int PyData.int)) (Γσ := (fun (st : ((List (Int × Int)))) => [.o 1, .n, .v ((eP3 PyData.int (eT (eP2 PyData.int PyData.int)) (eT PyData.int)) chart), .n, .v ((eL PyData.int) fields), .k (eKs PyData.int PyData.int st), .n, .n, .n, .n, .n, .n, .v (PyData.int a), .n, .v (PyData.int b), .n, .n])) (JX.cv (f' := pu gos_34) (jx_fix (i := 5) (x := (eK PyData.int PyData.int)) gos_34 rfl) (by first | rfl | (simp only [WM.pu_bd, WM.bd_as, lf_pu, lf_puo]; done) | (simp only [WM.pu_bd, WM.bd_as, lf_pu, lf_puo]; rfl))) xo_ne))))) (js_go (y := (eK PyData.int PyData.int)) (Γσ := (fun (st : ((List (Int × Int)))) => [.o 1, .n, .v ((eP3 PyData.int (eT (eP2 PyData.int PyData.int)) (eT PyData.int)) chart), .n, .v ((eL PyData.int) fields), .k (eKs PyData.int PyData.int st), .n, .n, .n, .n, .n, .n, .v (PyData.int a), .n, .v (PyData.int b), .n, .n])) (fun _ => gos) (js_nil (Γ1 := fun _ => [.o 1, .n, .v ((eP3 PyData.int (eT (eP2 PyData.int PyData.int)) (eT PyData.int)) chart), .n, .v ((eL PyData.int) fields), .k (eKs PyData.int PyData.int gos), .n, .n, .n, .n, .n, .n, .v (PyData.int a), .n, .v (PyData.int b), .v (PyData.int c), .n]) () .refl) (fun _ => wkm [true, false, true, false, true, true, false, false, false, false, false, false, true, false, true, false, false] rfl)))
noncomputable def p3_lgos (chart : (Int × (List (Int × Int)) × (List Int))) (fields : (List Int)) (gos : (List (Int × Int))) (a : Int) (b : Int) : Dm (Tn ((List (Int × Int))) (List (Int × Int))) :=
  bd (bd (bd (lf (p_lbeside chart b)) fun x33 => bd (cmpM (fun (y30 : Int) => bd (lf (p_lbeside chart a)) fun x31 => pu (mem y30 x31)) (fun (y30 : Int) => pu y30) x33) fun r32 => lf (lim r32)) fun x38 => forT (fun (st36 : ((List (Int × Int)))) (y37 : Int) => p4_lgos chart fields st36 a b y37) x38 gos) (fiE (fun s39 => pu (Tn.go s39)) fun r40 => pu (Tn.rt r40))
theorem q3_lgos (R0 : Mm) (h0 : ∀ q, (DkD.m0 q ++ R0).all (MO.below (DkD.n + R0.length)) = true) (chart : (Int × (List (Int × Int)) × (List Int))) (fields : (List Int)) (gos : (List (Int × Int))) (a : Int) (b : Int) : JS (μ := Dm) (DkD.B R0 h0) [.o 1, .n, .v ((eP3 PyData.int (eT (eP2 PyData.int PyData.int)) (eT PyData.int)) chart), .n, .v ((eL PyData.int) fields), .k (eKs PyData.int PyData.int gos), .n, .n, .n, .n, .n, .n, .v (PyData.int a), .n, .v (PyData.int b), .n, .n] [] l1_lgos (p3_lgos chart fields gos a b) (Ks (DkD.B R0 h0) (fun (st : ((List (Int × Int)))) => [.o 1, .n, .v ((eP3 PyData.int (eT (eP2 PyData.int PyData.int)) (eT PyData.int)) chart), .n, .v ((eL PyData.int) fields), .k (eKs PyData.int PyData.int st), .n, .n, .n, .n, .n, .n, .v (PyData.int a), .n, .n, .n, .n]) (eK PyData.int PyData.int)) := by
  unfold p3_lgos l1_lgos
  exact (js_lastF Tn.rt kt_ks (fun s39 => Tn.go s39) (kn_ks (Γσ := (fun (st36 : ((List (Int × Int)))) => [.o 1, .n, .v ((eP3 PyData.int (eT (eP2 PyData.int PyData.int)) (eT PyData.int)) chart), .n, .v ((eL PyData.int) fields), .k (eKs PyData.int PyData.int st36), .n, .n, .n, .n, .n, .n, .v (PyData.int a), .n, .v (PyData.int b), .n, .n])) (Γτ := (fun (st : ((List (Int × Int)))) => [.o 1, .n, .v ((eP3 PyData.int (eT (eP2 PyData.int PyData.int)) (eT PyData.int)) chart), .n, .v ((eL PyData.int) fields), .k (eKs PyData.int PyData.int st), .n, .n, .n, .n, .n, .n, .v (PyData.int a), .n, .n, .n, .n])) (y := (eK PyData.int PyData.int)) (fun (s39 : ((List (Int × Int)))) => s39) (fun s39 => wkm [true, false, true, false, true, true, false, false, false, false, false, false, true, false, false, false, false] rfl)) (JS.cv (f' := bd (bd (lf (p_lbeside chart b)) fun x33 => bd (cmpM (fun (y30 : Int) => bd (lf (p_lbeside chart a)) fun x31 => pu (mem y30 x31)) (fun (y30 : Int) => pu y30) x33) fun r32 => lf (lim r32)) fun x38 => forT (fun (st36 : ((List (Int × Int)))) (y37 : Int) => p4_lgos chart fields st36 a b y37) x38 gos) (js_forT (enc := PyData.int) (Γσ := (fun (st36 : ((List (Int × Int)))) => [.o 1, .n, .v ((eP3 PyData.int (eT (eP2 PyData.int PyData.int)) (eT PyData.int)) chart), .n, .v ((eL PyData.int) fields), .k (eKs PyData.int PyData.int st36), .n, .n, .n, .n, .n, .n, .v (PyData.int a), .n, .v (PyData.int b), .n, .n])) (y := (eK PyData.int PyData.int)) (fb := fun (st36 : ((List (Int × Int)))) (y37 : Int) => p4_lgos chart fields st36 a b y37) gos (JI.cv (f' := bd (lf (p_lbeside chart b)) fun x33 => bd (cmpM (fun (y30 : Int) => bd (lf (p_lbeside chart a)) fun x31 => pu (mem y30 x31)) (fun (y30 : Int) => pu y30) x33) fun r32 => lf (lim r32)) (ji_list (enc := PyData.int) (jx_comp (enc := PyData.int) (y := PyData.int) (ft := fun (y30 : Int) => bd (lf (p_lbeside chart a)) fun x31 => pu (mem y30 x31)) (fe := fun (y30 : Int) => pu y30) (ji_list (enc := PyData.int) (jx_call (fun a => a) fp_lbeside (ja_cons (jx_var (i := 2) (x := (eP3 PyData.int (eT (eP2 PyData.int PyData.int)) (eT PyData.int))) chart rfl) (ja_cons (jx_var (i := 14) (x := PyData.int) b rfl) ja_nil)))) (fun y30 => jg_name) (fun y30 => (JT.cv (f' := bd (lf (p_lbeside chart a)) fun x31 => pu (mem y30 x31)) (jt_of (jx_op (xc := PyData.bool) (fun (p : Int) (q : (List Int)) => mem p q) (JX.ro (jx_var (i := 7) (x := PyData.int) y30 rfl)) (JX.ro (jx_call (fun a => a) fp_lbeside (ja_cons (jx_var (i := 2) (x := (eP3 PyData.int (eT (eP2 PyData.int PyData.int)) (eT PyData.int))) chart rfl) (ja_cons (jx_var (i := 12) (x := PyData.int) a rfl) ja_nil)))) (fun p q => o2_in eqe_I (by decide) p q))) (by first | rfl | (simp only [WM.pu_bd, WM.bd_as, lf_pu, lf_puo]; done) | (simp only [WM.pu_bd, WM.bd_as, lf_pu, lf_puo]; rfl)))) (fun y30 => (JX.cv (f' := pu y30) (jx_var (i := 7) (x := PyData.int) y30 rfl) (by first | rfl | (simp only [WM.pu_bd, WM.bd_as, lf_pu, lf_puo]; done) | (simp only [WM.pu_bd, WM.bd_as, lf_pu, lf_puo]; rfl)))))) (by first | rfl | (simp only [WM.pu_bd, WM.bd_as, lf_pu, lf_puo]; done) | (simp only [WM.pu_bd, WM.bd_as, lf_pu, lf_puo]; rfl))) xo_ne (wkm [true, false, true, false, true, true, false, false, false, false, false, false, true, false, true, false, false] rfl) (fun st36 y37 => jg_name) (fun st36 y37 => q4_lgos R0 h0 chart fields st36 a b y37)) (by first | rfl | (simp only [WM.pu_bd, WM.bd_as, lf_pu, lf_puo]; done) | (simp only [WM.pu_bd, WM.bd_as, lf_pu, lf_puo]; rfl))))
noncomputable def p2_lgos (chart : (Int × (List (Int × Int)) × (List Int))) (fields : (List Int)) (gos : (List (Int × Int))) (a : Int) : Dm (Tn ((List (Int × Int))) (List (Int × Int))) :=
  bd (bd (bd (lf (p_lbeside chart a)) fun x29 => lf (lim ((List.filter (fun (y28 : Int) => (mem y28 fields)) x29).map (fun (y28 : Int) => y28)))) fun x43 => forT (fun (st41 : ((List (Int × Int)))) (y42 : Int) => p3_lgos chart fields st41 a y42) x43 gos) (fiE (fun s44 => pu (Tn.go s44)) fun r45 => pu (Tn.rt r45))
theorem q2_lgos (R0 : Mm) (h0 : ∀ q, (DkD.m0 q ++ R0).all (MO.below (DkD.n + R0.length)) = true) (chart : (Int × (List (Int × Int)) × (List Int))) (fields : (List Int)) (gos : (List (Int × Int))) (a : Int) : JS (μ := Dm) (DkD.B R0 h0) [.o 1, .n, .v ((eP3 PyData.int (eT (eP2 PyData.int PyData.int)) (eT PyData.int)) chart), .n, .v ((eL PyData.int) fields), .k (eKs PyData.int PyData.int gos), .n, .n, .n, .n, .n, .n, .v (PyData.int a), .n, .n, .n, .n] [] l0_lgos (p2_lgos chart fields gos a) (Ks (DkD.B R0 h0) (fun (st : ((List (Int × Int)))) => [.o 1, .n, .v ((eP3 PyData.int (eT (eP2 PyData.int PyData.int)) (eT PyData.int)) chart), .n, .v ((eL PyData.int) fields), .k (eKs PyData.int PyData.int st), .n, .n, .n, .n, .n, .n, .n, .n, .n, .n, .n]) (eK PyData.int PyData.int)) := by
  unfold p2_lgos l0_lgos
  exact (js_lastF Tn.rt kt_ks (fun s44 => Tn.go s44) (kn_ks (Γσ := (fun (st41 : ((List (Int × Int)))) => [.o 1, .n, .v ((eP3 PyData.int (eT (eP2 PyData.int PyData.int)) (eT PyData.int)) chart), .n, .v ((eL PyData.int) fields), .k (eKs PyData.int PyData.int st41), .n, .n, .n, .n, .n, .n, .v (PyData.int a), .n, .n, .n, .n])) (Γτ := (fun (st : ((List (Int × Int)))) => [.o 1, .n, .v ((eP3 PyData.int (eT (eP2 PyData.int PyData.int)) (eT PyData.int)) chart), .n, .v ((eL PyData.int) fields), .k (eKs PyData.int PyData.int st), .n, .n, .n, .n, .n, .n, .n, .n, .n, .n, .n])) (y := (eK PyData.int PyData.int)) (fun (s44 : ((List (Int × Int)))) => s44) (fun s44 => wkm [true, false, true, false, true, true, false, false, false, false, false, false, false, false, false, false, false] rfl)) (JS.cv (f' := bd (bd (lf (p_lbeside chart a)) fun x29 => lf (lim ((List.filter (fun (y28 : Int) => (mem y28 fields)) x29).map (fun (y28 : Int) => y28)))) fun x43 => forT (fun (st41 : ((List (Int × Int)))) (y42 : Int) => p3_lgos chart fields st41 a y42) x43 gos) (js_forT (enc := PyData.int) (Γσ := (fun (st41 : ((List (Int × Int)))) => [.o 1, .n, .v ((eP3 PyData.int (eT (eP2 PyData.int PyData.int)) (eT PyData.int)) chart), .n, .v ((eL PyData.int) fields), .k (eKs PyData.int PyData.int st41), .n, .n, .n, .n, .n, .n, .v (PyData.int a), .n, .n, .n, .n])) (y := (eK PyData.int PyData.int)) (fb := fun (st41 : ((List (Int × Int)))) (y42 : Int) => p3_lgos chart fields st41 a y42) gos (JI.cv (f' := bd (lf (p_lbeside chart a)) fun x29 => lf (lim ((List.filter (fun (y28 : Int) => (mem y28 fields)) x29).map (fun (y28 : Int) => y28)))) (ji_list (enc := PyData.int) (JX.cv (jx_comp (enc := PyData.int) (y := PyData.int) (ft := fun (y28 : Int) => pu (mem y28 fields)) (fe := fun (y28 : Int) => pu y28) (ji_list (enc := PyData.int) (jx_call (fun a => a) fp_lbeside (ja_cons (jx_var (i := 2) (x := (eP3 PyData.int (eT (eP2 PyData.int PyData.int)) (eT PyData.int))) chart rfl) (ja_cons (jx_var (i := 12) (x := PyData.int) a rfl) ja_nil)))) (fun y28 => jg_name) (fun y28 => (JT.cv (f' := pu (mem y28 fields)) (jt_of (jx_op (xc := PyData.bool) (fun (p : Int) (q : (List Int)) => mem p q) (JX.ro (jx_var (i := 7) (x := PyData.int) y28 rfl)) (JX.ro (jx_var (i := 4) (x := (eL PyData.int)) fields rfl)) (fun p q => o2_in eqe_I (by decide) p q))) (by first | rfl | (simp only [WM.pu_bd, WM.bd_as, lf_pu, lf_puo]; done) | (simp only [WM.pu_bd, WM.bd_as, lf_pu, lf_puo]; rfl)))) (fun y28 => (JX.cv (f' := pu y28) (jx_var (i := 7) (x := PyData.int) y28 rfl) (by first | rfl | (simp only [WM.pu_bd, WM.bd_as, lf_pu, lf_puo]; done) | (simp only [WM.pu_bd, WM.bd_as, lf_pu, lf_puo]; rfl))))) (comp_pu (fun (y28 : Int) => (mem y28 fields)) (fun (y28 : Int) => y28)))) (by first | rfl | (simp only [WM.pu_bd, WM.bd_as, lf_pu, lf_puo]; done) | (simp only [WM.pu_bd, WM.bd_as, lf_pu, lf_puo]; rfl))) xo_ne (wkm [true, false, true, false, true, true, false, false, false, false, false, false, true, false, false, false, false] rfl) (fun st41 y42 => jg_name) (fun st41 y42 => q3_lgos R0 h0 chart fields st41 a y42)) (by first | rfl | (simp only [WM.pu_bd, WM.bd_as, lf_pu, lf_puo]; done) | (simp only [WM.pu_bd, WM.bd_as, lf_pu, lf_puo]; rfl))))
noncomputable def p_lgos (board : ((Int × (List (Int × Int)) × (List Int)) × (List (Int × Int)))) : Dm (List (Int × Int)) :=
  bd (pu board) fun a1 => bd (bd (lf (lim (List.map (fun (y2 : (Int × Int)) => y2.1) a1.2))) fun x4 => pu (x4, ([] : (List (Int × Int))), ([] : (List (Int × Int))), ())) fun a3 => bd (forM' (fun (st9 : ((List (Int × Int)))) (y10 : (Int × Int)) => p0_lgos a1.1 a1.2 a3.1 a3.2.1 st9 y10.1 y10.2) a1.2 a3.2.2.1) fun s11 => bd (if (!decide (s11 = ([] : (List (Int × Int))))) = true then bd (drawD (2 : Int)) fun x12 => pu (decide (x12 = (0 : Int))) else pu false) fun k51 => if k51 = true then bd (pickD s11) fun a13 => pu ([(a13.1, a13.2)]) else bd (forM' (fun (st24 : ((List (Int × Int)))) (y25 : Int) => p1_lgos a1.1 a3.1 st24 y25) a3.1 a3.2.1) fun s26 => bd (bd (drawD (6 : Int)) fun x27 => pu (decide (x27 = (0 : Int)))) fun k50 => if k50 = true then bd (forT (fun (st46 : ((List (Int × Int)))) (y47 : Int) => p2_lgos a1.1 a3.1 st46 y47) a3.1 s26) (fiE (fun s48 => pu s48) fun r49 => pu (r49)) else pu s26
theorem q_lgos (R0 : Mm) (h0 : ∀ q, (DkD.m0 q ++ R0).all (MO.below (DkD.n + R0.length)) = true) (board : ((Int × (List (Int × Int)) × (List Int)) × (List (Int × Int)))) : JS (μ := Dm) (DkD.B R0 h0) [.o 1, .v ((eP2 (eP3 PyData.int (eT (eP2 PyData.int PyData.int)) (eT PyData.int)) (eT (eP2 PyData.int PyData.int))) board), .n, .n, .n, .n, .n, .n, .n, .n, .n, .n, .n, .n, .n, .n, .n] [] b_lgos (p_lgos board) (Kr _ (eK PyData.int PyData.int)) := by
  unfold p_lgos b_lgos
  exact (js_seq (js_asgT (x := (eP2 (eP3 PyData.int (eT (eP2 PyData.int PyData.int)) (eT PyData.int)) (eT (eP2 PyData.int PyData.int)))) (JX.cv (f' := pu board) (jx_var (i := 1) (x := (eP2 (eP3 PyData.int (eT (eP2 PyData.int PyData.int)) (eT PyData.int)) (eT (eP2 PyData.int PyData.int)))) board rfl) (by first | rfl | (simp only [WM.pu_bd, WM.bd_as, lf_pu, lf_puo]; done) | (simp only [WM.pu_bd, WM.bd_as, lf_pu, lf_puo]; rfl))) (fun a1 => (jg_tup (jgs_cons jg_name (jgs_cons jg_name jgs_nil)))) xo_ne) (fun a1 => (js_seq (js_tup (α := (List Int) × (List (Int × Int)) × (List (Int × Int)) × Unit) [4, 5, 6] (sps := (fun a => [.v ((eL PyData.int) a.1), .k (eKs PyData.int PyData.int a.2.1), .v ((eL (eP2 PyData.int PyData.int)) a.2.2.1)])) (JA.cv (f' := bd (lf (lim (List.map (fun (y2 : (Int × Int)) => y2.1) a1.2))) fun x4 => pu (x4, ([] : (List (Int × Int))), ([] : (List (Int × Int))), ())) (ja_cons (JX.cv (jx_comp (enc := (eP2 PyData.int PyData.int)) (y := PyData.int) (ft := fun (y2 : (Int × Int)) => pu true) (fe := fun (y2 : (Int × Int)) => pu y2.1) (ji_tup (enc := (eP2 PyData.int PyData.int)) (jx_var (i := 3) (x := (eT (eP2 PyData.int PyData.int))) a1.2 rfl)) (fun y2 => (jg_tup (jgs_cons jg_name (jgs_cons jg_name jgs_nil)))) (fun y2 => (JT.cv (f' := pu true) jt_yes (by first | rfl | (simp only [WM.pu_bd, WM.bd_as, lf_pu, lf_puo]; done) | (simp only [WM.pu_bd, WM.bd_as, lf_pu, lf_puo]; rfl)))) (fun y2 => (JX.cv (f' := pu y2.1) (jx_var (i := 7) (x := PyData.int) y2.1 rfl) (by first | rfl | (simp only [WM.pu_bd, WM.bd_as, lf_pu, lf_puo]; done) | (simp only [WM.pu_bd, WM.bd_as, lf_pu, lf_puo]; rfl))))) (comp_pu1 (fun (y2 : (Int × Int)) => y2.1))) (ja_cons (JX.map (sp' := fun q => .k (eKs PyData.int PyData.int q)) jx_dctN (fun _ => ([] : (List (Int × Int)))) (fun _ => rfl)) (ja_cons (JX.mapV (y := (eL (eP2 PyData.int PyData.int))) (jx_lst (xs := fun _ => []) ja_nil) (fun _ => ([] : (List (Int × Int)))) (fun _ => rfl)) ja_nil))) (by first | rfl | (simp only [WM.pu_bd, WM.bd_as, lf_pu, lf_puo]; done) | (simp only [WM.pu_bd, WM.bd_as, lf_pu, lf_puo]; rfl))) xo_ne) (fun a3 => (js_seq (JS.cv (f' := forM' (fun (st9 : ((List (Int × Int)))) (y10 : (Int × Int)) => p0_lgos a1.1 a1.2 a3.1 a3.2.1 st9 y10.1 y10.2) a1.2 a3.2.2.1) (js_for (enc := (eP2 PyData.int PyData.int)) (Γσ := (fun (st9 : ((List (Int × Int)))) => [.o 1, .n, .v ((eP3 PyData.int (eT (eP2 PyData.int PyData.int)) (eT PyData.int)) a1.1), .v ((eT (eP2 PyData.int PyData.int)) a1.2), .v ((eL PyData.int) a3.1), .k (eKs PyData.int PyData.int a3.2.1), .v ((eL (eP2 PyData.int PyData.int)) st9), .n, .n, .n, .n, .n, .n, .n, .n, .n, .n]))  (fb := fun (st9 : ((List (Int × Int)))) (y10 : (Int × Int)) => p0_lgos a1.1 a1.2 a3.1 a3.2.1 st9 y10.1 y10.2) a3.2.2.1 (JI.cv (f' := pu a1.2) (ji_tup (enc := (eP2 PyData.int PyData.int)) (jx_var (i := 3) (x := (eT (eP2 PyData.int PyData.int))) a1.2 rfl)) (by first | rfl | (simp only [WM.pu_bd, WM.bd_as, lf_pu, lf_puo]; done) | (simp only [WM.pu_bd, WM.bd_as, lf_pu, lf_puo]; rfl))) xo_ne (wkm [true, false, true, true, true, true, true, false, false, false, false, false, false, false, false, false, false] rfl) (fun st9 y10 => (jg_tup (jgs_cons jg_name (jgs_cons jg_name jgs_nil)))) (fun st9 y10 => q0_lgos R0 h0 a1.1 a1.2 a3.1 a3.2.1 st9 y10.1 y10.2)) (by first | rfl | (simp only [WM.pu_bd, WM.bd_as, lf_pu, lf_puo]; done) | (simp only [WM.pu_bd, WM.bd_as, lf_pu, lf_puo]; rfl))) (fun s11 => (js_ifS (JT.cv (f' := if (!decide (s11 = ([] : (List (Int × Int))))) = true then bd (drawD (2 : Int)) fun x12 => pu (decide (x12 = (0 : Int))) else pu false) (JT.cv (f' := if (!decide (s11 = ([] : (List (Int × Int))))) = true then bd (drawD (2 : Int)) fun x12 => pu (decide (x12 = (0 : Int))) else pu false) (jt_and (jt_of (jx_op (xc := PyData.bool) (fun (p : (List (Int × Int))) (q : (List (Int × Int))) => !decide (p = q)) (JX.ro (jx_var (i := 6) (x := (eL (eP2 PyData.int PyData.int))) s11 rfl)) (JX.ro (JX.mapV (y := (eL (eP2 PyData.int PyData.int))) (jx_lst (xs := fun _ => []) ja_nil) (fun _ => ([] : (List (Int × Int)))) (fun _ => rfl))) (fun p q => o2_neE (eqe_L (eqe_P2 eqe_I eqe_I)) (by decide) p q))) (jt_of (jx_op (xc := PyData.bool) (fun (p : Int) (q : Int) => decide (p = q)) (JX.ro (jx_callD (fun a : Unit × Int × Unit => a.2) fd_ldraw (ja_cons (jx_obj (j := 1) (i := 0) rfl dk_nf) (ja_cons (jx_c (x := PyData.int) (2 : Int)) ja_nil)))) (JX.ro (jx_c (x := PyData.int) (0 : Int))) (fun p q => o2_eqI p q)))) rfl) (by first | rfl | (simp only [WM.pu_bd, WM.bd_as, lf_pu, lf_puo]; done) | (simp only [WM.pu_bd, WM.bd_as, lf_pu, lf_puo]; rfl))) xo_ne (JS.ret (js_end (js_seq (js_asgT (x := (eP2 PyData.int PyData.int)) (JX.cv (f' := pickD s11) (jx_callD (fun a : Unit × (List (Int × Int)) × Unit => a.2) (fd_lpick (eP2 PyData.int PyData.int)) (ja_cons (jx_obj (j := 1) (i := 0) rfl dk_nf) (ja_cons (jx_var (i := 6) (x := (eL (eP2 PyData.int PyData.int))) s11 rfl) ja_nil))) (by first | rfl | (simp only [WM.pu_bd, WM.bd_as, lf_pu, lf_puo]; done) | (simp only [WM.pu_bd, WM.bd_as, lf_pu, lf_puo]; rfl))) (fun a13 => (jg_tup (jgs_cons jg_name (jgs_cons jg_name jgs_nil)))) xo_ne) (fun a13 => (js_ret (y := (eK PyData.int PyData.int)) (JX.cv (f' := pu ([(a13.1, a13.2)])) (jx_disp1 key_int (ev := PyData.int) (jx_var (i := 10) (x := PyData.int) a13.1 rfl) (jx_var (i := 11) (x := PyData.int) a13.2 rfl)) (by first | rfl | (simp only [WM.pu_bd, WM.bd_as, lf_pu, lf_puo]; done) | (simp only [WM.pu_bd, WM.bd_as, lf_pu, lf_puo]; rfl))) xo_ne))) ends_kt)) (js_nilS (js_seq (JS.cv (f' := forM' (fun (st24 : ((List (Int × Int)))) (y25 : Int) => p1_lgos a1.1 a3.1 st24 y25) a3.1 a3.2.1) (js_for (enc := PyData.int) (Γσ := (fun (st24 : ((List (Int × Int)))) => [.o 1, .n, .v ((eP3 PyData.int (eT (eP2 PyData.int PyData.int)) (eT PyData.int)) a1.1), .n, .v ((eL PyData.int) a3.1), .k (eKs PyData.int PyData.int st24), .n, .n, .n, .n, .n, .n, .n, .n, .n, .n, .n]))  (fb := fun (st24 : ((List (Int × Int)))) (y25 : Int) => p1_lgos a1.1 a3.1 st24 y25) a3.2.1 (JI.cv (f' := pu a3.1) (ji_list (enc := PyData.int) (jx_var (i := 4) (x := (eL PyData.int)) a3.1 rfl)) (by first | rfl | (simp only [WM.pu_bd, WM.bd_as, lf_pu, lf_puo]; done) | (simp only [WM.pu_bd, WM.bd_as, lf_pu, lf_puo]; rfl))) xo_ne (wkm [true, false, true, false, true, true, false, false, false, false, false, false, false, false, false, false, false] rfl) (fun st24 y25 => jg_name) (fun st24 y25 => q1_lgos R0 h0 a1.1 a3.1 st24 y25)) (by first | rfl | (simp only [WM.pu_bd, WM.bd_as, lf_pu, lf_puo]; done) | (simp only [WM.pu_bd, WM.bd_as, lf_pu, lf_puo]; rfl))) (fun s26 => (js_ifS (JT.cv (f' := bd (drawD (6 : Int)) fun x27 => pu (decide (x27 = (0 : Int)))) (jt_of (jx_op (xc := PyData.bool) (fun (p : Int) (q : Int) => decide (p = q)) (JX.ro (jx_callD (fun a : Unit × Int × Unit => a.2) fd_ldraw (ja_cons (jx_obj (j := 1) (i := 0) rfl dk_nf) (ja_cons (jx_c (x := PyData.int) (6 : Int)) ja_nil)))) (JX.ro (jx_c (x := PyData.int) (0 : Int))) (fun p q => o2_eqI p q))) (by first | rfl | (simp only [WM.pu_bd, WM.bd_as, lf_pu, lf_puo]; done) | (simp only [WM.pu_bd, WM.bd_as, lf_pu, lf_puo]; rfl))) xo_ne (js_seqF id kt_kr (JS.cv (f' := forT (fun (st46 : ((List (Int × Int)))) (y47 : Int) => p2_lgos a1.1 a3.1 st46 y47) a3.1 s26) (js_forT (enc := PyData.int) (Γσ := (fun (st46 : ((List (Int × Int)))) => [.o 1, .n, .v ((eP3 PyData.int (eT (eP2 PyData.int PyData.int)) (eT PyData.int)) a1.1), .n, .v ((eL PyData.int) a3.1), .k (eKs PyData.int PyData.int st46), .n, .n, .n, .n, .n, .n, .n, .n, .n, .n, .n])) (y := (eK PyData.int PyData.int)) (fb := fun (st46 : ((List (Int × Int)))) (y47 : Int) => p2_lgos a1.1 a3.1 st46 y47) s26 (JI.cv (f' := pu a3.1) (ji_list (enc := PyData.int) (jx_var (i := 4) (x := (eL PyData.int)) a3.1 rfl)) (by first | rfl | (simp only [WM.pu_bd, WM.bd_as, lf_pu, lf_puo]; done) | (simp only [WM.pu_bd, WM.bd_as, lf_pu, lf_puo]; rfl))) xo_ne (wkm [true, false, true, false, true, true, false, false, false, false, false, false, false, false, false, false, false] rfl) (fun st46 y47 => jg_name) (fun st46 y47 => q2_lgos R0 h0 a1.1 a3.1 st46 y47)) (by first | rfl | (simp only [WM.pu_bd, WM.bd_as, lf_pu, lf_puo]; done) | (simp only [WM.pu_bd, WM.bd_as, lf_pu, lf_puo]; rfl))) (fun s48 => (js_ghK (i := 5) rfl (JS.ret (js_ret (y := (eK PyData.int PyData.int)) (JX.cv (f' := pu s48) (jx_fix (i := 5) (x := (eK PyData.int PyData.int)) s48 rfl) (by first | rfl | (simp only [WM.pu_bd, WM.bd_as, lf_pu, lf_puo]; done) | (simp only [WM.pu_bd, WM.bd_as, lf_pu, lf_puo]; rfl))) xo_ne))))) (js_nilS (js_ghK (i := 5) rfl (JS.ret (js_ret (y := (eK PyData.int PyData.int)) (JX.cv (f' := pu s26) (jx_fix (i := 5) (x := (eK PyData.int PyData.int)) s26 rfl) (by first | rfl | (simp only [WM.pu_bd, WM.bd_as, lf_pu, lf_puo]; done) | (simp only [WM.pu_bd, WM.bd_as, lf_pu, lf_puo]; rfl))) xo_ne)))))))))))))))
theorem fd_lgos : FnD DkD 1 d_lgos (fun a : ((Int × (List (Int × Int)) × (List Int)) × (List (Int × Int))) × Unit => p_lgos a.1) (fun a => [(eP2 (eP3 PyData.int (eT (eP2 PyData.int PyData.int)) (eT PyData.int)) (eT (eP2 PyData.int PyData.int))) a.1]) (eK PyData.int PyData.int) :=
  fnD_of (fun a => [.o 1, .v ((eP2 (eP3 PyData.int (eT (eP2 PyData.int PyData.int)) (eT PyData.int)) (eT (eP2 PyData.int PyData.int))) a.1), .n, .n, .n, .n, .n, .n, .n, .n, .n, .n, .n, .n, .n, .n, .n]) (fun a R0 h0 => q_lgos R0 h0 a.1)
noncomputable def p0_lorders (board : ((Int × (List (Int × Int)) × (List Int)) × (List (Int × Int)))) (gos : (List (Int × Int))) (told : (List PyData)) (place : Int) (field : Int) (player : Int) : Dm ((List PyData)) :=
  bd (pu ((dget gos field).isSome)) fun k32 => if k32 = true then bd (bd (bd (bd (lf (dget gos field)) fun x5 => pu ((("go" : Str), x5))) fun x6 => pu ((eP2 PyData.str PyData.int) x6)) fun x7 => lf (psh told x7)) fun told_4 => pu told_4 else bd (lf (p_lorders_of board place)) fun menu_8 => bd (bd (cmpM (fun (y10 : PyData) => bd (bd (lf (ixD y10 (0 : Int))) fun x11 => lf (eqO (eD x11) (PyData.str ("back" : Str)))) fun k16 => if k16 = true then bd (bd (bd (lf (ixD y10 (1 : Int))) fun x12 => lf (toI x12)) fun x13 => pu ((dget gos x13).getD (-(1 : Int)))) fun x14 => bd (lf (ixD y10 (2 : Int))) fun x15 => lf (eqO (PyData.int x14) (eD x15)) else pu false) (fun (y10 : PyData) => pu y10) menu_8) fun r17 => lf (lim r17)) fun good_9 => bd (bd (lf (neO ((eL eD) good_9) ((eL eD) []))) fun k25 => if k25 = true then pu good_9 else bd (cmpM (fun (y19 : PyData) => bd (bd (lf (ixD y19 (0 : Int))) fun x20 => lf (eqO (eD x20) (PyData.str ("back" : Str)))) fun k23 => if k23 = true then bd (lf (ixD y19 (1 : Int))) fun x21 => bd (lf (ixD y19 (2 : Int))) fun x22 => lf (eqO (eD x21) (eD x22)) else pu false) (fun (y19 : PyData) => pu y19) menu_8) fun r24 => lf (lim r24)) fun good_18 => bd (drawD (7 : Int)) fun way_26 => bd (bd (bd (lf (neO ((eL eD) good_18) ((eL eD) []))) fun k28 => if k28 = true then pu (decide (way_26 < (5 : Int))) else pu false) fun k29 => if k29 = true then pu good_18 else if (decide (way_26 = (5 : Int))) = true then pu menu_8 else pu (cutL menu_8 none (some (1 : Int)))) fun menu_27 => bd (bd (pickD menu_27) fun x31 => lf (psh told x31)) fun told_30 => pu (told_30)
theorem q0_lorders (R0 : Mm) (h0 : ∀ q, (DkD.m0 q ++ R0).all (MO.below (DkD.n + R0.length)) = true) (board : ((Int × (List (Int × Int)) × (List Int)) × (List (Int × Int)))) (gos : (List (Int × Int))) (told : (List PyData)) (place : Int) (field : Int) (player : Int) : JS (μ := Dm) (DkD.B R0 h0) [.o 1, .v ((eP2 (eP3 PyData.int (eT (eP2 PyData.int PyData.int)) (eT PyData.int)) (eT (eP2 PyData.int PyData.int))) board), .n, .n, .v ((eK PyData.int PyData.int) gos), .l (told.map eD), .v (PyData.int place), .v (PyData.int field), .v (PyData.int player), .n, .n, .n, .n] [] l0_lorders (p0_lorders board gos told place field player) (Kg (DkD.B R0 h0) (fun (st : ((List PyData))) => [.o 1, .v ((eP2 (eP3 PyData.int (eT (eP2 PyData.int PyData.int)) (eT PyData.int)) (eT (eP2 PyData.int PyData.int))) board), .n, .n, .v ((eK PyData.int PyData.int) gos), .l (st.map eD), .n, .n, .n, .n, .n, .n, .n])) := by
  unfold p0_lorders l0_lorders
  exact (js_ifS (JT.cv (f' := pu ((dget gos field).isSome)) (jt_of (jx_op (xc := PyData.bool) (fun (p : Int) (q : (List (Int × Int))) => (dget q p).isSome) (JX.ro (jx_var (i := 7) (x := PyData.int) field rfl)) (JX.ro (jx_var (i := 4) (x := (eK PyData.int PyData.int)) gos rfl)) (fun p q => o2_inK key_int p q))) (by first | rfl | (simp only [WM.pu_bd, WM.bd_as, lf_pu, lf_puo]; done) | (simp only [WM.pu_bd, WM.bd_as, lf_pu, lf_puo]; rfl))) xo_ne (JS.goes (js_end (js_seq (JS.cv (f' := bd (bd (bd (lf (dget gos field)) fun x5 => pu ((("go" : Str), x5))) fun x6 => pu ((eP2 PyData.str PyData.int) x6)) fun x7 => lf (psh told x7)) (js_append (i := 5) told (JX.mapV (y := eD) (JX.map (sp' := fun q => .v ((eP2 PyData.str PyData.int) q)) (jx_tup (xs := fun a : Str × Int × Unit => [PyData.str a.1, PyData.int a.2.1]) (ja_cons (jx_c (x := PyData.str) ("go" : Str)) (ja_cons (jx_opM (xc := PyData.int) (fun (p : (List (Int × Int))) (q : Int) => dget p q) (JX.ro (jx_var (i := 4) (x := (eK PyData.int PyData.int)) gos rfl)) (JX.ro (jx_var (i := 7) (x := PyData.int) field rfl)) (fun p q r h => o2_ixK key_int p q r h)) ja_nil))) (fun a : Str × Int × Unit => (a.1, a.2.1)) (fun _ => rfl)) (eP2 PyData.str PyData.int) (fun _ => rfl)) rfl xo_ne) (by first | rfl | (simp only [WM.pu_bd, WM.bd_as, lf_pu, lf_puo]; done) | (simp only [WM.pu_bd, WM.bd_as, lf_pu, lf_puo]; rfl))) (fun told_4 => (js_contG (Γσ := (fun (st : ((List PyData))) => [.o 1, .v ((eP2 (eP3 PyData.int (eT (eP2 PyData.int PyData.int)) (eT PyData.int)) (eT (eP2 PyData.int PyData.int))) board), .n, .n, .v ((eK PyData.int PyData.int) gos), .l (st.map eD), .n, .n, .n, .n, .n, .n, .n])) told_4 (wkm [true, true, false, false, true, true, false, false, false, false, false, false, false] rfl)))) ends_kgt)) (js_nilS (js_seq (js_asg (i := 9) (sp := fun q => .v ((eL eD) q)) (JX.cv (f' := lf (p_lorders_of board place)) (jx_call (fun a => a) fp_lorders_of (ja_cons (jx_var (i := 1) (x := (eP2 (eP3 PyData.int (eT (eP2 PyData.int PyData.int)) (eT PyData.int)) (eT (eP2 PyData.int PyData.int)))) board rfl) (ja_cons (jx_var (i := 6) (x := PyData.int) place rfl) ja_nil))) (by first | rfl | (simp only [WM.pu_bd, WM.bd_as, lf_pu, lf_puo]; done) | (simp only [WM.pu_bd, WM.bd_as, lf_pu, lf_puo]; rfl))) xo_ne) (fun menu_8 => (js_seq (js_asg (i := 10) (sp := fun q => .v ((eL eD) q)) (JX.cv (f' := bd (cmpM (fun (y10 : PyData) => bd (bd (lf (ixD y10 (0 : Int))) fun x11 => lf (eqO (eD x11) (PyData.str ("back" : Str)))) fun k16 => if k16 = true then bd (bd (bd (lf (ixD y10 (1 : Int))) fun x12 => lf (toI x12)) fun x13 => pu ((dget gos x13).getD (-(1 : Int)))) fun x14 => bd (lf (ixD y10 (2 : Int))) fun x15 => lf (eqO (PyData.int x14) (eD x15)) else pu false) (fun (y10 : PyData) => pu y10) menu_8) fun r17 => lf (lim r17)) (jx_comp (enc := eD) (y := eD) (ft := fun (y10 : PyData) => bd (bd (lf (ixD y10 (0 : Int))) fun x11 => lf (eqO (eD x11) (PyData.str ("back" : Str)))) fun k16 => if k16 = true then bd (bd (bd (lf (ixD y10 (1 : Int))) fun x12 => lf (toI x12)) fun x13 => pu ((dget gos x13).getD (-(1 : Int)))) fun x14 => bd (lf (ixD y10 (2 : Int))) fun x15 => lf (eqO (PyData.int x14) (eD x15)) else pu false) (fe := fun (y10 : PyData) => pu y10) (ji_list (enc := eD) (jx_var (i := 9) (x := (eL eD)) menu_8 rfl)) (fun y10 => jg_name) (fun y10 => (JT.cv (f' := bd (bd (lf (ixD y10 (0 : Int))) fun x11 => lf (eqO (eD x11) (PyData.str ("back" : Str)))) fun k16 => if k16 = true then bd (bd (bd (lf (ixD y10 (1 : Int))) fun x12 => lf (toI x12)) fun x13 => pu ((dget gos x13).getD (-(1 : Int)))) fun x14 => bd (lf (ixD y10 (2 : Int))) fun x15 => lf (eqO (PyData.int x14) (eD x15)) else pu false) (JT.cv (f' := bd (bd (lf (ixD y10 (0 : Int))) fun x11 => lf (eqO (eD x11) (PyData.str ("back" : Str)))) fun k16 => if k16 = true then bd (bd (bd (lf (ixD y10 (1 : Int))) fun x12 => lf (toI x12)) fun x13 => pu ((dget gos x13).getD (-(1 : Int)))) fun x14 => bd (lf (ixD y10 (2 : Int))) fun x15 => lf (eqO (PyData.int x14) (eD x15)) else pu false) (jt_and (jt_of (jx_opM (xc := PyData.bool) (fun (p : PyData) (q : Str) => eqO (eD p) (PyData.str q)) (JX.ro (jx_opM (xc := eD) (fun (p : PyData) (q : Int) => ixD p q) (JX.ro (jx_var (i := 12) (x := eD) y10 rfl)) (JX.ro (jx_c (x := PyData.int) (0 : Int))) (fun p q r h => o2_ixD p q r h))) (JX.ro (jx_c (x := PyData.str) ("back" : Str))) (fun p q r h => o2_eqD _ _ r h))) (jt_of (jx_opM (xc := PyData.bool) (fun (p : Int) (q : PyData) => eqO (PyData.int p) (eD q)) (JX.ro (jx_get2 key_int (JX.ro (jx_var (i := 4) (x := (eK PyData.int PyData.int)) gos rfl)) (JX.down (y := PyData.int) (jx_opM (xc := eD) (fun (p : PyData) (q : Int) => ixD p q) (JX.ro (jx_var (i := 12) (x := eD) y10 rfl)) (JX.ro (jx_c (x := PyData.int) (1 : Int))) (fun p q r h => o2_ixD p q r h)) toI dec_I) (jx_neg (JX.ro (jx_c (x := PyData.int) (1 : Int)))))) (JX.ro (jx_opM (xc := eD) (fun (p : PyData) (q : Int) => ixD p q) (JX.ro (jx_var (i := 12) (x := eD) y10 rfl)) (JX.ro (jx_c (x := PyData.int) (2 : Int))) (fun p q r h => o2_ixD p q r h))) (fun p q r h => o2_eqD _ _ r h)))) rfl) (by first | rfl | (simp only [WM.pu_bd, WM.bd_as, lf_pu, lf_puo]; done) | (simp only [WM.pu_bd, WM.bd_as, lf_pu, lf_puo]; rfl)))) (fun y10 => (JX.cv (f' := pu y10) (jx_var (i := 12) (x := eD) y10 rfl) (by first | rfl | (simp only [WM.pu_bd, WM.bd_as, lf_pu, lf_puo]; done) | (simp only [WM.pu_bd, WM.bd_as, lf_pu, lf_puo]; rfl))))) (by first | rfl | (simp only [WM.pu_bd, WM.bd_as, lf_pu, lf_puo]; done) | (simp only [WM.pu_bd, WM.bd_as, lf_pu, lf_puo]; rfl))) xo_ne) (fun good_9 => (js_seq (js_asg (i := 10) (sp := fun q => .v ((eL eD) q)) (JX.cv (f' := bd (lf (neO ((eL eD) good_9) ((eL eD) []))) fun k25 => if k25 = true then pu good_9 else bd (cmpM (fun (y19 : PyData) => bd (bd (lf (ixD y19 (0 : Int))) fun x20 => lf (eqO (eD x20) (PyData.str ("back" : Str)))) fun k23 => if k23 = true then bd (lf (ixD y19 (1 : Int))) fun x21 => bd (lf (ixD y19 (2 : Int))) fun x22 => lf (eqO (eD x21) (eD x22)) else pu false) (fun (y19 : PyData) => pu y19) menu_8) fun r24 => lf (lim r24)) (jx_if (jt_of (jx_opM (xc := PyData.bool) (fun (p : (List PyData)) (q : (List PyData)) => neO ((eL eD) p) ((eL eD) q)) (JX.ro (jx_var (i := 10) (x := (eL eD)) good_9 rfl)) (JX.ro (JX.map (sp' := fun q => .v (eL eD q)) (jx_lst (xs := fun _ => []) ja_nil) (fun _ => ([] : List PyData)) (fun _ => rfl))) (fun p q r h => o2_neD _ _ r h))) (JX.cv (f' := pu good_9) (jx_var (i := 10) (x := (eL eD)) good_9 rfl) (by first | rfl | (simp only [WM.pu_bd, WM.bd_as, lf_pu, lf_puo]; done) | (simp only [WM.pu_bd, WM.bd_as, lf_pu, lf_puo]; rfl))) (JX.cv (f' := bd (cmpM (fun (y19 : PyData) => bd (bd (lf (ixD y19 (0 : Int))) fun x20 => lf (eqO (eD x20) (PyData.str ("back" : Str)))) fun k23 => if k23 = true then bd (lf (ixD y19 (1 : Int))) fun x21 => bd (lf (ixD y19 (2 : Int))) fun x22 => lf (eqO (eD x21) (eD x22)) else pu false) (fun (y19 : PyData) => pu y19) menu_8) fun r24 => lf (lim r24)) (jx_comp (enc := eD) (y := eD) (ft := fun (y19 : PyData) => bd (bd (lf (ixD y19 (0 : Int))) fun x20 => lf (eqO (eD x20) (PyData.str ("back" : Str)))) fun k23 => if k23 = true then bd (lf (ixD y19 (1 : Int))) fun x21 => bd (lf (ixD y19 (2 : Int))) fun x22 => lf (eqO (eD x21) (eD x22)) else pu false) (fe := fun (y19 : PyData) => pu y19) (ji_list (enc := eD) (jx_var (i := 9) (x := (eL eD)) menu_8 rfl)) (fun y19 => jg_name) (fun y19 => (JT.cv (f' := bd (bd (lf (ixD y19 (0 : Int))) fun x20 => lf (eqO (eD x20) (PyData.str ("back" : Str)))) fun k23 => if k23 = true then bd (lf (ixD y19 (1 : Int))) fun x21 => bd (lf (ixD y19 (2 : Int))) fun x22 => lf (eqO (eD x21) (eD x22)) else pu false) (JT.cv (f' := bd (bd (lf (ixD y19 (0 : Int))) fun x20 => lf (eqO (eD x20) (PyData.str ("back" : Str)))) fun k23 => if k23 = true then bd (lf (ixD y19 (1 : Int))) fun x21 => bd (lf (ixD y19 (2 : Int))) fun x22 => lf (eqO (eD x21) (eD x22)) else pu false) (jt_and (jt_of (jx_opM (xc := PyData.bool) (fun (p : PyData) (q : Str) => eqO (eD p) (PyData.str q)) (JX.ro (jx_opM (xc := eD) (fun (p : PyData) (q : Int) => ixD p q) (JX.ro (jx_var (i := 12) (x := eD) y19 rfl)) (JX.ro (jx_c (x := PyData.int) (0 : Int))) (fun p q r h => o2_ixD p q r h))) (JX.ro (jx_c (x := PyData.str) ("back" : Str))) (fun p q r h => o2_eqD _ _ r h))) (jt_of (jx_opM (xc := PyData.bool) (fun (p : PyData) (q : PyData) => eqO (eD p) (eD q)) (JX.ro (jx_opM (xc := eD) (fun (p : PyData) (q : Int) => ixD p q) (JX.ro (jx_var (i := 12) (x := eD) y19 rfl)) (JX.ro (jx_c (x := PyData.int) (1 : Int))) (fun p q r h => o2_ixD p q r h))) (JX.ro (jx_opM (xc := eD) (fun (p : PyData) (q : Int) => ixD p q) (JX.ro (jx_var (i := 12) (x := eD) y19 rfl)) (JX.ro (jx_c (x := PyData.int) (2 : Int))) (fun p q r h => o2_ixD p q r h))) (fun p q r h => o2_eqD _ _ r h)))) rfl) (by first | rfl | (simp only [WM.pu_bd, WM.bd_as, lf_pu, lf_puo]; done) | (simp only [WM.pu_bd, WM.bd_as, lf_pu, lf_puo]; rfl)))) (fun y19 => (JX.cv (f' := pu y19) (jx_var (i := 12) (x := eD) y19 rfl) (by first | rfl | (simp only [WM.pu_bd, WM.bd_as, lf_pu, lf_puo]; done) | (simp only [WM.pu_bd, WM.bd_as, lf_pu, lf_puo]; rfl))))) (by first | rfl | (simp only [WM.pu_bd, WM.bd_as, lf_pu, lf_puo]; done) | (simp only [WM.pu_bd, WM.bd_as, lf_pu, lf_puo]; rfl)))) (by first | rfl | (simp only [WM.pu_bd, WM.bd_as, lf_pu, lf_puo]; done) | (simp only [WM.pu_bd, WM.bd_as, lf_pu, lf_puo]; rfl))) xo_ne) (fun good_18 => (js_seq (js_asg (i := 11) (sp := fun q => .v (PyData.int q)) (JX.cv (f' := drawD (7 : Int)) (jx_callD (fun a : Unit × Int × Unit => a.2) fd_ldraw (ja_cons (jx_obj (j := 1) (i := 0) rfl dk_nf) (ja_cons (jx_c (x := PyData.int) (7 : Int)) ja_nil))) (by first | rfl | (simp only [WM.pu_bd, WM.bd_as, lf_pu, lf_puo]; done) | (simp only [WM.pu_bd, WM.bd_as, lf_pu, lf_puo]; rfl))) xo_ne) (fun way_26 => (js_seq (js_asg (i := 9) (sp := fun q => .v ((eL eD) q)) (JX.cv (f' := bd (bd (lf (neO ((eL eD) good_18) ((eL eD) []))) fun k28 => if k28 = true then pu (decide (way_26 < (5 : Int))) else pu false) fun k29 => if k29 = true then pu good_18 else if (decide (way_26 = (5 : Int))) = true then pu menu_8 else pu (cutL menu_8 none (some (1 : Int)))) (jx_if (JT.cv (f' := bd (lf (neO ((eL eD) good_18) ((eL eD) []))) fun k28 => if k28 = true then pu (decide (way_26 < (5 : Int))) else pu false) (jt_and (jt_of (jx_opM (xc := PyData.bool) (fun (p : (List PyData)) (q : (List PyData)) => neO ((eL eD) p) ((eL eD) q)) (JX.ro (jx_var (i := 10) (x := (eL eD)) good_18 rfl)) (JX.ro (JX.map (sp' := fun q => .v (eL eD q)) (jx_lst (xs := fun _ => []) ja_nil) (fun _ => ([] : List PyData)) (fun _ => rfl))) (fun p q r h => o2_neD _ _ r h))) (jt_of (jx_op (xc := PyData.bool) (fun (p : Int) (q : Int) => decide (p < q)) (JX.ro (jx_var (i := 11) (x := PyData.int) way_26 rfl)) (JX.ro (jx_c (x := PyData.int) (5 : Int))) (fun p q => o2_lt p q)))) rfl) (JX.cv (f' := pu good_18) (jx_var (i := 10) (x := (eL eD)) good_18 rfl) (by first | rfl | (simp only [WM.pu_bd, WM.bd_as, lf_pu, lf_puo]; done) | (simp only [WM.pu_bd, WM.bd_as, lf_pu, lf_puo]; rfl))) (JX.cv (f' := if (decide (way_26 = (5 : Int))) = true then pu menu_8 else pu (cutL menu_8 none (some (1 : Int)))) (jx_if (jt_of (jx_op (xc := PyData.bool) (fun (p : Int) (q : Int) => decide (p = q)) (JX.ro (jx_var (i := 11) (x := PyData.int) way_26 rfl)) (JX.ro (jx_c (x := PyData.int) (5 : Int))) (fun p q => o2_eqI p q))) (JX.cv (f' := pu menu_8) (jx_var (i := 9) (x := (eL eD)) menu_8 rfl) (by first | rfl | (simp only [WM.pu_bd, WM.bd_as, lf_pu, lf_puo]; done) | (simp only [WM.pu_bd, WM.bd_as, lf_pu, lf_puo]; rfl))) (JX.cv (f' := pu (cutL menu_8 none (some (1 : Int)))) (jx_sliceT (y := (eL eD)) cutL (JX.ro (jx_var (i := 9) (x := (eL eD)) menu_8 rfl)) jn_none (jn_some (jx_c (x := PyData.int) (1 : Int))) (fun a lo hi v M r => sl_L a lo hi v M r)) (by first | rfl | (simp only [WM.pu_bd, WM.bd_as, lf_pu, lf_puo]; done) | (simp only [WM.pu_bd, WM.bd_as, lf_pu, lf_puo]; rfl)))) (by first | rfl | (simp only [WM.pu_bd, WM.bd_as, lf_pu, lf_puo]; done) | (simp only [WM.pu_bd, WM.bd_as, lf_pu, lf_puo]; rfl)))) (by first | rfl | (simp only [WM.pu_bd, WM.bd_as, lf_pu, lf_puo]; done) | (simp only [WM.pu_bd, WM.bd_as, lf_pu, lf_puo]; rfl))) xo_ne) (fun menu_27 => (js_goG (Γσ := (fun (st : ((List PyData))) => [.o 1, .v ((eP2 (eP3 PyData.int (eT (eP2 PyData.int PyData.int)) (eT PyData.int)) (eT (eP2 PyData.int PyData.int))) board), .n, .n, .v ((eK PyData.int PyData.int) gos), .l (st.map eD), .n, .n, .n, .n, .n, .n, .n])) (fun told_30 => told_30) (JS.cv (f' := bd (pickD menu_27) fun x31 => lf (psh told x31)) (js_append (i := 5) told (jx_callD (fun a : Unit × (List PyData) × Unit => a.2) (fd_lpick eD) (ja_cons (jx_obj (j := 1) (i := 0) rfl dk_nf) (ja_cons (jx_var (i := 9) (x := (eL eD)) menu_27 rfl) ja_nil))) rfl xo_ne) (by first | rfl | (simp only [WM.pu_bd, WM.bd_as, lf_pu, lf_puo]; done) | (simp only [WM.pu_bd, WM.bd_as, lf_pu, lf_puo]; rfl))) (fun told_30 => wkm [true, true, false, false, true, true, false, false, false, false, false, false, false] rfl))))))))))))))
noncomputable def p_lorders (board : ((Int × (List (Int × Int)) × (List Int)) × (List (Int × Int)))) : Dm (List PyData) :=
  bd (pu board) fun a1 => bd (bd (p_lgos board) fun x3 => pu (x3, (([] : (List PyData))), ())) fun a2 => bd (forM' (fun (st33 : ((List PyData))) (y34 : (Int × (Int × Int))) => p0_lorders board a2.1 st33 y34.1 y34.2.1 y34.2.2) (enu a1.2) a2.2.1) fun s35 => pu (s35)
theorem q_lorders (R0 : Mm) (h0 : ∀ q, (DkD.m0 q ++ R0).all (MO.below (DkD.n + R0.length)) = true) (board : ((Int × (List (Int × Int)) × (List Int)) × (List (Int × Int)))) : JS (μ := Dm) (DkD.B R0 h0) [.o 1, .v ((eP2 (eP3 PyData.int (eT (eP2 PyData.int PyData.int)) (eT PyData.int)) (eT (eP2 PyData.int PyData.int))) board), .n, .n, .n, .n, .n, .n, .n, .n, .n, .n, .n] [] b_lorders (p_lorders board) (Kr _ (eT eD)) := by
  unfold p_lorders b_lorders
  exact (js_seq (js_asgT (x := (eP2 (eP3 PyData.int (eT (eP2 PyData.int PyData.int)) (eT PyData.int)) (eT (eP2 PyData.int PyData.int)))) (JX.cv (f' := pu board) (jx_var (i := 1) (x := (eP2 (eP3 PyData.int (eT (eP2 PyData.int PyData.int)) (eT PyData.int)) (eT (eP2 PyData.int PyData.int)))) board rfl) (by first | rfl | (simp only [WM.pu_bd, WM.bd_as, lf_pu, lf_puo]; done) | (simp only [WM.pu_bd, WM.bd_as, lf_pu, lf_puo]; rfl))) (fun a1 => (jg_tup (jgs_cons jg_name (jgs_cons jg_name jgs_nil)))) xo_ne) (fun a1 => (js_seq (js_tup (α := (List (Int × Int)) × (List PyData) × Unit) [4, 5] (sps := (fun a => [.v ((eK PyData.int PyData.int) a.1), .l (a.2.1.map eD)])) (JA.cv (f' := bd (p_lgos board) fun x3 => pu (x3, (([] : (List PyData))), ())) (ja_cons (jx_callD (fun a : Unit × ((Int × (List (Int × Int)) × (List Int)) × (List (Int × Int))) × Unit => a.2) fd_lgos (ja_cons (jx_obj (j := 1) (i := 0) rfl dk_nf) (ja_cons (jx_var (i := 1) (x := (eP2 (eP3 PyData.int (eT (eP2 PyData.int PyData.int)) (eT PyData.int)) (eT (eP2 PyData.int PyData.int)))) board rfl) ja_nil))) (ja_cons (JX.map (sp' := fun q => .l (List.map eD q)) (jx_new (xs := fun a : Unit => []) ja_nil) (fun a : Unit => ([] : (List PyData))) (fun _ => rfl)) ja_nil)) (by first | rfl | (simp only [WM.pu_bd, WM.bd_as, lf_pu, lf_puo]; done) | (simp only [WM.pu_bd, WM.bd_as, lf_pu, lf_puo]; rfl))) xo_ne) (fun a2 => (js_seq (JS.cv (f' := forM' (fun (st33 : ((List PyData))) (y34 : (Int × (Int × Int))) => p0_lorders board a2.1 st33 y34.1 y34.2.1 y34.2.2) (enu a1.2) a2.2.1) (js_for (enc := (eP2 PyData.int (eP2 PyData.int PyData.int))) (Γσ := (fun (st33 : ((List PyData))) => [.o 1, .v ((eP2 (eP3 PyData.int (eT (eP2 PyData.int PyData.int)) (eT PyData.int)) (eT (eP2 PyData.int PyData.int))) board), .n, .n, .v ((eK PyData.int PyData.int) a2.1), .l (st33.map eD), .n, .n, .n, .n, .n, .n, .n]))  (fb := fun (st33 : ((List PyData))) (y34 : (Int × (Int × Int))) => p0_lorders board a2.1 st33 y34.1 y34.2.1 y34.2.2) a2.2.1 (JI.cv (f' := pu (enu a1.2)) (ji_enu (enc := (eP2 PyData.int PyData.int)) (x := (eT (eP2 PyData.int PyData.int))) (jx_var (i := 3) (x := (eT (eP2 PyData.int PyData.int))) a1.2 rfl) (fun _ => .inr rfl)) (by first | rfl | (simp only [WM.pu_bd, WM.bd_as, lf_pu, lf_puo]; done) | (simp only [WM.pu_bd, WM.bd_as, lf_pu, lf_puo]; rfl))) xo_ne (wkm [true, true, false, false, true, true, false, false, false, false, false, false, false] rfl) (fun st33 y34 => (jg_tup (jgs_cons jg_name (jgs_cons (jg_tup (jgs_cons jg_name (jgs_cons jg_name jgs_nil))) jgs_nil)))) (fun st33 y34 => q0_lorders R0 h0 board a2.1 st33 y34.1 y34.2.1 y34.2.2)) (by first | rfl | (simp only [WM.pu_bd, WM.bd_as, lf_pu, lf_puo]; done) | (simp only [WM.pu_bd, WM.bd_as, lf_pu, lf_puo]; rfl))) (fun s35 => (JS.ret (js_ret (y := (eT eD)) (JX.cv (f' := pu (s35)) (jx_read (y := (eT eD)) (fun a => a) (jo_list (i := 5) (x := (eL eD)) s35 rfl) (fun a v M r => cz_tupL a v M r)) (by first | rfl | (simp only [WM.pu_bd, WM.bd_as, lf_pu, lf_puo]; done) | (simp only [WM.pu_bd, WM.bd_as, lf_pu, lf_puo]; rfl))) xo_ne))))))))
theorem fd_lorders : FnD DkD 1 d_lorders (fun a : ((Int × (List (Int × Int)) × (List Int)) × (List (Int × Int))) × Unit => p_lorders a.1) (fun a => [(eP2 (eP3 PyData.int (eT (eP2 PyData.int PyData.int)) (eT PyData.int)) (eT (eP2 PyData.int PyData.int))) a.1]) (eT eD) :=
  fnD_of (fun a => [.o 1, .v ((eP2 (eP3 PyData.int (eT (eP2 PyData.int PyData.int)) (eT PyData.int)) (eT (eP2 PyData.int PyData.int))) a.1), .n, .n, .n, .n, .n, .n, .n, .n, .n, .n, .n]) (fun a R0 h0 => q_lorders R0 h0 a.1)
noncomputable def p_lboard (fields : Int) (many : Int) : Dm ((Int × (List (Int × Int)) × (List Int)) × (List (Int × Int))) :=
  bd (bd (bd (drawD (4 : Int)) fun x2 => pu ((1 : Int) + x2)) fun x3 => p_lchart fields x3) fun chart_1 => bd (p_lpieces chart_1 many) fun x4 => pu ((chart_1, x4))
theorem q_lboard (R0 : Mm) (h0 : ∀ q, (DkD.m0 q ++ R0).all (MO.below (DkD.n + R0.length)) = true) (fields : Int) (many : Int) : JS (μ := Dm) (DkD.B R0 h0) [.o 1, .v (PyData.int fields), .v (PyData.int many), .n] [] b_lboard (p_lboard fields many) (Kr _ (eP2 (eP3 PyData.int (eT (eP2 PyData.int PyData.int)) (eT PyData.int)) (eT (eP2 PyData.int PyData.int)))) := by
  unfold p_lboard b_lboard
  exact (js_seq (js_asg (i := 3) (sp := fun q => .v ((eP3 PyData.int (eT (eP2 PyData.int PyData.int)) (eT PyData.int)) q)) (JX.cv (f' := bd (bd (drawD (4 : Int)) fun x2 => pu ((1 : Int) + x2)) fun x3 => p_lchart fields x3) (jx_callD (fun a : Unit × Int × Int × Unit => a.2) fd_lchart (ja_cons (jx_obj (j := 1) (i := 0) rfl dk_nf) (ja_cons (jx_var (i := 1) (x := PyData.int) fields rfl) (ja_cons (jx_op (xc := PyData.int) (fun (p : Int) (q : Int) => p + q) (JX.ro (jx_c (x := PyData.int) (1 : Int))) (JX.ro (jx_callD (fun a : Unit × Int × Unit => a.2) fd_ldraw (ja_cons (jx_obj (j := 1) (i := 0) rfl dk_nf) (ja_cons (jx_c (x := PyData.int) (4 : Int)) ja_nil)))) (fun p q => o2_add p q)) ja_nil)))) (by first | rfl | (simp only [WM.pu_bd, WM.bd_as, lf_pu, lf_puo]; done) | (simp only [WM.pu_bd, WM.bd_as, lf_pu, lf_puo]; rfl))) xo_ne) (fun chart_1 => (JS.ret (js_ret (y := (eP2 (eP3 PyData.int (eT (eP2 PyData.int PyData.int)) (eT PyData.int)) (eT (eP2 PyData.int PyData.int)))) (JX.cv (f' := bd (p_lpieces chart_1 many) fun x4 => pu ((chart_1, x4))) (JX.map (sp' := fun q => .v ((eP2 (eP3 PyData.int (eT (eP2 PyData.int PyData.int)) (eT PyData.int)) (eT (eP2 PyData.int PyData.int))) q)) (jx_tup (xs := fun a : (Int × (List (Int × Int)) × (List Int)) × (List (Int × Int)) × Unit => [(eP3 PyData.int (eT (eP2 PyData.int PyData.int)) (eT PyData.int)) a.1, (eT (eP2 PyData.int PyData.int)) a.2.1]) (ja_cons (jx_var (i := 3) (x := (eP3 PyData.int (eT (eP2 PyData.int PyData.int)) (eT PyData.int))) chart_1 rfl) (ja_cons (jx_callD (fun a : Unit × (Int × (List (Int × Int)) × (List Int)) × Int × Unit => a.2) fd_lpieces (ja_cons (jx_obj (j := 1) (i := 0) rfl dk_nf) (ja_cons (jx_var (i := 3) (x := (eP3 PyData.int (eT (eP2 PyData.int PyData.int)) (eT PyData.int))) chart_1 rfl) (ja_cons (jx_var (i := 2) (x := PyData.int) many rfl) ja_nil)))) ja_nil))) (fun a : (Int × (List (Int × Int)) × (List Int)) × (List (Int × Int)) × Unit => (a.1, a.2.1)) (fun _ => rfl)) (by first | rfl | (simp only [WM.pu_bd, WM.bd_as, lf_pu, lf_puo]; done) | (simp only [WM.pu_bd, WM.bd_as, lf_pu, lf_puo]; rfl))) xo_ne))))
theorem fd_lboard : FnD DkD 1 d_lboard (fun a : Int × Int × Unit => p_lboard a.1 a.2.1) (fun a => [PyData.int a.1, PyData.int a.2.1]) (eP2 (eP3 PyData.int (eT (eP2 PyData.int PyData.int)) (eT PyData.int)) (eT (eP2 PyData.int PyData.int))) :=
  fnD_of (fun a => [.o 1, .v (PyData.int a.1), .v (PyData.int a.2.1), .n]) (fun a R0 h0 => q_lboard R0 h0 a.1 a.2.1)
noncomputable def p1_law (board : ((Int × (List (Int × Int)) × (List Int)) × (List (Int × Int)))) (orders : (List PyData)) (tried : (List (List PyData))) (spot : Int) (order : PyData) : Dm ((List (List PyData))) :=
  bd (bd (lf (ixD order (0 : Int))) fun x9 => lf (eqO (eD x9) (PyData.str ("back" : Str)))) fun k13 => if k13 = true then bd (bd (bd (lf (catO (cutL orders none (some spot)) ((fun p : (PyData) => [p]) (order)))) fun x11 => lf (catO x11 (cutL orders (some (spot + (1 : Int))) none))) fun x12 => lf (psh tried x12)) fun tried_10 => pu (tried_10) else bd (pu ()) fun _ => pu (tried)
theorem q1_law (R0 : Mm) (h0 : ∀ q, (DkD.m0 q ++ R0).all (MO.below (DkD.n + R0.length)) = true) (board : ((Int × (List (Int × Int)) × (List Int)) × (List (Int × Int)))) (orders : (List PyData)) (tried : (List (List PyData))) (spot : Int) (order : PyData) : JS (μ := Dm) (DkD.B R0 h0) [.s ns, .o 1, .n, .v ((eP2 (eP3 PyData.int (eT (eP2 PyData.int PyData.int)) (eT PyData.int)) (eT (eP2 PyData.int PyData.int))) board), .v ((eT eD) orders), .l (tried.map (eT eD)), .v (PyData.int spot), .v (eD order), .n, .n, .n, .n, .n] [] l3_law (p1_law board orders tried spot order) (Kg (DkD.B R0 h0) (fun (st : ((List (List PyData)))) => [.s ns, .o 1, .n, .v ((eP2 (eP3 PyData.int (eT (eP2 PyData.int PyData.int)) (eT PyData.int)) (eT (eP2 PyData.int PyData.int))) board), .v ((eT eD) orders), .l (st.map (eT eD)), .v (PyData.int spot), .n, .n, .n, .n, .n, .n])) := by
  unfold p1_law l3_law
  exact (js_if (JT.cv (f' := bd (lf (ixD order (0 : Int))) fun x9 => lf (eqO (eD x9) (PyData.str ("back" : Str)))) (jt_of (jx_opM (xc := PyData.bool) (fun (p : PyData) (q : Str) => eqO (eD p) (PyData.str q)) (JX.ro (jx_opM (xc := eD) (fun (p : PyData) (q : Int) => ixD p q) (JX.ro (jx_var (i := 7) (x := eD) order rfl)) (JX.ro (jx_c (x := PyData.int) (0 : Int))) (fun p q r h => o2_ixD p q r h))) (JX.ro (jx_c (x := PyData.str) ("back" : Str))) (fun p q r h => o2_eqD _ _ r h))) (by first | rfl | (simp only [WM.pu_bd, WM.bd_as, lf_pu, lf_puo]; done) | (simp only [WM.pu_bd, WM.bd_as, lf_pu, lf_puo]; rfl))) xo_ne (js_goG (Γσ := (fun (st : ((List (List PyData)))) => [.s ns, .o 1, .n, .v ((eP2 (eP3 PyData.int (eT (eP2 PyData.int PyData.int)) (eT PyData.int)) (eT (eP2 PyData.int PyData.int))) board), .v ((eT eD) orders), .l (st.map (eT eD)), .v (PyData.int spot), .n, .n, .n, .n, .n, .n])) (fun tried_10 => tried_10) (JS.cv (f' := bd (bd (lf (catO (cutL orders none (some spot)) ((fun p : (PyData) => [p]) (order)))) fun x11 => lf (catO x11 (cutL orders (some (spot + (1 : Int))) none))) fun x12 => lf (psh tried x12)) (js_append (i := 5) tried (jx_opM (xc := (eT eD)) (fun (p : (List PyData)) (q : (List PyData)) => catO p q) (JX.ro (jx_opM (xc := (eT eD)) (fun (p : (List PyData)) (q : (List PyData)) => catO p q) (JX.ro (jx_sliceT (y := (eT eD)) cutL (JX.ro (jx_var (i := 4) (x := (eT eD)) orders rfl)) jn_none (jn_some (jx_var (i := 6) (x := PyData.int) spot rfl)) (fun a lo hi v M r => sl_T a lo hi v M r))) (JX.ro (JX.mapV (y := (eT eD)) (JX.map (sp' := fun q => .v ((eP1 eD) q)) (jx_tup (xs := fun a : PyData × Unit => [eD a.1]) (ja_cons (jx_var (i := 7) (x := eD) order rfl) ja_nil)) (fun a : PyData × Unit => (a.1)) (fun _ => rfl)) (fun p : (PyData) => [p]) (fun _ => rfl))) (fun p q r h => o2_catT p q r h))) (JX.ro (jx_sliceT (y := (eT eD)) cutL (JX.ro (jx_var (i := 4) (x := (eT eD)) orders rfl)) (jn_some (jx_op (xc := PyData.int) (fun (p : Int) (q : Int) => p + q) (JX.ro (jx_var (i := 6) (x := PyData.int) spot rfl)) (JX.ro (jx_c (x := PyData.int) (1 : Int))) (fun p q => o2_add p q))) jn_none (fun a lo hi v M r => sl_T a lo hi v M r))) (fun p q r h => o2_catT p q r h)) rfl xo_ne) (by first | rfl | (simp only [WM.pu_bd, WM.bd_as, lf_pu, lf_puo]; done) | (simp only [WM.pu_bd, WM.bd_as, lf_pu, lf_puo]; rfl))) (fun tried_10 => wkm [true, true, false, true, true, true, true, false, false, false, false, false, false] rfl)) (js_goG (Γσ := (fun (st : ((List (List PyData)))) => [.s ns, .o 1, .n, .v ((eP2 (eP3 PyData.int (eT (eP2 PyData.int PyData.int)) (eT PyData.int)) (eT (eP2 PyData.int PyData.int))) board), .v ((eT eD) orders), .l (st.map (eT eD)), .v (PyData.int spot), .n, .n, .n, .n, .n, .n])) (fun _ => tried) (js_nil (Γ1 := fun _ => [.s ns, .o 1, .n, .v ((eP2 (eP3 PyData.int (eT (eP2 PyData.int PyData.int)) (eT PyData.int)) (eT (eP2 PyData.int PyData.int))) board), .v ((eT eD) orders), .l (tried.map (eT eD)), .v (PyData.int spot), .v (eD order), .n, .n, .n, .n, .n]) () .refl) (fun _ => wkm [true, true, false, true, true, true, true, false, false, false, false, false, false] rfl)))
noncomputable def p3_law (board : ((Int × (List (Int × Int)) × (List Int)) × (List (Int × Int)))) (orders : (List PyData)) (spot : Int) (value : (List PyData)) (kept : Str) (place : Int) (order : PyData) : Dm (Tn Unit Bool) :=
  bd (bd (bd (lf (ixD order (0 : Int))) fun x19 => lf (eqO (eD x19) (PyData.str ("back" : Str)))) fun k21 => if k21 = true then bd (lf (eqO ((eT eD) value) ((eT eD) orders))) fun k20 => if k20 = true then pu true else pu (decide (place = spot)) else pu false) fun k30 => if k30 = true then bd (bd (lf (p_lback_fits board value place)) fun x23 => lf (reprO (PyData.bool x23))) fun due_22 => bd (if (decide ((place.fmod 3) = (1 : Int))) = true then lf (p_fits board value place) else lf (p_fits board value place)) fun told_24 => bd (bd (bd (lf (reprO (PyData.bool told_24))) fun x25 => pu (!decide (x25 = due_22))) fun k28 => if k28 = true then pu true else bd (bd (lf (p_fits board value place)) fun x26 => lf (reprO (PyData.bool x26))) fun x27 => pu (!decide (x27 = due_22))) fun k29 => if k29 = true then bd (pu false) fun r => pu (Tn.rt r) else bd (pu ()) fun _ => pu (Tn.go ()) else bd (pu ()) fun _ => pu (Tn.go ())
theorem q3_law (R0 : Mm) (h0 : ∀ q, (DkD.m0 q ++ R0).all (MO.below (DkD.n + R0.length)) = true) (board : ((Int × (List (Int × Int)) × (List Int)) × (List (Int × Int)))) (orders : (List PyData)) (spot : Int) (value : (List PyData)) (kept : Str) (place : Int) (order : PyData) : JS (μ := Dm) (DkD.B R0 h0) [.s ns, .o 1, .n, .v ((eP2 (eP3 PyData.int (eT (eP2 PyData.int PyData.int)) (eT PyData.int)) (eT (eP2 PyData.int PyData.int))) board), .v ((eT eD) orders), .n, .v (PyData.int spot), .v (eD order), .v ((eT eD) value), .v (PyData.str kept), .v (PyData.int place), .n, .n] [] l2_law (p3_law board orders spot value kept place order) (Ks (DkD.B R0 h0) (fun (st : Unit) => [.s ns, .o 1, .n, .v ((eP2 (eP3 PyData.int (eT (eP2 PyData.int PyData.int)) (eT PyData.int)) (eT (eP2 PyData.int PyData.int))) board), .v ((eT eD) orders), .n, .v (PyData.int spot), .n, .v ((eT eD) value), .v (PyData.str kept), .n, .n, .n]) PyData.bool) := by
  unfold p3_law l2_law
  exact (js_if (JT.cv (f' := bd (bd (lf (ixD order (0 : Int))) fun x19 => lf (eqO (eD x19) (PyData.str ("back" : Str)))) fun k21 => if k21 = true then bd (lf (eqO ((eT eD) value) ((eT eD) orders))) fun k20 => if k20 = true then pu true else pu (decide (place = spot)) else pu false) (JT.cv (f' := bd (bd (lf (ixD order (0 : Int))) fun x19 => lf (eqO (eD x19) (PyData.str ("back" : Str)))) fun k21 => if k21 = true then bd (lf (eqO ((eT eD) value) ((eT eD) orders))) fun k20 => if k20 = true then pu true else pu (decide (place = spot)) else pu false) (jt_and (jt_of (jx_opM (xc := PyData.bool) (fun (p : PyData) (q : Str) => eqO (eD p) (PyData.str q)) (JX.ro (jx_opM (xc := eD) (fun (p : PyData) (q : Int) => ixD p q) (JX.ro (jx_var (i := 7) (x := eD) order rfl)) (JX.ro (jx_c (x := PyData.int) (0 : Int))) (fun p q r h => o2_ixD p q r h))) (JX.ro (jx_c (x := PyData.str) ("back" : Str))) (fun p q r h => o2_eqD _ _ r h))) (JT.cv (f' := bd (lf (eqO ((eT eD) value) ((eT eD) orders))) fun k20 => if k20 = true then pu true else pu (decide (place = spot))) (jt_or (jt_of (jx_opM (xc := PyData.bool) (fun (p : (List PyData)) (q : (List PyData)) => eqO ((eT eD) p) ((eT eD) q)) (JX.ro (jx_var (i := 8) (x := (eT eD)) value rfl)) (JX.ro (jx_var (i := 4) (x := (eT eD)) orders rfl)) (fun p q r h => o2_eqD _ _ r h))) (jt_of (jx_op (xc := PyData.bool) (fun (p : Int) (q : Int) => decide (p = q)) (JX.ro (jx_var (i := 10) (x := PyData.int) place rfl)) (JX.ro (jx_var (i := 6) (x := PyData.int) spot rfl)) (fun p q => o2_eqI p q)))) rfl)) rfl) (by first | rfl | (simp only [WM.pu_bd, WM.bd_as, lf_pu, lf_puo]; done) | (simp only [WM.pu_bd, WM.bd_as, lf_pu, lf_puo]; rfl))) xo_ne (js_seq (js_asg (i := 11) (sp := fun q => .v (PyData.str q)) (JX.cv (f' := bd (lf (p_lback_fits board value place)) fun x23 => lf (reprO (PyData.bool x23))) (jx_repr (jx_call (fun a => a) fp_lback_fits (ja_cons (jx_var (i := 3) (x := (eP2 (eP3 PyData.int (eT (eP2 PyData.int PyData.int)) (eT PyData.int)) (eT (eP2 PyData.int PyData.int)))) board rfl) (ja_cons (jx_var (i := 8) (x := (eT eD)) value rfl) (ja_cons (jx_var (i := 10) (x := PyData.int) place rfl) ja_nil))))) (by first | rfl | (simp only [WM.pu_bd, WM.bd_as, lf_pu, lf_puo]; done) | (simp only [WM.pu_bd, WM.bd_as, lf_pu, lf_puo]; rfl))) xo_ne) (fun due_22 => (js_seq (js_asg (i := 12) (sp := fun q => .v (PyData.bool q)) (JX.cv (f' := if (decide ((place.fmod 3) = (1 : Int))) = true then lf (p_fits board value place) else lf (p_fits board value place)) (jx_if (jt_of (jx_op (xc := PyData.bool) (fun (p : Int) (q : Int) => decide (p = q)) (JX.ro (jx_modC 3 (JX.ro (jx_var (i := 10) (x := PyData.int) place rfl)))) (JX.ro (jx_c (x := PyData.int) (1 : Int))) (fun p q => o2_eqI p q))) (JX.cv (f' := lf (p_fits board value place)) (jx_callK (α := Unit) (δ := Int × (List PyData) × ((Int × (List (Int × Int)) × (List Int)) × (List (Int × Int))) × Unit) (x1 := (fun a => [])) (x2 := (fun b => [PyData.int b.1, (eT eD) b.2.1, (eP2 (eP3 PyData.int (eT (eP2 PyData.int PyData.int)) (eT PyData.int)) (eT (eP2 PyData.int PyData.int))) b.2.2.1])) (fun a b => (b.2.2.1, b.2.1, b.1, ())) fp_fits ja_nil (ja_cons (jx_var (i := 10) (x := PyData.int) place rfl) (ja_cons (jx_var (i := 8) (x := (eT eD)) value rfl) (ja_cons (jx_var (i := 3) (x := (eP2 (eP3 PyData.int (eT (eP2 PyData.int PyData.int)) (eT PyData.int)) (eT (eP2 PyData.int PyData.int)))) board rfl) ja_nil)))) (by first | rfl | (simp only [WM.pu_bd, WM.bd_as, lf_pu, lf_puo]; done) | (simp only [WM.pu_bd, WM.bd_as, lf_pu, lf_puo]; rfl))) (JX.cv (f' := lf (p_fits board value place)) (jx_call (fun a => a) fp_fits (ja_cons (jx_var (i := 3) (x := (eP2 (eP3 PyData.int (eT (eP2 PyData.int PyData.int)) (eT PyData.int)) (eT (eP2 PyData.int PyData.int)))) board rfl) (ja_cons (jx_var (i := 8) (x := (eT eD)) value rfl) (ja_cons (jx_var (i := 10) (x := PyData.int) place rfl) ja_nil)))) (by first | rfl | (simp only [WM.pu_bd, WM.bd_as, lf_pu, lf_puo]; done) | (simp only [WM.pu_bd, WM.bd_as, lf_pu, lf_puo]; rfl)))) (by first | rfl | (simp only [WM.pu_bd, WM.bd_as, lf_pu, lf_puo]; done) | (simp only [WM.pu_bd, WM.bd_as, lf_pu, lf_puo]; rfl))) xo_ne) (fun told_24 => (js_if (JT.cv (f' := bd (bd (lf (reprO (PyData.bool told_24))) fun x25 => pu (!decide (x25 = due_22))) fun k28 => if k28 = true then pu true else bd (bd (lf (p_fits board value place)) fun x26 => lf (reprO (PyData.bool x26))) fun x27 => pu (!decide (x27 = due_22))) (JT.cv (f' := bd (bd (lf (reprO (PyData.bool told_24))) fun x25 => pu (!decide (x25 = due_22))) fun k28 => if k28 = true then pu true else bd (bd (lf (p_fits board value place)) fun x26 => lf (reprO (PyData.bool x26))) fun x27 => pu (!decide (x27 = due_22))) (jt_or (jt_of (jx_op (xc := PyData.bool) (fun (p : Str) (q : Str) => !decide (p = q)) (JX.ro (jx_repr (jx_var (i := 12) (x := PyData.bool) told_24 rfl))) (JX.ro (jx_var (i := 11) (x := PyData.str) due_22 rfl)) (fun p q => o2_neS p q))) (jt_of (jx_op (xc := PyData.bool) (fun (p : Str) (q : Str) => !decide (p = q)) (JX.ro (jx_repr (jx_call (fun a => a) fp_fits (ja_cons (jx_var (i := 3) (x := (eP2 (eP3 PyData.int (eT (eP2 PyData.int PyData.int)) (eT PyData.int)) (eT (eP2 PyData.int PyData.int)))) board rfl) (ja_cons (jx_var (i := 8) (x := (eT eD)) value rfl) (ja_cons (jx_var (i := 10) (x := PyData.int) place rfl) ja_nil)))))) (JX.ro (jx_var (i := 11) (x := PyData.str) due_22 rfl)) (fun p q => o2_neS p q)))) rfl) (by first | rfl | (simp only [WM.pu_bd, WM.bd_as, lf_pu, lf_puo]; done) | (simp only [WM.pu_bd, WM.bd_as, lf_pu, lf_puo]; rfl))) xo_ne (JS.turn (js_retL (y := PyData.bool) (Γσ := (fun (st : Unit) => [.s ns, .o 1, .n, .v ((eP2 (eP3 PyData.int (eT (eP2 PyData.int PyData.int)) (eT PyData.int)) (eT (eP2 PyData.int PyData.int))) board), .v ((eT eD) orders), .n, .v (PyData.int spot), .n, .v ((eT eD) value), .v (PyData.str kept), .n, .n, .n])) (JX.cv (f' := pu false) (jx_c (x := PyData.bool) false) (by first | rfl | (simp only [WM.pu_bd, WM.bd_as, lf_pu, lf_puo]; done) | (simp only [WM.pu_bd, WM.bd_as, lf_pu, lf_puo]; rfl))) xo_ne)) (js_go (y := PyData.bool) (Γσ := (fun (st : Unit) => [.s ns, .o 1, .n, .v ((eP2 (eP3 PyData.int (eT (eP2 PyData.int PyData.int)) (eT PyData.int)) (eT (eP2 PyData.int PyData.int))) board), .v ((eT eD) orders), .n, .v (PyData.int spot), .n, .v ((eT eD) value), .v (PyData.str kept), .n, .n, .n])) (fun _ => ()) (js_nil (Γ1 := fun _ => [.s ns, .o 1, .n, .v ((eP2 (eP3 PyData.int (eT (eP2 PyData.int PyData.int)) (eT PyData.int)) (eT (eP2 PyData.int PyData.int))) board), .v ((eT eD) orders), .n, .v (PyData.int spot), .v (eD order), .v ((eT eD) value), .v (PyData.str kept), .v (PyData.int place), .v (PyData.str due_22), .v (PyData.bool told_24)]) () .refl) (fun _ => wkm [true, true, false, true, true, false, true, false, true, true, false, false, false] rfl))))))) (js_go (y := PyData.bool) (Γσ := (fun (st : Unit) => [.s ns, .o 1, .n, .v ((eP2 (eP3 PyData.int (eT (eP2 PyData.int PyData.int)) (eT PyData.int)) (eT (eP2 PyData.int PyData.int))) board), .v ((eT eD) orders), .n, .v (PyData.int spot), .n, .v ((eT eD) value), .v (PyData.str kept), .n, .n, .n])) (fun _ => ()) (js_nil (Γ1 := fun _ => [.s ns, .o 1, .n, .v ((eP2 (eP3 PyData.int (eT (eP2 PyData.int PyData.int)) (eT PyData.int)) (eT (eP2 PyData.int PyData.int))) board), .v ((eT eD) orders), .n, .v (PyData.int spot), .v (eD order), .v ((eT eD) value), .v (PyData.str kept), .v (PyData.int place), .n, .n]) () .refl) (fun _ => wkm [true, true, false, true, true, false, true, false, true, true, false, false, false] rfl)))
noncomputable def p2_law (board : ((Int × (List (Int × Int)) × (List Int)) × (List (Int × Int)))) (orders : (List PyData)) (spot : Int) (value : (List PyData)) : Dm (Tn Unit Bool) :=
  bd (lf (reprO ((eL eD) ([((eP2 (eP3 PyData.int (eT (eP2 PyData.int PyData.int)) (eT PyData.int)) (eT (eP2 PyData.int PyData.int))) board), ((eT eD) value)])))) fun kept_18 => bd (forT (fun (st31 : Unit) (y32 : (Int × PyData)) => p3_law board orders spot value kept_18 y32.1 y32.2) (enu value) ()) (fiE (fun s33 => bd (bd (lf (reprO ((eL eD) ([((eP2 (eP3 PyData.int (eT (eP2 PyData.int PyData.int)) (eT PyData.int)) (eT (eP2 PyData.int PyData.int))) board), ((eT eD) value)])))) fun x35 => pu (!decide (x35 = kept_18))) fun k36 => if k36 = true then bd (pu false) fun r => pu (Tn.rt r) else bd (pu ()) fun _ => pu (Tn.go ())) fun r34 => pu (Tn.rt r34))
theorem q2_law (R0 : Mm) (h0 : ∀ q, (DkD.m0 q ++ R0).all (MO.below (DkD.n + R0.length)) = true) (board : ((Int × (List (Int × Int)) × (List Int)) × (List (Int × Int)))) (orders : (List PyData)) (spot : Int) (value : (List PyData)) : JS (μ := Dm) (DkD.B R0 h0) [.s ns, .o 1, .n, .v ((eP2 (eP3 PyData.int (eT (eP2 PyData.int PyData.int)) (eT PyData.int)) (eT (eP2 PyData.int PyData.int))) board), .v ((eT eD) orders), .n, .v (PyData.int spot), .n, .v ((eT eD) value), .n, .n, .n, .n] [] l1_law (p2_law board orders spot value) (Ks (DkD.B R0 h0) (fun (st : Unit) => [.s ns, .o 1, .n, .v ((eP2 (eP3 PyData.int (eT (eP2 PyData.int PyData.int)) (eT PyData.int)) (eT (eP2 PyData.int PyData.int))) board), .v ((eT eD) orders), .n, .v (PyData.int spot), .n, .n, .n, .n, .n, .n]) PyData.bool) := by
  unfold p2_law l1_law
  exact (js_seq (js_asg (i := 9) (sp := fun q => .v (PyData.str q)) (JX.cv (f' := lf (reprO ((eL eD) ([((eP2 (eP3 PyData.int (eT (eP2 PyData.int PyData.int)) (eT PyData.int)) (eT (eP2 PyData.int PyData.int))) board), ((eT eD) value)])))) (jx_repr (JX.map (sp' := fun q => .v ((eL eD) q)) (jx_lst (xs := fun a : PyData × PyData × Unit => [eD a.1, eD a.2.1]) (ja_cons (JX.mapV (y := eD) (jx_var (i := 3) (x := (eP2 (eP3 PyData.int (eT (eP2 PyData.int PyData.int)) (eT PyData.int)) (eT (eP2 PyData.int PyData.int)))) board rfl) (eP2 (eP3 PyData.int (eT (eP2 PyData.int PyData.int)) (eT PyData.int)) (eT (eP2 PyData.int PyData.int))) (fun _ => rfl)) (ja_cons (JX.mapV (y := eD) (jx_var (i := 8) (x := (eT eD)) value rfl) (eT eD) (fun _ => rfl)) ja_nil))) (fun a : PyData × PyData × Unit => [a.1, a.2.1]) (fun _ => rfl))) (by first | rfl | (simp only [WM.pu_bd, WM.bd_as, lf_pu, lf_puo]; done) | (simp only [WM.pu_bd, WM.bd_as, lf_pu, lf_puo]; rfl))) xo_ne) (fun kept_18 => (js_seqF Tn.rt kt_ks (JS.cv (f' := forT (fun (st31 : Unit) (y32 : (Int × PyData)) => p3_law board orders spot value kept_18 y32.1 y32.2) (enu value) ()) (js_forT (enc := (eP2 PyData.int eD)) (Γσ := (fun (st31 : Unit) => [.s ns, .o 1, .n, .v ((eP2 (eP3 PyData.int (eT (eP2 PyData.int PyData.int)) (eT PyData.int)) (eT (eP2 PyData.int PyData.int))) board), .v ((eT eD) orders), .n, .v (PyData.int spot), .n, .v ((eT eD) value), .v (PyData.str kept_18), .n, .n, .n])) (y := PyData.bool) (fb := fun (st31 : Unit) (y32 : (Int × PyData)) => p3_law board orders spot value kept_18 y32.1 y32.2) () (JI.cv (f' := pu (enu value)) (ji_enu (enc := eD) (x := (eT eD)) (jx_var (i := 8) (x := (eT eD)) value rfl) (fun _ => .inr rfl)) (by first | rfl | (simp only [WM.pu_bd, WM.bd_as, lf_pu, lf_puo]; done) | (simp only [WM.pu_bd, WM.bd_as, lf_pu, lf_puo]; rfl))) xo_ne (wkm [true, true, false, true, true, false, true, false, true, true, false, false, false] rfl) (fun st31 y32 => (jg_tup (jgs_cons jg_name (jgs_cons jg_name jgs_nil)))) (fun st31 y32 => q3_law R0 h0 board orders spot value kept_18 y32.1 y32.2)) (by first | rfl | (simp only [WM.pu_bd, WM.bd_as, lf_pu, lf_puo]; done) | (simp only [WM.pu_bd, WM.bd_as, lf_pu, lf_puo]; rfl))) (fun s33 => (js_if (JT.cv (f' := bd (lf (reprO ((eL eD) ([((eP2 (eP3 PyData.int (eT (eP2 PyData.int PyData.int)) (eT PyData.int)) (eT (eP2 PyData.int PyData.int))) board), ((eT eD) value)])))) fun x35 => pu (!decide (x35 = kept_18))) (jt_of (jx_op (xc := PyData.bool) (fun (p : Str) (q : Str) => !decide (p = q)) (JX.ro (jx_repr (JX.map (sp' := fun q => .v ((eL eD) q)) (jx_lst (xs := fun a : PyData × PyData × Unit => [eD a.1, eD a.2.1]) (ja_cons (JX.mapV (y := eD) (jx_var (i := 3) (x := (eP2 (eP3 PyData.int (eT (eP2 PyData.int PyData.int)) (eT PyData.int)) (eT (eP2 PyData.int PyData.int)))) board rfl) (eP2 (eP3 PyData.int (eT (eP2 PyData.int PyData.int)) (eT PyData.int)) (eT (eP2 PyData.int PyData.int))) (fun _ => rfl)) (ja_cons (JX.mapV (y := eD) (jx_var (i := 8) (x := (eT eD)) value rfl) (eT eD) (fun _ => rfl)) ja_nil))) (fun a : PyData × PyData × Unit => [a.1, a.2.1]) (fun _ => rfl)))) (JX.ro (jx_var (i := 9) (x := PyData.str) kept_18 rfl)) (fun p q => o2_neS p q))) (by first | rfl | (simp only [WM.pu_bd, WM.bd_as, lf_pu, lf_puo]; done) | (simp only [WM.pu_bd, WM.bd_as, lf_pu, lf_puo]; rfl))) xo_ne (JS.turn (js_retL (y := PyData.bool) (Γσ := (fun (st : Unit) => [.s ns, .o 1, .n, .v ((eP2 (eP3 PyData.int (eT (eP2 PyData.int PyData.int)) (eT PyData.int)) (eT (eP2 PyData.int PyData.int))) board), .v ((eT eD) orders), .n, .v (PyData.int spot), .n, .n, .n, .n, .n, .n])) (JX.cv (f' := pu false) (jx_c (x := PyData.bool) false) (by first | rfl | (simp only [WM.pu_bd, WM.bd_as, lf_pu, lf_puo]; done) | (simp only [WM.pu_bd, WM.bd_as, lf_pu, lf_puo]; rfl))) xo_ne)) (js_go (y := PyData.bool) (Γσ := (fun (st : Unit) => [.s ns, .o 1, .n, .v ((eP2 (eP3 PyData.int (eT (eP2 PyData.int PyData.int)) (eT PyData.int)) (eT (eP2 PyData.int PyData.int))) board), .v ((eT eD) orders), .n, .v (PyData.int spot), .n, .n, .n, .n, .n, .n])) (fun _ => ()) (js_nil (Γ1 := fun _ => [.s ns, .o 1, .n, .v ((eP2 (eP3 PyData.int (eT (eP2 PyData.int PyData.int)) (eT PyData.int)) (eT (eP2 PyData.int PyData.int))) board), .v ((eT eD) orders), .n, .v (PyData.int spot), .n, .v ((eT eD) value), .v (PyData.str kept_18), .n, .n, .n]) () .refl) (fun _ => wkm [true, true, false, true, true, false, true, false, false, false, false, false, false] rfl)))))))
noncomputable def p0_law (turn : Int) : Dm (Tn Unit Bool) :=
  bd (bd (bd (drawD (6 : Int)) fun x2 => pu ((4 : Int) + x2)) fun x4 => bd (bd (drawD (6 : Int)) fun x3 => pu ((3 : Int) + x3)) fun x5 => p_lboard x4 x5) fun board_1 => bd (p_lorders board_1) fun orders_6 => bd (bd (drawD ((orders_6.length : Int))) fun x8 => pu ((([orders_6] : (List (List PyData)))), x8, ())) fun a7 => bd (bd (lf (p_lorders_of board_1 a7.2.1)) fun x16 => forM' (fun (st14 : ((List (List PyData)))) (y15 : PyData) => p1_law board_1 orders_6 st14 a7.2.1 y15) x16 a7.1) fun s17 => bd (forT (fun (st37 : Unit) (y38 : (List PyData)) => p2_law board_1 orders_6 a7.2.1 y38) s17 ()) (fiE (fun s39 => pu (Tn.go ())) fun r40 => pu (Tn.rt r40))
theorem q0_law (R0 : Mm) (h0 : ∀ q, (DkD.m0 q ++ R0).all (MO.below (DkD.n + R0.length)) = true) (turn : Int) : JS (μ := Dm) (DkD.B R0 h0) [.s ns, .o 1, .v (PyData.int turn), .n, .n, .n, .n, .n, .n, .n, .n, .n, .n] [] l0_law (p0_law turn) (Ks (DkD.B R0 h0) (fun (st : Unit) => [.s ns, .o 1, .n, .n, .n, .n, .n, .n, .n, .n, .n, .n, .n]) PyData.bool) := by
  unfold p0_law l0_law
  exact (js_seq (js_asg (i := 3) (sp := fun q => .v ((eP2 (eP3 PyData.int (eT (eP2 PyData.int PyData.int)) (eT PyData.int)) (eT (eP2 PyData.int PyData.int))) q)) (JX.cv (f' := bd (bd (drawD (6 : Int)) fun x2 => pu ((4 : Int) + x2)) fun x4 => bd (bd (drawD (6 : Int)) fun x3 => pu ((3 : Int) + x3)) fun x5 => p_lboard x4 x5) (jx_callD (fun a : Unit × Int × Int × Unit => a.2) fd_lboard (ja_cons (jx_obj (j := 1) (i := 1) rfl dk_nf) (ja_cons (jx_op (xc := PyData.int) (fun (p : Int) (q : Int) => p + q) (JX.ro (jx_c (x := PyData.int) (4 : Int))) (JX.ro (jx_callD (fun a : Unit × Int × Unit => a.2) fd_ldraw (ja_cons (jx_obj (j := 1) (i := 1) rfl dk_nf) (ja_cons (jx_c (x := PyData.int) (6 : Int)) ja_nil)))) (fun p q => o2_add p q)) (ja_cons (jx_op (xc := PyData.int) (fun (p : Int) (q : Int) => p + q) (JX.ro (jx_c (x := PyData.int) (3 : Int))) (JX.ro (jx_callD (fun a : Unit × Int × Unit => a.2) fd_ldraw (ja_cons (jx_obj (j := 1) (i := 1) rfl dk_nf) (ja_cons (jx_c (x := PyData.int) (6 : Int)) ja_nil)))) (fun p q => o2_add p q)) ja_nil)))) (by first | rfl | (simp only [WM.pu_bd, WM.bd_as, lf_pu, lf_puo]; done) | (simp only [WM.pu_bd, WM.bd_as, lf_pu, lf_puo]; rfl))) xo_ne) (fun board_1 => (js_seq (js_asg (i := 4) (sp := fun q => .v ((eT eD) q)) (JX.cv (f' := p_lorders board_1) (jx_callD (fun a : Unit × ((Int × (List (Int × Int)) × (List Int)) × (List (Int × Int))) × Unit => a.2) fd_lorders (ja_cons (jx_obj (j := 1) (i := 1) rfl dk_nf) (ja_cons (jx_var (i := 3) (x := (eP2 (eP3 PyData.int (eT (eP2 PyData.int PyData.int)) (eT PyData.int)) (eT (eP2 PyData.int PyData.int)))) board_1 rfl) ja_nil))) (by first | rfl | (simp only [WM.pu_bd, WM.bd_as, lf_pu, lf_puo]; done) | (simp only [WM.pu_bd, WM.bd_as, lf_pu, lf_puo]; rfl))) xo_ne) (fun orders_6 => (js_seq (js_par (α := (List (List PyData)) × Int × Unit) (is := [5, 6]) (sps := (fun a => [.l (a.1.map (eT eD)), .v (PyData.int a.2.1)])) (JA.cv (f' := bd (drawD ((orders_6.length : Int))) fun x8 => pu ((([orders_6] : (List (List PyData)))), x8, ())) (ja_cons (JX.map (sp' := fun q => .l (List.map (eT eD) q)) (jx_new (xs := fun a : (List PyData) × Unit => [(eT eD) a.1]) (ja_cons (jx_var (i := 4) (x := (eT eD)) orders_6 rfl) ja_nil)) (fun a : (List PyData) × Unit => ([a.1] : (List (List PyData)))) (fun _ => rfl)) (ja_cons (jx_callD (fun a : Unit × Int × Unit => a.2) fd_ldraw (ja_cons (jx_obj (j := 1) (i := 1) rfl dk_nf) (ja_cons (jx_read (y := PyData.int) (fun a : (List PyData) => (a.length : Int)) (JX.ro (jx_var (i := 4) (x := (eT eD)) orders_6 rfl)) (fun a v M r => cz_lenT a v M r)) ja_nil))) ja_nil)) (by first | rfl | (simp only [WM.pu_bd, WM.bd_as, lf_pu, lf_puo]; done) | (simp only [WM.pu_bd, WM.bd_as, lf_pu, lf_puo]; rfl))) xo_ne) (fun a7 => (js_seq (JS.cv (f' := bd (lf (p_lorders_of board_1 a7.2.1)) fun x16 => forM' (fun (st14 : ((List (List PyData)))) (y15 : PyData) => p1_law board_1 orders_6 st14 a7.2.1 y15) x16 a7.1) (js_for (enc := eD) (Γσ := (fun (st14 : ((List (List PyData)))) => [.s ns, .o 1, .n, .v ((eP2 (eP3 PyData.int (eT (eP2 PyData.int PyData.int)) (eT PyData.int)) (eT (eP2 PyData.int PyData.int))) board_1), .v ((eT eD) orders_6), .l (st14.map (eT eD)), .v (PyData.int a7.2.1), .n, .n, .n, .n, .n, .n]))  (fb := fun (st14 : ((List (List PyData)))) (y15 : PyData) => p1_law board_1 orders_6 st14 a7.2.1 y15) a7.1 (JI.cv (f' := lf (p_lorders_of board_1 a7.2.1)) (ji_list (enc := eD) (jx_call (fun a => a) fp_lorders_of (ja_cons (jx_var (i := 3) (x := (eP2 (eP3 PyData.int (eT (eP2 PyData.int PyData.int)) (eT PyData.int)) (eT (eP2 PyData.int PyData.int)))) board_1 rfl) (ja_cons (jx_var (i := 6) (x := PyData.int) a7.2.1 rfl) ja_nil)))) (by first | rfl | (simp only [WM.pu_bd, WM.bd_as, lf_pu, lf_puo]; done) | (simp only [WM.pu_bd, WM.bd_as, lf_pu, lf_puo]; rfl))) xo_ne (wkm [true, true, false, true, true, true, true, false, false, false, false, false, false] rfl) (fun st14 y15 => jg_name) (fun st14 y15 => q1_law R0 h0 board_1 orders_6 st14 a7.2.1 y15)) (by first | rfl | (simp only [WM.pu_bd, WM.bd_as, lf_pu, lf_puo]; done) | (simp only [WM.pu_bd, WM.bd_as, lf_pu, lf_puo]; rfl))) (fun s17 => (js_ghL (i := 5) rfl (js_lastF Tn.rt kt_ks (fun s39 => Tn.go ()) (kn_ks (Γσ := (fun (st37 : Unit) => [.s ns, .o 1, .n, .v ((eP2 (eP3 PyData.int (eT (eP2 PyData.int PyData.int)) (eT PyData.int)) (eT (eP2 PyData.int PyData.int))) board_1), .v ((eT eD) orders_6), .n, .v (PyData.int a7.2.1), .n, .n, .n, .n, .n, .n])) (Γτ := (fun (st : Unit) => [.s ns, .o 1, .n, .n, .n, .n, .n, .n, .n, .n, .n, .n, .n])) (y := PyData.bool) (fun (s39 : Unit) => ()) (fun s39 => wkm [true, true, false, false, false, false, false, false, false, false, false, false, false] rfl)) (JS.cv (f' := forT (fun (st37 : Unit) (y38 : (List PyData)) => p2_law board_1 orders_6 a7.2.1 y38) s17 ()) (js_forT (enc := (eT eD)) (Γσ := (fun (st37 : Unit) => [.s ns, .o 1, .n, .v ((eP2 (eP3 PyData.int (eT (eP2 PyData.int PyData.int)) (eT PyData.int)) (eT (eP2 PyData.int PyData.int))) board_1), .v ((eT eD) orders_6), .n, .v (PyData.int a7.2.1), .n, .n, .n, .n, .n, .n])) (y := PyData.bool) (fb := fun (st37 : Unit) (y38 : (List PyData)) => p2_law board_1 orders_6 a7.2.1 y38) () (JI.cv (f' := pu s17) (ji_list (enc := (eT eD)) (jx_fix (i := 5) (x := (eL (eT eD))) s17 rfl)) (by first | rfl | (simp only [WM.pu_bd, WM.bd_as, lf_pu, lf_puo]; done) | (simp only [WM.pu_bd, WM.bd_as, lf_pu, lf_puo]; rfl))) xo_ne (wkm [true, true, false, true, true, false, true, false, false, false, false, false, false] rfl) (fun st37 y38 => jg_name) (fun st37 y38 => q2_law R0 h0 board_1 orders_6 a7.2.1 y38)) (by first | rfl | (simp only [WM.pu_bd, WM.bd_as, lf_pu, lf_puo]; done) | (simp only [WM.pu_bd, WM.bd_as, lf_pu, lf_puo]; rfl)))))))))))))
noncomputable def p_law : Dm Bool :=
  bd (bd (lf (ran1 (5 : Int))) fun x43 => forT (fun (st41 : Unit) (y42 : Int) => p0_law y42) x43 ()) (fiE (fun s44 => pu true) fun r45 => pu (r45))

theorem q_law (ns : List Int) (R0 : Mm) (h0 : ∀ q, (DkD.m0 q ++ R0).all (MO.below (DkD.n + R0.length)) = true) : JS (μ := Dm) (DkD.B R0 h0) [.s ns, .o 1, .n, .n, .n, .n, .n, .n, .n, .n, .n, .n, .n] [] r_law p_law (Kr _ PyData.bool) := by
  unfold p_law r_law
  exact (js_seqF id kt_kr (JS.cv (f' := bd (lf (ran1 (5 : Int))) fun x43 => forT (fun (st41 : Unit) (y42 : Int) => p0_law y42) x43 ()) (js_forT (enc := PyData.int) (Γσ := (fun (st41 : Unit) => [.s ns, .o 1, .n, .n, .n, .n, .n, .n, .n, .n, .n, .n, .n])) (y := PyData.bool) (fb := fun (st41 : Unit) (y42 : Int) => p0_law y42) () (JI.cv (f' := lf (ran1 (5 : Int))) (ji_ran1 (jx_c (x := PyData.int) (5 : Int))) (by first | rfl | (simp only [WM.pu_bd, WM.bd_as, lf_pu, lf_puo]; done) | (simp only [WM.pu_bd, WM.bd_as, lf_pu, lf_puo]; rfl))) xo_ne (wkm [true, true, false, false, false, false, false, false, false, false, false, false, false] rfl) (fun st41 y42 => jg_name) (fun st41 y42 => q0_law R0 h0 y42)) (by first | rfl | (simp only [WM.pu_bd, WM.bd_as, lf_pu, lf_puo]; done) | (simp only [WM.pu_bd, WM.bd_as, lf_pu, lf_puo]; rfl))) (fun s44 => (JS.ret (js_ret (y := PyData.bool) (JX.cv (f' := pu true) (jx_c (x := PyData.bool) true) (by first | rfl | (simp only [WM.pu_bd, WM.bd_as, lf_pu, lf_puo]; done) | (simp only [WM.pu_bd, WM.bd_as, lf_pu, lf_puo]; rfl))) xo_ne))))
end Zl
namespace Zl
open PySem PySem.Spec PyProof.Rows L2 Zm
open WM (pu bd)
open LO (lf)
/-! ### charts, pieces, boards -/
theorem lbeside_ok {c : ChartT} (h : c.2.1.length ≤ 300) (f : Int) : p_lbeside c f = some (nbL c.2.1 f) := by
  unfold p_lbeside
  rw [lim_ok (by rw [List.length_map]; exact Nat.le_trans (List.length_filter_le _ _) (by omega))]
  rfl
theorem lchart_ok {many more : Int} {Q : ChartT → Prop} (h1 : 1 ≤ many) (h2 : many ≤ 24) (h3 : 0 ≤ more) (h4 : more ≤ 100) (hq : ∀ c : ChartT, GC c → c.1 = many → Q c) : p_lchart many more Q := by
  unfold p_lchart
  simp only [dm_bd, dm_pu, ran2_ok (i := 1) (j := many) (by omega) (by omega) (by omega) (by omega), ran1_ok (j := more) (by omega) (by omega), ran1_ok (j := many) (by omega) (by omega), dm_lfs]
  refine dm_for (fun pre s => (∀ p ∈ s, 0 ≤ p.1 ∧ p.1 < p.2 ∧ p.2 < many ∧ p.2 ∈ pre) ∧ s.Nodup ∧ s.length ≤ pre.length) _ _ ⟨by simp, by simp, by simp⟩ ?_ ?_
  · intro pre b post e s ⟨i1, i2, i3⟩ Q' hQ'
    have hb := mem_ran.mp (e ▸ List.mem_append_right pre (List.mem_cons_self ..))
    have hnb : b ∉ pre := fun hb => by
      have nd := nodup_ran 1 many
      rw [e, List.nodup_append] at nd
      exact nd.2.2 b hb b (List.mem_cons_self ..) rfl
    have hpl : pre.length ≤ 24 := by
      have := congrArg List.length e
      rw [len_ran, List.length_append, List.length_cons] at this
      omega
    have same : (∀ p ∈ s, 0 ≤ p.1 ∧ p.1 < p.2 ∧ p.2 < many ∧ p.2 ∈ pre ++ [b]) ∧ s.Nodup ∧ s.length ≤ (pre ++ [b]).length :=
      ⟨fun p hp => let ⟨a1, a2, a3, a4⟩ := i1 p hp; ⟨a1, a2, a3, List.mem_append_left _ a4⟩, i2, by rw [List.length_append]; omega⟩
    unfold p0_lchart
    simp only [dm_bd, dm_pu]
    refine dm_draw (by decide) (by decide) fun r h5 h6 => ?_
    by_cases hr : 0 < r
    · simp only [hr, decide_true, if_true]
      refine dm_draw (by decide) (by decide) fun t h7 h8 => ?_
      simp only [dm_bd, dm_pu, psh_ok (xs := s) (by omega), dm_lfs]
      refine hQ' _ ⟨fun p hp => ?_, ?_, by simp only [List.length_append, List.length_singleton]; omega⟩
      · rcases List.mem_append.mp hp with hp | hp
        · exact same.1 p hp
        · rw [List.mem_singleton.mp hp]
          dsimp only
          refine ⟨by split <;> omega, by split <;> omega, by omega, List.mem_append_right _ (List.mem_singleton_self _)⟩
      · rw [List.nodup_append]
        refine ⟨i2, by simp, fun p hp q hq e => hnb ?_⟩
        rw [List.mem_singleton.mp hq] at e
        rw [e] at hp
        exact (i1 _ hp).2.2.2
    · simp only [hr, decide_false, Bool.false_eq_true, if_false]
      exact hQ' _ same
  · rintro s ⟨i1, i2, i3⟩
    rw [len_ran] at i3
    refine dm_for (fun pre s => (∀ p ∈ s, 0 ≤ p.1 ∧ p.1 < p.2 ∧ p.2 < many) ∧ s.Nodup ∧ s.length ≤ 24 + pre.length) _ _ ⟨fun p hp => let ⟨a1, a2, a3, _⟩ := i1 p hp; ⟨a1, a2, a3⟩, i2, by omega⟩ ?_ ?_
    · intro pre b post e s ⟨i1, i2, i3⟩ Q' hQ'
      have hpl : pre.length ≤ 100 := by
        have := congrArg List.length e
        rw [len_ran, List.length_append, List.length_cons] at this
        omega
      have same : (∀ p ∈ s, 0 ≤ p.1 ∧ p.1 < p.2 ∧ p.2 < many) ∧ s.Nodup ∧ s.length ≤ 24 + (pre ++ [b]).length := ⟨i1, i2, by rw [List.length_append]; omega⟩
      unfold p1_lchart
      simp only [dm_bd, dm_pu]
      refine dm_draw (by omega) (by omega) fun r h5 h6 => dm_draw (by omega) (by omega) fun t h7 h8 => ?_
      by_cases hc : (decide (r < t) && !mem (r, t) s) = true
      · simp only [hc, if_true, dm_bd, dm_pu, psh_ok (xs := s) (by omega), dm_lfs]
        rw [Bool.and_eq_true, decide_eq_true_eq, Bool.not_eq_true', ← Bool.not_eq_true, mem_iff] at hc
        refine hQ' (s ++ [(r, t)]) ⟨fun p hp => ?_, ?_, by simp only [List.length_append, List.length_singleton]; omega⟩
        · rcases List.mem_append.mp hp with hp | hp
          · exact i1 p hp
          · rw [List.mem_singleton.mp hp]
            exact ⟨h5, hc.1, h8⟩
        · rw [List.nodup_append]
          exact ⟨i2, by simp, fun p hp q hq e => hc.2 (by rw [List.mem_singleton.mp hq] at e; rw [← e]; exact hp)⟩
      · simp only [hc, if_false]
        exact hQ' _ same
    · rintro s ⟨i1, i2, i3⟩
      rw [len_ran] at i3
      have key : ∀ (xs : List Int), xs.Pairwise (· < ·) → (∀ x ∈ xs, 0 ≤ x ∧ x < many) → xs.length ≤ 24 → ∀ Q' : List Int → Prop, (∀ ys : List Int, ys.Pairwise (· < ·) → (∀ x ∈ ys, x ∈ xs) → ys.length ≤ xs.length → Q' ys) →
          cmpM (μ := Dm) (fun (y23 : Int) => bd (drawD (2 : Int)) fun x24 => pu (decide (x24 = (0 : Int)))) (fun (y23 : Int) => pu y23) xs Q' := by
        intro xs
        induction xs with
        | nil => intro _ _ _ Q' hQ'; exact hQ' [] .nil (fun _ h => by cases h) (Nat.le_refl _)
        | cons x xs ih =>
          intro hp hr hl Q' hQ'
          rw [List.pairwise_cons] at hp
          have ih' := ih hp.2 (fun y hy => hr y (List.mem_cons_of_mem _ hy)) (by rw [List.length_cons] at hl; omega)
          unfold cmpM
          simp only [dm_bd, dm_pu]
          refine dm_draw (by decide) (by decide) fun r _ _ => ?_
          by_cases hz : r = 0
          · simp only [hz, decide_true, if_true]
            refine ih' _ fun ys h1 h2 h3 => hQ' (x :: ys) (List.pairwise_cons.mpr ⟨fun y hy => hp.1 y (h2 y hy), h1⟩) (fun z hz => ?_) (by rw [List.length_cons, List.length_cons]; omega)
            rcases List.mem_cons.mp hz with rfl | hz
            · exact List.mem_cons_self ..
            · exact List.mem_cons_of_mem _ (h2 z hz)
          · simp only [hz, decide_false, Bool.false_eq_true, if_false]
            exact ih' _ fun ys h1 h2 h3 => hQ' ys h1 (fun z hz => List.mem_cons_of_mem _ (h2 z hz)) (by rw [List.length_cons]; omega)
      refine key _ (asc_ran 0 many) (fun x hx => by have := mem_ran.mp hx; omega) (by rw [len_ran]; omega) _ fun ys g1 g2 g3 => ?_
      rw [len_ran] at g3
      simp only [lim_ok (xs := ys) (by omega), dm_lfs]
      refine hq (many, sortP s, ys) ⟨h1, h2, ?_, sortP_asc i2, ?_, ?_, g1, ?_⟩ rfl
      · intro p hp
        exact i1 p ((sortP_perm s).mem_iff.mp hp)
      · show (sortP s).length ≤ 300
        rw [(sortP_perm s).length_eq]; omega
      · intro x hx
        have := mem_ran.mp (g2 x hx)
        exact this
      · show ys.length ≤ 24
        omega
theorem lpieces_ok {c : ChartT} (hc : GC c) {many : Int} {Q : List (Int × Int) → Prop} (h3 : 0 ≤ many) (h4 : many ≤ 16) (hq : ∀ ps, GP c.1 ps → (1 ≤ many → 0 < ps.length) → (ps.length : Int) ≤ many → Q ps) : p_lpieces c many Q := by
  have k1 := hc.k1
  have k2 := hc.k2
  unfold p_lpieces
  simp only [dm_bd, dm_pu, rg1_ok (j := 6) (by decide) (by decide), rg1_ok (j := c.1) (by omega) (by omega), dm_lfs]
  refine dm_mix (by rw [← ranD_ran]; exact Lay.ran 0 6) (by rw [len_ran]; decide) fun pls hpls => ?_
  refine dm_draw (by decide) (by decide) fun r h5 h6 => ?_
  refine dm_mix (by rw [← ranD_ran]; exact Lay.ran 0 c.1) (by rw [len_ran]; omega) fun fs hfs => ?_
  have hpl := hpls.length_eq
  rw [len_ran] at hpl
  have hfl := hfs.length_eq
  rw [len_ran] at hfl
  have e1 : cutL pls none (some (2 + r)) = pls.take (2 + r).toNat := cutL_take (by omega)
  have e2 : cutL fs none (some many) = fs.take many.toNat := cutL_take h3
  rw [e1, e2]
  have sub : ∀ x ∈ fs.take many.toNat, 0 ≤ x ∧ x < c.1 := fun x hx => mem_ran.mp (hfs.mem_iff.mp (List.mem_of_mem_take hx))
  have nd : (fs.take many.toNat).Nodup := ((hfs.nodup_iff.mpr (nodup_ran 0 c.1)).sublist (List.take_sublist _ _))
  have sp := sortI_perm (fs.take many.toNat)
  have psub : ∀ x ∈ pls.take (2 + r).toNat, 0 ≤ x ∧ x < 6 := fun x hx => mem_ran.mp (hpls.mem_iff.mp (List.mem_of_mem_take hx))
  refine dm_each (fun (x : Int) (y : Int × Int) => y.1 = x ∧ 0 ≤ y.2 ∧ y.2 < 6) _ (fun x hx Q2 hq2 => ?_) fun ys hl hy => ?_
  · simp only [dm_bd, dm_pu]
    exact dm_pick (by rw [List.length_take]; omega) (by rw [List.length_take]; omega) fun p hp => hq2 _ ⟨rfl, psub p hp⟩
  · have hlen : (sortI (fs.take many.toNat)).length = min many.toNat fs.length := by rw [sp.length_eq, List.length_take]
    have hyl : ys.length ≤ 16 := by omega
    simp only [lim_ok (xs := ys) (by omega), dm_lfs]
    have fst : ys.map (·.1) = sortI (fs.take many.toNat) := by
      refine List.ext_getElem? fun i => ?_
      rw [List.getElem?_map]
      cases e : ys[i]? with
      | none =>
        rw [List.getElem?_eq_none_iff] at e
        exact (List.getElem?_eq_none_iff.mpr (by omega)).symm
      | some y =>
        have hi := (List.getElem?_eq_some_iff.mp e).1
        have ex : (sortI (fs.take many.toNat))[i]? = some (sortI (fs.take many.toNat))[i] := List.getElem?_eq_getElem (by omega)
        rw [ex]
        rw [← (hy i _ y ex e).1]
        rfl
    refine hq ys ⟨fun p hp => ?_, ?_, hyl⟩ (fun h => by omega) (by omega)
    · obtain ⟨i, hi⟩ := List.getElem?_of_mem hp
      have hil := (List.getElem?_eq_some_iff.mp hi).1
      have ex : (sortI (fs.take many.toNat))[i]? = some (sortI (fs.take many.toNat))[i] := List.getElem?_eq_getElem (by omega)
      obtain ⟨a1, a2, a3⟩ := hy i _ p ex hi
      exact ⟨by rw [a1]; exact sub _ (sp.mem_iff.mp (List.getElem_mem _)), a2, a3⟩
    · have := sortI_asc nd
      rw [← fst] at this
      exact List.pairwise_map.mp this
theorem lboard_ok {k many : Int} {Q : BoardT → Prop} (h1 : 1 ≤ k) (h2 : k ≤ 24) (h3 : 1 ≤ many) (h4 : many ≤ 16) (hq : ∀ b : BoardT, GB b → b.1.1 = k → 0 < b.2.length → (b.2.length : Int) ≤ many → Q b) : p_lboard k many Q := by
  unfold p_lboard
  simp only [dm_bd, dm_pu]
  refine dm_draw (by decide) (by decide) fun r h5 h6 => lchart_ok h1 h2 (by omega) (by omega) fun c hc hk => lpieces_ok hc (by omega) h4 fun ps hp hn hm => ?_
  exact hq (c, ps) ⟨hc, hp⟩ hk (hn h3) hm
end Zl
namespace Zl
open PySem PySem.Spec PyProof.Rows L2 Zm
open WM (pu bd)
open LO (lf)
/-! ### orders of a piece -/
theorem lorders_in {c : ChartT} (hc : GC c) {own f : Int} {gos : List (Str × Int)} (gs : List Int) (bs : List (Str × Int × Int)) (hl : bs.length + gs.length ≤ 16777216) :
    forM' (fun (st14 : List (Str × Int × Int)) (y15 : Int) => p1_lorders_of c own (nbL c.2.1 own) gos st14 f y15) gs bs = some (bs ++ (gs.filter fun g => decide (g = f) || mem g (nbL c.2.1 f)).map fun g => (("back" : Str), f, g)) := by
  refine ev_fpush (fun g => decide (g = f) || mem g (nbL c.2.1 f)) (fun g => (("back" : Str), f, g)) gs bs (fun g _ s hs => ?_) hl
  unfold p1_lorders_of
  simp only [lbeside_ok hc.rl, ev_lf, ev_bd, ev_pu, psh_ok hs]
  by_cases h : g = f
  · simp only [h, decide_true, if_true, ev_bd, Bool.true_or]
  · simp only [h, decide_false, Bool.false_or, Bool.false_eq_true, if_false, ev_bd]
theorem lorders_of_ok {b : BoardT} (hb : GB b) {n : Nat} {p : Int × Int} (hp : b.2[n]? = some p) : p_lorders_of b (n : Int) = some ((ordsL b p.1).map oD) := by
  have l1 := hb.p.pl
  have l2 := hb.c.rl
  have l3 := nbL_len b.1.2.1 p.1
  have l4 := bksL_len hb p.1
  have L := ev_fext (b := fun (st18 : List (Str × Int × Int)) (y19 : Int) => p0_lorders_of b.1 p.1 (nbL b.1.2.1 p.1) ((nbL b.1.2.1 p.1).map fun y8 => (("go" : Str), y8)) st18 y19)
    (fun f => (if f = p.1 then [] else ((nbL b.1.2.1 p.1).filter fun g => decide (g = f) || mem g (nbL b.1.2.1 f)).map fun g => (f, g)).map fun q => (("back" : Str), q.1, q.2)) 300 (b.2.map (·.1)) [] (fun f _ s hs => ?_) (by rw [List.length_map, List.length_nil]; omega)
  · have e : ((b.2.map (·.1)).flatMap fun f => (if f = p.1 then [] else ((nbL b.1.2.1 p.1).filter fun g => decide (g = f) || mem g (nbL b.1.2.1 f)).map fun g => (f, g)).map fun q => (("back" : Str), q.1, q.2)) = (bksL b.1.2.1 p.1 (b.2.map (·.1))).map fun q => (("back" : Str), q.1, q.2) := by
      unfold bksL
      rw [List.map_flatMap]
    rw [List.nil_append, e] at L
    unfold p_lorders_of
    simp only [ev_bd, ev_pu, ev_lf, ixO_nat, hp, lim_ok (xs := b.2.map fun y3 : Int × Int => y3.1) (by rw [List.length_map]; omega), lbeside_ok hb.c.rl, lim_ok (xs := (nbL b.1.2.1 p.1).map fun y8 : Int => (("go" : Str), y8)) (by rw [List.length_map]; omega)]
    rw [L]
    have e2 : List.map (eP3 PyData.str PyData.int PyData.int) ((bksL b.1.2.1 p.1 (b.2.map (·.1))).map fun q => (("back" : Str), q.1, q.2)) = (bksL b.1.2.1 p.1 (b.2.map (·.1))).map fun p => oD (.back p.1 p.2) := by rw [List.map_map]; rfl
    have e3 : List.map (eP2 PyData.str PyData.int) ((nbL b.1.2.1 p.1).map fun y8 : Int => (("go" : Str), y8)) = (nbL b.1.2.1 p.1).map fun g => oD (.go g) := by rw [List.map_map]; rfl
    simp only [ev_bd, e2, e3, sortO_back]
    rw [cat_ok (by rw [List.length_map, List.length_map]; show 1 + _ ≤ _; omega), ev_bd, cat_ok (by rw [List.length_append, List.length_map, List.length_map, List.length_map, (sortP_perm _).length_eq]; show 1 + _ + _ ≤ _; omega)]
    have e4 : (ordsL b p.1).map oD = [oD .stay] ++ (nbL b.1.2.1 p.1).map (fun g => oD (.go g)) ++ (sortP (bksL b.1.2.1 p.1 (b.2.map (·.1)))).map fun p => oD (.back p.1 p.2) := by
      unfold ordsL
      rw [List.map_cons, List.map_append, List.map_map, List.map_map]
      rfl
    rw [e4]
    rfl
  · have g1 : (((nbL b.1.2.1 p.1).filter fun g => decide (g = f) || mem g (nbL b.1.2.1 f)).map fun g => (f, g)).length ≤ 300 := by
      rw [List.length_map]
      exact Nat.le_trans (List.length_filter_le _ _) (by omega)
    unfold p0_lorders_of
    by_cases h : f = p.1
    · simp only [h, decide_true, Bool.not_true, Bool.false_eq_true, if_false, ev_bd, ev_pu, if_true, List.map_nil, List.append_nil, List.length_nil]
      exact ⟨trivial, by omega⟩
    · simp only [h, decide_false, Bool.not_false, if_true, if_false, ev_bd, ev_pu]
      rw [lorders_in hb.c _ _ (by omega), List.map_map, List.length_map]
      rw [List.length_map] at g1
      exact ⟨rfl, g1⟩
end Zl
namespace Zl
open PySem PySem.Spec PyProof.Rows L2 Zm
open WM (pu bd)
open LO (lf)
/-! ### drawn gos, drawn orders -/
/-- gos of pieces to fields near theirs -/
def GG (b : BoardT) (gos : List (Int × Int)) : Prop := ∀ p ∈ gos, (∃ q ∈ b.2, q.1 = p.1) ∧ p.2 ∈ nbL b.1.2.1 p.1
theorem GG.put {b : BoardT} {gos : List (Int × Int)} (h : GG b gos) {f g : Int} (hf : ∃ q ∈ b.2, q.1 = f) (hg : g ∈ nbL b.1.2.1 f) : GG b (dput gos f g) := fun p hp => by
  rcases dput_mem hp with hp | ⟨e1, e2⟩
  · exact h p hp
  · rw [e1, e2]; exact ⟨hf, hg⟩
theorem lgos_ok {b : BoardT} (hb : GB b) {Q : List (Int × Int) → Prop} (hq : ∀ gos, GG b gos → Q gos) : p_lgos b Q := by
  have l1 := hb.p.pl
  have l2 := hb.c.rl
  have nl : ∀ f, (nbL b.1.2.1 f).length ≤ 300 := fun f => Nat.le_trans (nbL_len _ _) l2
  have fm : ∀ f, f ∈ b.2.map (fun y2 : Int × Int => y2.1) → ∃ q ∈ b.2, q.1 = f := fun f hf => by
    obtain ⟨q, hq, e⟩ := List.mem_map.mp hf
    exact ⟨q, hq, e⟩
  unfold p_lgos
  simp only [dm_bd, dm_pu, lim_ok (xs := b.2.map fun y2 : Int × Int => y2.1) (by rw [List.length_map]; omega), dm_lfs]
  refine dm_for (fun pre s => (∀ p ∈ s, (∃ q ∈ b.2, q.1 = p.1) ∧ p.2 ∈ nbL b.1.2.1 p.1) ∧ s.length ≤ pre.length * 16) _ _ ⟨(fun _ h => by cases h), by simp⟩ ?_ ?_
  · intro pre x post e s ⟨i1, i2⟩ Q' hQ'
    have hx : x ∈ b.2 := by rw [e]; exact List.mem_append_right _ (List.mem_cons_self ..)
    have hpl : pre.length ≤ 16 := by
      have := congrArg List.length e
      rw [List.length_append, List.length_cons] at this
      omega
    have hle : (((List.filter (fun (y7 : Int × Int) => ((!decide (y7.2 = x.2)) && (mem y7.1 (nbL b.1.2.1 x.1)))) b.2).map (fun (y7 : Int × Int) => (x.1, y7.1)))).length ≤ 16 := by
      rw [List.length_map]
      exact Nat.le_trans (List.length_filter_le _ _) l1
    unfold p0_lgos
    simp only [lbeside_ok l2, dm_bd, dm_pu, dm_lfs, lim_ok (Nat.le_trans hle (by decide)), cat_ok (xs := s) (Nat.le_trans (Nat.add_le_add_left hle _) (by omega : s.length + 16 ≤ 16777216))]
    refine hQ' _ ⟨fun p hp => ?_, by rw [List.length_append, List.length_append, List.length_singleton, Nat.succ_mul]; omega⟩
    rcases List.mem_append.mp hp with hp | hp
    · exact i1 p hp
    · obtain ⟨y, hy, rfl⟩ := List.mem_map.mp hp
      rw [List.mem_filter, Bool.and_eq_true, mem_iff] at hy
      exact ⟨⟨x, hx, rfl⟩, hy.2.2⟩
  · rintro fights ⟨f1, f2⟩
    have main : (forM' (fun (st24 : List (Int × Int)) (y25 : Int) => p1_lgos b.1 (b.2.map fun y2 : Int × Int => y2.1) st24 y25) (b.2.map fun y2 : Int × Int => y2.1) ([] : List (Int × Int))) (fun s26 => drawD (6 : Int) fun r => (if decide (r = 0) = true then bd (forT (fun (st46 : List (Int × Int)) (y47 : Int) => p2_lgos b.1 (b.2.map fun y2 : Int × Int => y2.1) st46 y47) (b.2.map fun y2 : Int × Int => y2.1) s26) (fiE (fun s48 => pu s48) fun r49 => pu r49) else pu s26 : Dm (List (Int × Int))) Q) := by
      refine dm_for (fun pre s => GG b s ∧ s.length ≤ pre.length) _ _ ⟨(fun _ h => by cases h), by simp⟩ ?_ ?_
      · intro pre f post e s ⟨i1, i2⟩ Q' hQ'
        have hf : f ∈ b.2.map (fun y2 : Int × Int => y2.1) := by rw [e]; exact List.mem_append_right _ (List.mem_cons_self ..)
        have hpl : pre.length ≤ 16 := by
          have := congrArg List.length e
          rw [List.length_map, List.length_append, List.length_cons] at this
          omega
        have same : GG b s ∧ s.length ≤ (pre ++ [f]).length := ⟨i1, by rw [List.length_append]; omega⟩
        have hle : ((nbL b.1.2.1 f).filter fun (y17 : Int) => mem y17 (b.2.map fun y2 : Int × Int => y2.1)).length ≤ 300 := Nat.le_trans (List.length_filter_le _ _) (nl f)
        unfold p1_lgos
        simp only [lbeside_ok l2, dm_bd, dm_pu, dm_lfs]
        have put : ∀ g, g ∈ nbL b.1.2.1 f → (lf (dputO s f g) : Dm _) fun gos_21 => Q' gos_21 := fun g hg => by
          rw [dputO_ok (by omega), dm_lfs]
          exact hQ' _ ⟨i1.put (fm f hf) hg, by have := dput_len (kvs := s) (k := f) (v := g); rw [List.length_append, List.length_singleton]; omega⟩
        by_cases hr : nbL b.1.2.1 f = []
        · simp only [hr, decide_true, Bool.not_true, Bool.false_eq_true, if_false, dm_pu]
          exact hQ' _ same
        · have hpos : 0 < (nbL b.1.2.1 f).length := List.length_pos_iff.mpr hr
          simp only [hr, decide_false, Bool.not_false, if_true, dm_bd, dm_pu]
          refine dm_draw (by decide) (by decide) fun r _ _ => ?_
          by_cases h2 : r < 2
          · simp only [h2, decide_true, if_true, dm_bd, dm_pu, List.map_id', lim_ok (Nat.le_trans hle (by decide)), dm_lfs]
            by_cases ht : ((nbL b.1.2.1 f).filter fun (y17 : Int) => mem y17 (b.2.map fun y2 : Int × Int => y2.1)) = []
            · simp only [ht, decide_true, Bool.not_true, Bool.false_eq_true, if_false, dm_pu]
              exact dm_pick hpos (by have := nl f; omega) fun g hg => put g hg
            · simp only [ht, decide_false, Bool.not_false, if_true, dm_bd, dm_pu]
              refine dm_draw (by decide) (by decide) fun r3 _ _ => ?_
              by_cases h3 : 0 < r3
              · simp only [h3, decide_true, if_true, dm_pu]
                exact dm_pick (List.length_pos_iff.mpr ht) (by omega) fun g hg => put g (List.mem_filter.mp hg).1
              · simp only [h3, decide_false, Bool.false_eq_true, if_false, dm_pu]
                exact dm_pick hpos (by have := nl f; omega) fun g hg => put g hg
          · simp only [h2, decide_false, Bool.false_eq_true, if_false, dm_pu]
            exact hQ' _ same
      · rintro gos ⟨g1, g2⟩
        rw [List.length_map] at g2
        refine dm_draw (by decide) (by decide) fun r _ _ => ?_
        by_cases hr : r = 0
        · simp only [hr, decide_true, if_true, dm_bd]
          refine dm_forT (fun _ s => GG b s ∧ s.length ≤ 16) (fun _ => False) (fun s => GG b s) _ _ ⟨g1, by omega⟩ ?_ ?_
          · intro pre a post e s ⟨i1, i2⟩ Q' hQ'
            have ha : a ∈ b.2.map (fun y2 : Int × Int => y2.1) := by rw [e]; exact List.mem_append_right _ (List.mem_cons_self ..)
            unfold p2_lgos
            simp only [lbeside_ok l2, dm_bd, dm_lfs, List.map_id', lim_ok (xs := (nbL b.1.2.1 a).filter fun (y28 : Int) => mem y28 (b.2.map fun y2 : Int × Int => y2.1)) (Nat.le_trans (List.length_filter_le _ _) (Nat.le_trans (nl a) (by decide)))]
            refine dm_forT (fun _ s => GG b s ∧ s.length ≤ 16) (fun _ => False) (fun s => GG b s) _ _ ⟨i1, i2⟩ ?_ ?_
            · intro pre c post e s ⟨i1, i2⟩ Q' hQ'
              have hc : c ∈ (nbL b.1.2.1 a).filter fun (y28 : Int) => mem y28 (b.2.map fun y2 : Int × Int => y2.1) := by rw [e]; exact List.mem_append_right _ (List.mem_cons_self ..)
              rw [List.mem_filter, mem_iff] at hc
              unfold p3_lgos
              simp only [lbeside_ok l2, dm_bd, dm_pu, dm_lfs]
              refine dm_comp (fun y => y ∈ nbL b.1.2.1 c ∧ y ∈ nbL b.1.2.1 a) _ (fun y hy Q2 h2 => ?_) fun ys h1 h2 => ?_
              · simp only [dm_bd, dm_lfs, dm_pu]
                exact h2 _ fun hm Q3 h3 => h3 y ⟨hy, mem_iff.mp hm⟩
              · simp only [lim_ok (xs := ys) (Nat.le_trans h2 (Nat.le_trans (nl c) (by decide))), dm_lfs]
                refine dm_forT (fun _ s => GG b s ∧ s.length ≤ 16) (fun _ => False) (fun s => GG b s) _ _ ⟨i1, i2⟩ ?_ ?_
                · intro pre d post e s ⟨i1, i2⟩ Q' hQ'
                  have hd := h1 d (by rw [e]; exact List.mem_append_right _ (List.mem_cons_self ..))
                  unfold p4_lgos
                  simp only [dm_bd, dm_pu]
                  by_cases hm : mem d (b.2.map fun y2 : Int × Int => y2.1) = true
                  · simp only [hm, if_true, dm_bd, dm_pu]
                    have e1 := dputO_ok (kvs := s) (k := a) (v := c) (by omega)
                    have l3 := dput_len (kvs := s) (k := a) (v := c)
                    have e2 := dputO_ok (kvs := dput s a c) (k := c) (v := d) (by omega)
                    have l4 := dput_len (kvs := dput s a c) (k := c) (v := d)
                    have e3 := dputO_ok (kvs := dput (dput s a c) c d) (k := d) (v := a) (by omega)
                    have e4 : dputs s [(a, c), (c, d), (d, a)] = some (dput (dput (dput s a c) c d) d a) := by
                      simp only [dputs, e1, e2, e3, Option.bind_some]
                    rw [e4, dm_lfs]
                    exact hQ' (.rt _) (((i1.put (fm a ha) hc.1).put (fm c hc.2) hd.1).put (fm d (mem_iff.mp hm)) (nbL_symm.mp hd.2))
                  · simp only [hm, if_false, dm_pu]
                    exact hQ' (.go s) ⟨i1, i2⟩
                · intro t ht
                  cases t with
                  | dn s' => exact hQ' (.go s') (ht.elim id fun z => z.elim)
                  | rt r' => exact hQ' (.rt r') ht
            · intro t ht
              cases t with
              | dn s' => exact hQ' (.go s') (ht.elim id fun z => z.elim)
              | rt r' => exact hQ' (.rt r') ht
          · intro t ht
            cases t with
            | dn s' => exact hq s' (ht.elim (fun z => z.1) fun z => z.elim)
            | rt r' => exact hq r' ht
        · simp only [hr, decide_false, Bool.false_eq_true, if_false, dm_pu]
          exact hq _ g1
    by_cases hf : fights = []
    · simp only [hf, decide_true, Bool.not_true, Bool.false_eq_true, if_false, dm_pu, dm_bd]
      exact main
    · simp only [hf, decide_false, Bool.not_false, if_true, dm_bd, dm_pu]
      refine dm_draw (by decide) (by decide) fun r _ _ => ?_
      by_cases hr : r = 0
      · simp only [hr, decide_true, if_true, dm_bd, dm_pu]
        refine dm_pick (List.length_pos_iff.mpr hf) (by have : b.2.length * 16 ≤ 16 * 16 := Nat.mul_le_mul_right _ l1; omega) fun p hp => hq _ fun p' hp' => ?_
        rw [List.mem_singleton.mp hp']
        exact f1 p hp
      · simp only [hr, decide_false, Bool.false_eq_true, if_false, dm_bd, dm_pu]
        exact main
end Zl
namespace Zl
open PySem PySem.Spec PyProof.Rows L2 Zm
open WM (pu bd)
open LO (lf)
theorem isBack_ev (o : Od) : (bd (ixD (oD o) (0 : Int)) fun x11 => eqO (eD x11) (PyData.str ("back" : Str))) = some (match o with | .back _ _ => true | _ => false) := by
  cases o <;> rfl
theorem lorders_ok {b : BoardT} (hb : GB b) {Q : List PyData → Prop} (hq : ∀ os, GO b os → Q (os.map oD)) : p_lorders b Q := by
  have l1 := hb.p.pl
  unfold p_lorders
  simp only [dm_bd, dm_pu]
  refine lgos_ok hb fun gos hg => ?_
  refine dm_for (fun pre s => ∃ os : List Od, s = os.map oD ∧ os.length = pre.length ∧ ∀ (i : Nat) (p : Int × Int) (o : Od), b.2[i]? = some p → os[i]? = some o → OkO b p.1 o) _ _ ⟨[], rfl, rfl, fun i p o _ h => by simp at h⟩ ?_ ?_
  · rintro pre ⟨n', q⟩ post e s ⟨os, rfl, hl, ho⟩ Q' hQ'
    have hin : (n', q) ∈ enu b.2 := by rw [e]; exact List.mem_append_right _ (List.mem_cons_self ..)
    have hn : n' = (pre.length : Int) ∧ b.2[pre.length]? = some q := by
      have h1 : (enu b.2)[pre.length]? = some (n', q) := by rw [e]; simp
      unfold enu at h1
      rw [enuF_get] at h1
      cases z : b.2[pre.length]? with
      | none => rw [z] at h1; cases h1
      | some x => rw [z] at h1; cases h1; exact ⟨by rw [Nat.zero_add], rfl⟩
    obtain ⟨rfl, hq0⟩ := hn
    have hpl : pre.length < b.2.length := (List.getElem?_eq_some_iff.mp hq0).1
    have fin : ∀ o, OkO b q.1 o → Q' (os.map oD ++ [oD o]) := fun o h => hQ' _ ⟨os ++ [o], by rw [List.map_append]; rfl, by rw [List.length_append, List.length_append, hl]; rfl, fun i p o' hp ho' => by
      by_cases hi : i < os.length
      · rw [List.getElem?_append_left hi] at ho'
        exact ho i p o' hp ho'
      · rw [List.getElem?_append_right (by omega)] at ho'
        cases hz : i - os.length with
        | zero =>
          rw [hz] at ho'
          cases ho'
          have : i = pre.length := by omega
          rw [this, hq0] at hp
          cases hp
          exact h
        | succ m => rw [hz] at ho'; simp at ho'⟩
    have pshe : ∀ x, psh (os.map oD) x = some (os.map oD ++ [x]) := fun x => psh_ok (by rw [List.length_map]; omega)
    unfold p0_lorders
    simp only [dm_bd, dm_pu]
    cases hd : dget gos q.1 with
    | some g =>
      simp only [Option.isSome_some, if_true, dm_bd, dm_pu, dm_lfs, pshe]
      exact fin (.go g) (hg _ (dget_mem hd)).2
    | none =>
      simp only [Option.isSome_none, Bool.false_eq_true, if_false, dm_bd, dm_pu, dm_lfs, lorders_of_ok hb hq0]
      have okm : ∀ y ∈ (ordsL b q.1).map oD, ∃ o, y = oD o ∧ OkO b q.1 o := fun y hy => by
        obtain ⟨o, ho, rfl⟩ := List.mem_map.mp hy
        exact ⟨o, rfl, mem_ordsL.mp ho⟩
      have ml := ordsL_len hb q.1
      refine dm_comp (fun y => ∃ o, y = oD o ∧ OkO b q.1 o) _ (fun y hy Q2 h2 => ?_) fun good hgood hgl => ?_
      · obtain ⟨o, rfl, ho⟩ := okm y hy
        have fin2 : ∀ v : Bool, Q2 v := fun v => h2 v fun _ Q3 h3 => h3 _ ⟨o, rfl, ho⟩
        cases o with
        | stay => exact ⟨_, rfl, _, rfl, fin2 _⟩
        | go g => exact ⟨_, rfl, _, rfl, fin2 _⟩
        | back f g => exact ⟨_, rfl, _, rfl, _, rfl, _, rfl, _, rfl, _, rfl, fin2 _⟩
      · rw [List.length_map] at hgl
        simp only [lim_ok (xs := good) (by omega), dm_lfs]
        have lay : ∀ g : List PyData, (∀ y ∈ g, ∃ o, y = oD o ∧ OkO b q.1 o) → Lay (g.map eD) := fun g h => ⟨fun x hx => by
          obtain ⟨y, hy, rfl⟩ := List.mem_map.mp hx
          obtain ⟨o, rfl, _⟩ := h y hy
          exact oD_lay o, fun x hx => by
          obtain ⟨y, hy, rfl⟩ := List.mem_map.mp hx
          obtain ⟨o, rfl, _⟩ := h y hy
          exact oD_depth o⟩
        have last : ∀ g2 : List PyData, (∀ y ∈ g2, ∃ o, y = oD o ∧ OkO b q.1 o) → g2.length ≤ 5200 → drawD (7 : Int) (fun way_26 => (lf (neO ((eL eD) g2) ((eL eD) [])) : Dm Bool) fun k28 => (if k28 = true then pu (decide (way_26 < (5 : Int))) else pu false : Dm Bool) fun k29 => (if k29 = true then pu g2 else if (decide (way_26 = (5 : Int))) = true then pu ((ordsL b q.1).map oD) else pu (cutL ((ordsL b q.1).map oD) none (some (1 : Int))) : Dm (List PyData)) fun menu_27 => pickD menu_27 fun x31 => (lf (psh (os.map oD) x31) : Dm (List PyData)) fun told_30 => Q' told_30) := fun g2 h2 l2 => by
          refine dm_draw (by decide) (by decide) fun r _ _ => ?_
          rw [neO_nil (lay g2 h2), dm_lfs]
          have pick : ∀ m : List PyData, (∀ y ∈ m, ∃ o, y = oD o ∧ OkO b q.1 o) → 0 < m.length → m.length ≤ 5200 → pickD m fun x31 => (lf (psh (os.map oD) x31) : Dm (List PyData)) fun told_30 => Q' told_30 := fun m hm h0 hl => dm_pick h0 (by omega) fun y hy => by
            obtain ⟨o, rfl, ho⟩ := hm y hy
            rw [pshe, dm_lfs]
            exact fin o ho
          have rest_ : (if (decide (r = (5 : Int))) = true then pu ((ordsL b q.1).map oD) else pu (cutL ((ordsL b q.1).map oD) none (some (1 : Int))) : Dm (List PyData)) fun menu_27 => pickD menu_27 fun x31 => (lf (psh (os.map oD) x31) : Dm (List PyData)) fun told_30 => Q' told_30 := by
            by_cases h5 : r = 5
            · simp only [h5, decide_true, if_true, dm_pu]
              exact pick _ okm (by rw [List.length_map]; exact Nat.succ_pos _) (by rw [List.length_map]; exact ml)
            · simp only [h5, decide_false, Bool.false_eq_true, if_false, dm_pu]
              rw [cutL_take (by decide)]
              exact pick _ (fun y hy => okm y (List.mem_of_mem_take hy)) (by rw [List.length_take, List.length_map]; exact Nat.lt_min.mpr ⟨by decide, Nat.succ_pos _⟩) (by rw [List.length_take, List.length_map]; omega)
          cases g2 with
          | nil =>
            simp only [List.isEmpty_nil, Bool.not_true, Bool.false_eq_true, if_false, dm_pu]
            exact rest_
          | cons y ys =>
            simp only [List.isEmpty_cons, Bool.not_false, if_true, dm_pu]
            by_cases h5 : r < 5
            · simp only [h5, decide_true, if_true, dm_pu]
              exact pick _ h2 (Nat.succ_pos _) l2
            · simp only [h5, decide_false, Bool.false_eq_true, if_false]
              exact rest_
        rw [neO_nil (lay good hgood), dm_lfs]
        cases hgd : (!good.isEmpty) with
        | true =>
          simp only [if_true, dm_pu]
          exact last good hgood (by omega)
        | false =>
          simp only [Bool.false_eq_true, if_false, dm_bd]
          refine dm_comp (fun y => ∃ o, y = oD o ∧ OkO b q.1 o) _ (fun y hy Q2 h2 => ?_) fun good2 hgood2 hgl2 => ?_
          · obtain ⟨o, rfl, ho⟩ := okm y hy
            have fin2 : ∀ v : Bool, Q2 v := fun v => h2 v fun _ Q3 h3 => h3 _ ⟨o, rfl, ho⟩
            cases o with
            | stay => exact ⟨_, rfl, _, rfl, fin2 _⟩
            | go g => exact ⟨_, rfl, _, rfl, fin2 _⟩
            | back f g => exact ⟨_, rfl, _, rfl, _, rfl, _, rfl, _, rfl, fin2 _⟩
          · rw [List.length_map] at hgl2
            simp only [lim_ok (xs := good2) (by omega), dm_lfs]
            exact last good2 hgood2 (by omega)
  · rintro s ⟨os, rfl, hl, ho⟩
    exact hq os ⟨by rw [hl, enu_len], ho⟩
end Zl
namespace Zl
open PySem PySem.Spec PyProof.Rows L2 Zm
open WM (pu bd)
open LO (lf)
theorem place_in_ok (b : BoardT) (f : Int) : p_place_in b f = some ((at? b.2 f).map Int.ofNat) := by
  unfold p_place_in
  rw [ev_find (b := fun (st2 : Unit) (y3 : Int × Int × Int) => p0_place_in f y3.1 y3.2) (fun y => if decide (y.2.1 = f) = true then some (some y.1) else none) (enu b.2) fun x _ => ?_, findSome_enu]
  · cases at? b.2 f <;> rfl
  · unfold p0_place_in
    by_cases h : x.2.1 = f
    · simp only [h, decide_true, if_true, ev_bd, ev_pu]
    · simp only [h, decide_false, Bool.false_eq_true, if_false, ev_bd, ev_pu]
theorem goer_ok (o : Od) : p_goer (oD o) = some (match o with | .go _ => true | _ => false) := by cases o <;> rfl
theorem is_for_ok (f g : Int) (o : Od) : p_is_for (oD (.back f g)) (oD o) = some (fitB f g o) := by
  have e0 : toP3 some some some (oD (.back f g)) = some (PyData.str "back", PyData.int f, PyData.int g) := rfl
  unfold p_is_for fitB
  simp only [ev_lf, e0, ev_bd, eD_ev, eqO_I]
  by_cases h : g = f
  · simp only [h, decide_true, if_true, goer_ok, ev_bd, ev_pu]
    cases o <;> rfl
  · simp only [h, decide_false, Bool.false_eq_true, if_false]
    exact eqO_go o g
theorem at_in {b : BoardT} {os : List Od} (ho : GO b os) {f : Int} (h : ∃ p ∈ b.2, p.1 = f) : ∃ (i : Nat) (o : Od), at? b.2 f = some i ∧ os[i]? = some o ∧ (((enu b.2).filter fun y => decide (y.2.1 = f)).map fun y => y.1)[0]? = some (i : Int) := by
  obtain ⟨i, p, h1, h2, h3⟩ := at_some h
  have hi : i < os.length := by rw [ho.len]; exact (List.getElem?_eq_some_iff.mp h2).1
  refine ⟨i, os[i], h1, List.getElem?_eq_getElem hi, ?_⟩
  have := filter_enu b.2 f
  rw [h1] at this
  rw [← List.head?_eq_getElem?]
  exact this
theorem fits_ok {b : BoardT} {os : List Od} (ho : GO b os) {n : Nat} {f g : Int} (hn : os[n]? = some (.back f g)) (h : ∃ p ∈ b.2, p.1 = f) (hl : b.2.length ≤ 16) : ∃ v : Bool, p_fits b (os.map oD) (n : Int) = some v ∧ p_lback_fits b (os.map oD) (n : Int) = some v := by
  obtain ⟨i, o, h1, h2, h3⟩ := at_in ho h
  have e1 : (os.map oD)[n]? = some (oD (.back f g)) := by rw [List.getElem?_map, hn]; rfl
  have e2 : (os.map oD)[i]? = some (oD o) := by rw [List.getElem?_map, h2]; rfl
  refine ⟨fitB f g o, ?_, ?_⟩
  · unfold p_fits
    simp only [ev_lf, ixO_nat, e1, ev_bd]
    show bd (bd (bd (μ := Option) (p_place_in b f) fun x4 => x4) fun x5 => ixO (os.map oD) x5) (fun x7 => p_is_for (oD (.back f g)) x7) = _
    rw [place_in_ok, h1]
    show bd (ixO (os.map oD) (i : Int)) (fun x7 => p_is_for (oD (.back f g)) x7) = _
    rw [ixO_nat, e2, ev_bd, is_for_ok]
  · unfold p_lback_fits
    simp only [ev_lf, ixO_nat, e1, ev_bd]
    have c := ev_cmp (t := fun (y4 : Int × Int × Int) => eqO (.int y4.2.1) (.int f)) (e := fun (y4 : Int × Int × Int) => pu (μ := Option) y4.1) (fun y => decide (y.2.1 = f)) (fun y => y.1) (enu b.2) (fun _ _ => rfl) (fun _ _ _ => rfl)
    have e0 : toP3 some some some (oD (.back f g)) = some (PyData.str "back", PyData.int f, PyData.int g) := rfl
    have l0 : lim (((enu b.2).filter fun y => decide (y.2.1 = f)).map fun y => y.1) = some _ := lim_ok (by rw [List.length_map]; exact Nat.le_trans (List.length_filter_le _ _) (by rw [enu_len]; omega))
    have x0 : ixO (((enu b.2).filter fun y => decide (y.2.1 = f)).map fun y => y.1) (0 : Int) = some (i : Int) := (ixO_nat (i := 0)).trans h3
    simp only [e0, ev_bd, eD_ev, c, l0, x0, ixO_nat, e2]
    show (if (!decide (g = f)) = true then eqO (oD o) (.tuple [.str "go", .int g]) else bd (ixD (oD o) (0 : Int)) fun x8 => neO x8 (.str "go")) = _
    unfold fitB
    by_cases h : g = f
    · simp only [h, decide_true, Bool.not_true, Bool.false_eq_true, if_false, if_true]
      cases o <;> rfl
    · simp only [h, decide_false, Bool.not_false, if_true, if_false]
      exact eqO_go o g
theorem law_in (ns : List Int) : p_law fun r => r = true := by
  unfold p_law
  simp only [dm_bd, ran1_ok (j := 5) (by decide) (by decide), dm_lfs]
  refine dm_forT (fun _ _ => True) (fun _ => False) (fun _ => False) _ _ trivial ?_ fun t ht => ?_
  · intro _ turn _ _ _ _ Q' hQ'
    have done := hQ' (.go ()) trivial
    unfold p0_law
    simp only [dm_bd, dm_pu]
    refine dm_draw (by decide) (by decide) fun r1 _ _ => dm_draw (by decide) (by decide) fun r2 _ _ => lboard_ok (by omega) (by omega) (by omega) (by omega) fun b hb hk hb0 hbm => lorders_ok hb fun os ho => ?_
    have hl := hb.p.pl
    have hol := ho.len
    rw [List.length_map]
    refine dm_draw (by omega) (by omega) fun r h0 h1 => ?_
    obtain ⟨n, rfl, hn⟩ := nat_of h0 h1
    have hp : b.2[n]? = some (b.2[n]'(by omega)) := List.getElem?_eq_getElem (by omega)
    generalize (b.2[n]'(by omega)) = p at hp
    simp only [lorders_of_ok hb hp, dm_lfs]
    have hml := ordsL_len hb p.1
    refine dm_for (fun pre s => (∀ v ∈ s, ∃ os', v = os'.map oD ∧ GO b os') ∧ s.length ≤ 1 + pre.length) _ _ ⟨fun v hv => ⟨os, List.mem_singleton.mp hv, ho⟩, by simp⟩ ?_ ?_
    · intro pre x post e s ⟨i1, i2⟩ Q2 hQ2
      have hx : x ∈ (ordsL b p.1).map oD := by rw [e]; exact List.mem_append_right _ (List.mem_cons_self ..)
      have hpl : pre.length ≤ 5200 := by
        have := congrArg List.length e
        rw [List.length_map, List.length_append, List.length_cons] at this
        omega
      obtain ⟨o, hoo, rfl⟩ := List.mem_map.mp hx
      have same := hQ2 s ⟨i1, by rw [List.length_append]; omega⟩
      have put : (lf (psh s ((os.set n o).map oD)) : Dm _) fun tried_10 => Q2 tried_10 := by
        rw [psh_ok (by omega), dm_lfs]
        refine hQ2 _ ⟨fun v hv => ?_, by simp only [List.length_append, List.length_singleton]; omega⟩
        rcases List.mem_append.mp hv with hv | hv
        · exact i1 v hv
        · exact ⟨os.set n o, List.mem_singleton.mp hv, ho.set hp (mem_ordsL.mp hoo)⟩
      have cat : catO (cutL (os.map oD) none (some (n : Int))) [oD o] = some (cutL (os.map oD) none (some (n : Int)) ++ [oD o]) := cat_ok (by rw [cutL_map, List.length_map, List.length_singleton]; have := cutL_len os none (some (n : Int)); omega)
      have cat2 : catO (cutL (os.map oD) none (some (n : Int)) ++ [oD o]) (cutL (os.map oD) (some ((n : Int) + 1)) none) = some ((os.set n o).map oD) := by
        rw [cat_ok (by rw [cutL_map, cutL_map, List.length_append, List.length_map, List.length_map, List.length_singleton]; have := cutL_len os none (some (n : Int)); have := cutL_len os (some ((n : Int) + 1)) none; omega), cut_set (by omega)]
      unfold p1_law
      simp only [dm_bd, dm_pu]
      cases o with
      | stay => exact ⟨_, rfl, _, rfl, same⟩
      | go g => exact ⟨_, rfl, _, rfl, same⟩
      | back f g =>
        refine ⟨_, rfl, _, rfl, ?_⟩
        show (lf (catO (cutL (os.map oD) none (some (n : Int))) [oD (.back f g)]) : Dm _) (fun x11 => (lf (catO x11 (cutL (os.map oD) (some ((n : Int) + 1)) none)) : Dm _) fun x12 => (lf (psh s x12) : Dm _) fun tried_10 => Q2 tried_10)
        rw [cat, dm_lfs, cat2, dm_lfs]
        exact put
    · rintro tried ⟨i1, i2⟩
      refine dm_forT (fun _ _ => True) (fun _ => False) (fun _ => False) _ _ trivial ?_ fun t ht => ?_
      · intro pre v post e _ _ Q2 hQ2
        obtain ⟨os', rfl, ho'⟩ := i1 v (by rw [e]; exact List.mem_append_right _ (List.mem_cons_self ..))
        have hol' := ho'.len
        have rp := reprO_ok (x := eL eD [eBoard b, eT eD (os'.map oD)]) (Sz.lst (SzL.c hb.sz (.c (ho'.sz hb) .n0)))
        unfold p2_law
        simp only [dm_bd, dm_pu]
        refine ⟨_, rp, ?_⟩
        refine dm_forT (fun _ _ => True) (fun _ => False) (fun _ => False) _ _ trivial ?_ fun t ht => ?_
        · rintro pre ⟨m', y⟩ post e _ _ Q3 hQ3
          have done3 := hQ3 (.go ()) trivial
          obtain ⟨m, rfl, hm⟩ := mem_enu.mp (show (m', y) ∈ enu (os'.map oD) by rw [e]; exact List.mem_append_right _ (List.mem_cons_self ..))
          rw [List.getElem?_map] at hm
          cases ho2 : os'[m]? with
          | none => rw [ho2] at hm; cases hm
          | some o =>
            rw [ho2] at hm
            cases hm
            unfold p3_law
            simp only [dm_bd, dm_pu]
            cases o with
            | stay => exact ⟨_, rfl, _, rfl, done3⟩
            | go g => exact ⟨_, rfl, _, rfl, done3⟩
            | back f g =>
              have hmb : b.2[m]? = some (b.2[m]'(by have := (List.getElem?_eq_some_iff.mp ho2).1; omega)) := List.getElem?_eq_getElem _
              obtain ⟨v, v1, v2⟩ := fits_ok ho' ho2 (ho'.ok m _ _ hmb ho2).2.1 hl
              have rv := reprO_ok (x := PyData.bool v) (Sz.bool (k := 0) (w := 0))
              have rest_ : ∀ k21 : Bool, (if k21 = true then bd (bd (lf (p_lback_fits b (os'.map oD) (m : Int)) : Dm _) fun x23 => lf (reprO (PyData.bool x23))) fun due_22 => bd (if (decide (((m : Int).fmod 3) = (1 : Int))) = true then lf (p_fits b (os'.map oD) (m : Int)) else lf (p_fits b (os'.map oD) (m : Int))) fun told_24 => bd (bd (bd (lf (reprO (PyData.bool told_24))) fun x25 => pu (!decide (x25 = due_22))) fun k28 => if k28 = true then pu true else bd (bd (lf (p_fits b (os'.map oD) (m : Int))) fun x26 => lf (reprO (PyData.bool x26))) fun x27 => pu (!decide (x27 = due_22))) fun k29 => if k29 = true then bd (pu false) fun r => pu (Tn.rt r) else bd (pu ()) fun _ => pu (Tn.go ()) else bd (pu ()) fun _ => pu (Tn.go ()) : Dm (Tn Unit Bool)) Q3 := fun k21 => by
                cases k21 with
                | false => exact done3
                | true =>
                  simp only [if_true, v1, v2, ite_self, dm_bd, dm_lfs, rv, dm_pu, decide_true, Bool.not_true, Bool.false_eq_true, if_false]
                  exact done3
              have eqs : ∃ w, eqO (eT eD (os'.map oD)) (eT eD (os.map oD)) = some w := by
                rw [eTD, eTD]
                exact eqO_sh (shaped_tup (lay_os _)) (shaped_tup (lay_os _))
              obtain ⟨w, hw⟩ := eqs
              refine ⟨_, rfl, _, rfl, ?_⟩
              refine ⟨w, hw, ?_⟩
              cases w with
              | true => exact rest_ true
              | false => exact rest_ _
        · cases t with
          | dn _ =>
            refine ⟨_, rp, ?_⟩
            simp only [decide_true, Bool.not_true, Bool.false_eq_true, if_false]
            exact hQ2 (.go ()) trivial
          | rt r => exact ht.elim
      · cases t with
        | dn _ => exact done
        | rt r => exact ht.elim
  · cases t with
    | dn _ => rfl
    | rt r => exact ht.elim
theorem law_true (ns : List Int) (hl : ns.length ≤ 63) : ∃ M', d_law [.scr ns] [] = .ok (.d (.bool true)) M' :=
  law_of rfl (deck_ok hl) _ (fun h0 => q_law ns [] h0) (by decide) (law_in ns)
end Zl
open PySem PySem.W PyProof.Rows
set_option maxRecDepth 100000 in
set_option maxHeartbeats 0 in
theorem PySem.Challenge.cw_whateverothers_k09_whole_backs_that_fit_holds : PySem.Challenge.rw_whateverothers_k09_whole_backs_that_fit.Holds := by
  w_on; o_law; k_head; (case hw => w_witness2)
  k_fill
  refine Zm.walkZ (l := PySem.Challenge.rw_whateverothers_k09_whole_backs_that_fit) (n := 63) (k := 5) (x := "script") (den := Zl.d_law) rfl (by decide) rfl ⟨rfl, by decide, by decide⟩ (by decide +kernel) ?S (fun w h Y => PySem.W.kIn_of Y) ?F (fun ns h => Zl.law_true ns h)
  case S => intro w; first | rfl | decide +kernel | k_is
  case F =>
    intro w mg fa h KX G hmg
    refine' (fun (T : Zl.Txt _ mg) => ?zz) (Zl.Txt.mk (Zm.defAt KX G ?a_place_in ?l_place_in ?c_place_in ?k_place_in) (Zm.defAt KX G ?a_goer ?l_goer ?c_goer ?k_goer) (Zm.defAt KX G ?a_is_for ?l_is_for ?c_is_for ?k_is_for) (Zm.defAt KX G ?a_fits ?l_fits ?c_fits ?k_fits) (Zm.defAt KX G ?a_ldeck ?l_ldeck ?c_ldeck ?k_ldeck) (Zm.defAt KX G ?a_ldraw ?l_ldraw ?c_ldraw ?k_ldraw) (Zm.defAt KX G ?a_lpick ?l_lpick ?c_lpick ?k_lpick) (Zm.defAt KX G ?a_lmixed ?l_lmixed ?c_lmixed ?k_lmixed) (Zm.defAt KX G ?a_lbeside ?l_lbeside ?c_lbeside ?k_lbeside) (Zm.defAt KX G ?a_lchart ?l_lchart ?c_lchart ?k_lchart) (Zm.defAt KX G ?a_lpieces ?l_lpieces ?c_lpieces ?k_lpieces) (Zm.defAt KX G ?a_lorders_of ?l_lorders_of ?c_lorders_of ?k_lorders_of) (Zm.defAt KX G ?a_lgos ?l_lgos ?c_lgos ?k_lgos) (Zm.defAt KX G ?a_lorders ?l_lorders ?c_lorders ?k_lorders) (Zm.defAt KX G ?a_lboard ?l_lboard ?c_lboard ?k_lboard) (Zm.defAt KX G ?a_lback_fits ?l_lback_fits ?c_lback_fits ?k_lback_fits) (Zm.defAt KX G ?a_law ?l_law ?c_law ?k_law) (PySem.W.mg_none_of KX G ?z_len) (PySem.W.mg_none_of KX G ?z_int) (PySem.W.mg_none_of KX G ?z_tuple) (PySem.W.mg_none_of KX G ?z_list) (PySem.W.mg_none_of KX G ?z_max) (PySem.W.mg_none_of KX G ?z_sorted) (PySem.W.mg_none_of KX G ?z_repr) (PySem.W.mg_none_of KX G ?z_range) (PySem.W.mg_none_of KX G ?z_enumerate))
    (case a_place_in => k_is); (case l_place_in => k_is); (case c_place_in => k_is); (case k_place_in => k_is); (case a_goer => k_is); (case l_goer => k_is); (case c_goer => k_is); (case k_goer => k_is); (case a_is_for => k_is); (case l_is_for => k_is); (case c_is_for => k_is); (case k_is_for => k_is); (case a_fits => k_is); (case l_fits => k_is); (case c_fits => k_is); (case k_fits => k_is); (case a_ldeck => k_is); (case l_ldeck => k_is); (case c_ldeck => k_is); (case k_ldeck => k_is); (case a_ldraw => k_is); (case l_ldraw => k_is); (case c_ldraw => k_is); (case k_ldraw => k_is); (case a_lpick => k_is); (case l_lpick => k_is); (case c_lpick => k_is); (case k_lpick => k_is); (case a_lmixed => k_is); (case l_lmixed => k_is); (case c_lmixed => k_is); (case k_lmixed => k_is); (case a_lbeside => k_is); (case l_lbeside => k_is); (case c_lbeside => k_is); (case k_lbeside => k_is); (case a_lchart => k_is); (case l_lchart => k_is); (case c_lchart => k_is); (case k_lchart => k_is); (case a_lpieces => k_is); (case l_lpieces => k_is); (case c_lpieces => k_is); (case k_lpieces => k_is); (case a_lorders_of => k_is); (case l_lorders_of => k_is); (case c_lorders_of => k_is); (case k_lorders_of => k_is); (case a_lgos => k_is); (case l_lgos => k_is); (case c_lgos => k_is); (case k_lgos => k_is); (case a_lorders => k_is); (case l_lorders => k_is); (case c_lorders => k_is); (case k_lorders => k_is); (case a_lboard => k_is); (case l_lboard => k_is); (case c_lboard => k_is); (case k_lboard => k_is); (case a_lback_fits => k_is); (case l_lback_fits => k_is); (case c_lback_fits => k_is); (case k_lback_fits => k_is); (case a_law => k_is); (case l_law => k_is); (case c_law => k_is); (case k_law => k_is); (case z_len => k_is); (case z_int => k_is); (case z_tuple => k_is); (case z_list => k_is); (case z_max => k_is); (case z_sorted => k_is); (case z_repr => k_is); (case z_range => k_is); (case z_enumerate => k_is)
    case zz =>
      obtain ⟨fd, hb, hF⟩ := Zm.defZ_law (P := (PySem.Challenge.rw_whateverothers_k09_whole_backs_that_fit).prog) (w := w) hmg Zl.bi_law (fun base => Zl.ok_law (base := base) T) T.f_law
      exact ⟨fd, hb, fun base _ _ => hF base⟩
