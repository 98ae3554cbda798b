import PyProof.Rows.All
import HandS.Defaults
import HandS.Ends
import HandS.Exc
import HandS.ForMost
import HandS.Head0
import HandS.Head1
import HandS.Head2
import HandS.HeadEnd
import HandS.HeadHook1
import HandS.HeadHook2
import HandS.IsInst
import HandS.MapJoin
import HandS.More
import HandS.StrMore
import HandS.Strs
import HandS.Style
import HandS.Text
import HandS.TupAny
import HandS.Wide
import HandS.WideBits
import HandS.WordsExc
import HandS.Zip
import KE.DataFind
import KE.KDictCopyH
import KE.KDictDisplayH
import KE.KDictKeyed
import KE.KStateDown
import OpenK.AllK
import PyProof.P3In
import PyProof.ReprRoads
import PySem.Challenge.RW_fewestmethods_k31_bodies_judged
import Wide.All
import Wide.FinOn
set_option Elab.async false
set_option linter.all false
set_option maxRecDepth 100000
set_option maxHeartbeats 2000000
namespace DL
open PySem PySem.Spec L2
inductive D where
  | non | bl (b : Bool) | int (i : Int) | str (x : Str)
  | tup (xs : List D) | lst (xs : List D) | dct (kvs : List (D × D))
  | obj (c : Nat) (fs : List D) | oth (v : V) | scr (ns : List Int)
  deriving Inhabited
/-- what a name, an expression stands for: data, or a cell -/
inductive W where
  | d (x : D) | c (i : Nat) | dead | tp (xs : List D)
  deriving Inhabited
/-- an owned object -/
inductive Cell where
  | lst (xs : List D) | dct (kvs : List (D × D)) (o : Obj) | obj (c : Nat) (fs : List (Option W)) | frz (x : D)
mutual
def key : D → Option NestedKey
  | .non => some .none
  | .bl b => some (.num (if b then 1 else 0))
  | .int i => some (.num i)
  | .str x => some (.text x)
  | .tup ds => (keys ds).map .tup
  | _ => none
def keys : List D → Option (List NestedKey)
  | [] => some []
  | d :: ds => match key d, keys ds with
    | some k, some ks => some (k :: ks)
    | _, _ => none
end
def isTupK : NestedKey → Bool
  | .tup _ => true
  | _ => false
/-- the raw entries of a dict, by values: the keys' hashes are those of ks -/
def RawE (w : World) : List NestedKey → List (V × V) → List DictEntry → Prop
  | [], ps, es => ps = [] ∧ es = []
  | k :: ks, ps, es => ∃ p q e f, ps = p :: q ∧ es = e :: f ∧ e.hash = k.hash w ∧ RelV p.1 e.key ∧ RelV p.2 e.val ∧ RawE w ks q f
/-- the keys are of one kind, apart, not deep -/
structure KeysOk (ks : List NestedKey) : Prop where
  nd : ks.Nodup
  one : (∀ k ∈ ks, isTupK k = false) ∨ ∀ k ∈ ks, isTupK k = true
  deep : ∀ k ∈ ks, k.depth ≤ 8
structure RawO (w : World) (ks : List NestedKey) (ps : List (V × V)) (o : Obj) : Prop where
  ex : o.ExactDict
  dat : ∃ es ep, o.data = .dict es ep ∧ RawE w ks ps es.toList
  ok : KeysOk ks
  len : ks.length ≤ sizeLine
/-- the very object at a, tracked -/
def dcx (a : Addr) (o : Obj) : HO := .ext fun h => h.get? a = some o
/-- what is fixed through a law: the written part, the world, the classes (their address, the names of their fields) -/
structure Gam where
  K : PySem.W.Frag
  w : World
  cls : Nat → Option (Addr × List Str)
def DcAt (G : Gam) (F : Hp) (a : Addr) (o : Obj) : Prop := (a == sysModules) = false ∧ (F a = some (dcx a o) ∨ G.K.lookup a = some o)
/-- at a stands a tuple that has no dict of its own -/
def PTu (K : PySem.W.Frag) (F : Hp) (a : Addr) (xs : List V) : Prop := ∃ o : Obj, o.dict = none ∧ (F a = some (.frz o (.tup xs)) ∨
  ∃ (its : Array Value) (n : Nat), K.lookup a = some o ∧ o.cls = .type "tuple" ∧ o.data = .seq its n ∧ its.size ≤ sizeLine ∧ Vals xs its.toList)
theorem PTu.sq {K : PySem.W.Frag} {F : Hp} {a : Addr} {xs : List V} (h : PTu K F a xs) : SqT K F a xs := by
  obtain ⟨o, _, h | ⟨its, n, h1, h2, h3, h4, h5⟩⟩ := h
  · exact .inl (.inr ⟨o, h⟩)
  · exact .inr ⟨o, its, n, h1, h2, h3, h4, h5⟩
theorem PTu.mono {K : PySem.W.Frag} {F F' : Hp} {a : Addr} {xs : List V} (e : Same F F') (h : PTu K F a xs) : PTu K F' a xs := by
  obtain ⟨o, h0, h⟩ := h
  exact ⟨o, h0, h.imp (e _ _) id⟩
/-- the fields nm of an instance stand for vs, nothing else is there -/
def FldsAt (nm : List Str) (gs : List (Str × V)) (vs : List (Option V)) : Prop :=
  vs.length = nm.length ∧ gs.length ≤ 900 ∧ (∀ (i : Nat) f, nm[i]? = some f → gs.lookup f = (vs[i]?).join) ∧ ∀ f, f ∉ nm → gs.lookup f = none
mutual
/-- the value v stands for the datum, by what is fixed (F) -/
def Rep (G : Gam) (F : Hp) : D → V → Prop
  | .non, v => v = .non
  | .bl b, v => v = .bl b
  | .int i, v => v = .int i
  | .str x, v => v = .str x ∧ PyData.strOk x = true
  | .tup ds, v => ∃ a vs, v = .ref a ∧ PTu G.K F a vs ∧ Reps G F ds vs
  | .lst ds, v => ∃ a vs, v = .ref a ∧ F a = some (.lst vs) ∧ Reps G F ds vs
  | .dct kvs, v => ∃ a o ks ps, v = .ref a ∧ DcAt G F a o ∧ RawO G.w ks ps o ∧ RepKV G F kvs ks ps
  | .obj c ds, v => ∃ a C nm dx gs vs, v = .ref a ∧ G.cls c = some (C, nm) ∧ F a = some (.ins C dx gs) ∧ FldsAt nm gs (vs.map some) ∧ Reps G F ds vs
  | .oth u, v => v = u
  | .scr ns, v => ∃ a, v = .ref a ∧ SqL G.K F a (ns.map V.int)
def Reps (G : Gam) (F : Hp) : List D → List V → Prop
  | [], vs => vs = []
  | d :: ds, vs => ∃ v r, vs = v :: r ∧ Rep G F d v ∧ Reps G F ds r
def RepKV (G : Gam) (F : Hp) : List (D × D) → List NestedKey → List (V × V) → Prop
  | [], ks, ps => ks = [] ∧ ps = []
  | (a, b) :: kvs, ks, ps => ∃ k p r q, ks = k :: r ∧ ps = p :: q ∧ key a = some k ∧ Rep G F a p.1 ∧ Rep G F b p.2 ∧ RepKV G F kvs r q
end
theorem SqL.mono {K : PySem.W.Frag} {F F' : Hp} {a : Addr} {xs : List V} (e : Same F F') (h : SqL K F a xs) : SqL K F' a xs := e.seq h
theorem SqT.mono {K : PySem.W.Frag} {F F' : Hp} {a : Addr} {xs : List V} (e : Same F F') (h : SqT K F a xs) : SqT K F' a xs := by
  rcases h with (h | ⟨o, h⟩) | h
  · exact .inl (.inl (e _ _ h))
  · exact .inl (.inr ⟨o, e _ _ h⟩)
  · exact .inr h
theorem DcAt.mono {G : Gam} {F F' : Hp} {a : Addr} {o : Obj} (e : Same F F') (h : DcAt G F a o) : DcAt G F' a o := ⟨h.1, h.2.imp (e _ _) id⟩
mutual
theorem Rep.mono {G : Gam} {F F' : Hp} (e : Same F F') : ∀ (x : D) (v : V), Rep G F x v → Rep G F' x v
  | .non, _, h | .bl _, _, h | .int _, _, h | .str _, _, h | .oth _, _, h => by simpa only [Rep] using h
  | .tup ds, v, h => by
    simp only [Rep] at h ⊢
    obtain ⟨a, vs, h1, h2, h3⟩ := h
    exact ⟨a, vs, h1, PTu.mono e h2, Reps.mono e ds vs h3⟩
  | .lst ds, v, h => by
    simp only [Rep] at h ⊢
    obtain ⟨a, vs, h1, h2, h3⟩ := h
    exact ⟨a, vs, h1, e _ _ h2, Reps.mono e ds vs h3⟩
  | .dct kvs, v, h => by
    simp only [Rep] at h ⊢
    obtain ⟨a, o, ks, ps, h1, h2, h3, h4⟩ := h
    exact ⟨a, o, ks, ps, h1, h2.mono e, h3, RepKV.mono e kvs ks ps h4⟩
  | .obj c ds, v, h => by
    simp only [Rep] at h ⊢
    obtain ⟨a, C, nm, dx, gs, vs, h1, h2, h3, h4, h5⟩ := h
    exact ⟨a, C, nm, dx, gs, vs, h1, h2, e _ _ h3, h4, Reps.mono e ds vs h5⟩
  | .scr ns, v, h => by
    simp only [Rep] at h ⊢
    obtain ⟨a, h1, h2⟩ := h
    exact ⟨a, h1, SqL.mono e h2⟩
theorem Reps.mono {G : Gam} {F F' : Hp} (e : Same F F') : ∀ (xs : List D) (vs : List V), Reps G F xs vs → Reps G F' xs vs
  | [], _, h => by simpa only [Reps] using h
  | d :: ds, vs, h => by
    simp only [Reps] at h ⊢
    obtain ⟨v, r, h1, h2, h3⟩ := h
    exact ⟨v, r, h1, Rep.mono e d v h2, Reps.mono e ds r h3⟩
theorem RepKV.mono {G : Gam} {F F' : Hp} (e : Same F F') : ∀ (kvs : List (D × D)) (ks : List NestedKey) (ps : List (V × V)), RepKV G F kvs ks ps → RepKV G F' kvs ks ps
  | [], _, _, h => by simpa only [RepKV] using h
  | (a, b) :: kvs, ks, ps, h => by
    simp only [RepKV] at h ⊢
    obtain ⟨k, p, r, q, h1, h2, h3, h4, h5, h6⟩ := h
    exact ⟨k, p, r, q, h1, h2, h3, Rep.mono e a p.1 h4, Rep.mono e b p.2 h5, RepKV.mono e kvs r q h6⟩
end
theorem Reps.length {G : Gam} {F : Hp} : ∀ {xs : List D} {vs : List V}, Reps G F xs vs → vs.length = xs.length
  | [], vs, h => by simp only [Reps] at h; subst h; rfl
  | d :: ds, vs, h => by
    simp only [Reps] at h
    obtain ⟨v, r, rfl, _, h3⟩ := h
    simp [Reps.length h3]
theorem Reps.get {G : Gam} {F : Hp} : ∀ {xs : List D} {vs : List V} {i : Nat} {x : D}, Reps G F xs vs → xs[i]? = some x → ∃ v, vs[i]? = some v ∧ Rep G F x v
  | [], vs, i, x, h, e => by simp at e
  | d :: ds, vs, 0, x, h, e => by
    simp only [Reps] at h
    obtain ⟨v, r, rfl, h2, h3⟩ := h
    simp at e; subst e
    exact ⟨v, rfl, h2⟩
  | d :: ds, vs, i + 1, x, h, e => by
    simp only [Reps] at h
    obtain ⟨v, r, rfl, h2, h3⟩ := h
    obtain ⟨u, e1, e2⟩ := Reps.get (i := i) h3 (by simpa using e)
    exact ⟨u, by simpa using e1, e2⟩
theorem Reps.append {G : Gam} {F : Hp} : ∀ {xs ys : List D} {vs us : List V}, Reps G F xs vs → Reps G F ys us → Reps G F (xs ++ ys) (vs ++ us)
  | [], ys, vs, us, h, k => by simp only [Reps] at h; subst h; exact k
  | d :: ds, ys, vs, us, h, k => by
    simp only [Reps] at h
    obtain ⟨v, r, rfl, h2, h3⟩ := h
    simp only [List.cons_append, Reps]
    exact ⟨v, r ++ us, rfl, h2, Reps.append h3 k⟩
theorem Reps.one {G : Gam} {F : Hp} {x : D} {v : V} (h : Rep G F x v) : Reps G F [x] [v] := by
  simp only [Reps]; exact ⟨v, [], rfl, h, rfl⟩
theorem Reps.nil {G : Gam} {F : Hp} : Reps G F [] [] := by simp only [Reps]
theorem Reps.cons {G : Gam} {F : Hp} {x : D} {v : V} {xs : List D} {vs : List V} (h : Rep G F x v) (k : Reps G F xs vs) : Reps G F (x :: xs) (v :: vs) := by
  simp only [Reps]; exact ⟨v, vs, rfl, h, k⟩
/-- where the cells stand; what stands apart from all that is told -/
structure Pl where
  l : List Addr
  R : Hp
def Pl.add (ι : Pl) (p : Addr) : Pl := ⟨ι.l ++ [p], ι.R⟩
def Pl.cut (ι : Pl) (n : Nat) : Pl := ⟨ι.l.take n, ι.R⟩
abbrev Nv := List (Option W)
abbrev Cs := List Cell
def RepW (G : Gam) (F : Hp) (ι : Pl) : W → V → Prop
  | .d x, v => Rep G F x v
  | .c i, v => ∃ a, ι.l[i]? = some a ∧ v = .ref a
  | .dead, _ => True
  | .tp xs, v => ∃ a vs, v = .ref a ∧ SqT G.K F a vs ∧ Reps G F xs vs
def RepWO (G : Gam) (F : Hp) (ι : Pl) : Option W → Option V → Prop
  | none, none => True
  | some x, some v => RepW G F ι x v
  | _, _ => False
def CellAt (G : Gam) (F : Hp) (ι : Pl) (H : Hp) (a : Addr) : Cell → Prop
  | .lst xs => F a = none ∧ ∃ vs, H a = some (.lst vs) ∧ Reps G F xs vs
  | .dct kvs o => F a = none ∧ (a == sysModules) = false ∧ ∃ ks ps, H a = some (dcx a o) ∧ RawO G.w ks ps o ∧ RepKV G F kvs ks ps
  | .obj c fs => F a = none ∧ ∃ C nm dx gs vs, H a = some (.ins C dx gs) ∧ G.cls c = some (C, nm) ∧ FldsAt nm gs vs ∧ Paired (RepWO G F ι) fs vs
  | .frz x => F a ≠ none ∧ Rep G F x (.ref a)
/-- no address twice, but for what is fixed -/
def NdF (F : Hp) (l : List Addr) : Prop := ∀ (i j : Nat) (a : Addr), l[i]? = some a → l[j]? = some a → F a = none → i = j
theorem NdF.nil {F : Hp} : NdF F [] := fun i j a h => by simp at h
theorem NdF.mono {F F' : Hp} {l : List Addr} (e : Same F F') (h : NdF F l) : NdF F' l := fun i j a h1 h2 h3 => h i j a h1 h2 (e.free h3)
theorem NdF.snoc {F : Hp} {l : List Addr} {p : Addr} (h : NdF F l) (hp : p ∉ l) : NdF F (l ++ [p]) := fun i j a h1 h2 h3 => by
  by_cases hi : i < l.length
  · rw [List.getElem?_append_left hi] at h1
    by_cases hj : j < l.length
    · rw [List.getElem?_append_left hj] at h2
      exact h i j a h1 h2 h3
    · rw [List.getElem?_append_right (by omega)] at h2
      have h2 := List.mem_of_getElem? h2
      simp at h2; subst h2
      exact absurd (List.mem_of_getElem? h1) hp
  · have h1' := (List.getElem?_eq_some_iff.mp h1).1
    simp at h1'
    rw [List.getElem?_append_right (by omega)] at h1
    have h1 := List.mem_of_getElem? h1
    simp at h1; subst h1
    by_cases hj : j < l.length
    · rw [List.getElem?_append_left hj] at h2
      exact absurd (List.mem_of_getElem? h2) hp
    · have h2' := (List.getElem?_eq_some_iff.mp h2).1
      simp at h2'
      omega
theorem NdF.take {F : Hp} {l : List Addr} (h : NdF F l) (n : Nat) : NdF F (l.take n) := fun i j a h1 h2 h3 => by
  have f : ∀ {k : Nat}, (l.take n)[k]? = some a → l[k]? = some a := fun {k} q => by
    rw [List.getElem?_take] at q
    split at q
    · exact q
    · cases q
  exact h i j a (f h1) (f h2) h3
structure Sim (G : Gam) (F : Hp) (ι : Pl) (cs : Cs) (H : Hp) : Prop where
  same : Same F H
  len : ι.l.length = cs.length
  nd : NdF F ι.l
  cell : ∀ (i : Nat) x, cs[i]? = some x → ∃ a, ι.l[i]? = some a ∧ CellAt G F ι H a x
  fr : Same ι.R H
  ap : ∀ a, ι.R a ≠ none → F a = none ∧ a ∉ ι.l
def RepEnv (G : Gam) (F : Hp) (ι : Pl) (env : Nv) (σ : St) : Prop :=
  env.length = σ.length ∧ ∀ (i : Nat) x, env[i]? = some (some x) → ∃ v, σ[i]? = some (some v) ∧ RepW G F ι x v
/-- what grows -/
structure Ext (F F' : Hp) (ι ι' : Pl) : Prop where
  same : Same F F'
  pre : ι.l <+: ι'.l
  eR : ι'.R = ι.R
/-- the same, whatever stands apart -/
structure Ext0 (F F' : Hp) (ι ι' : Pl) : Prop where
  same : Same F F'
  pre : ι.l <+: ι'.l
theorem Ext.to0 {F F' : Hp} {ι ι' : Pl} (e : Ext F F' ι ι') : Ext0 F F' ι ι' := ⟨e.same, e.pre⟩
theorem Ext0.at_ {F F' : Hp} {ι ι' : Pl} (e : Ext0 F F' ι ι') {i : Nat} {a : Addr} (h : ι.l[i]? = some a) : ι'.l[i]? = some a := by
  obtain ⟨r, e⟩ := e.pre
  rw [← e, List.getElem?_append_left (List.getElem?_eq_some_iff.mp h).1]
  exact h
theorem Ext.refl {F : Hp} {ι : Pl} : Ext F F ι ι := ⟨Same.refl _, List.prefix_refl _, rfl⟩
theorem Ext.trans {F F' F'' : Hp} {ι ι' ι'' : Pl} (a : Ext F F' ι ι') (b : Ext F' F'' ι' ι'') : Ext F F'' ι ι'' := ⟨a.same.trans b.same, a.pre.trans b.pre, b.eR.trans a.eR⟩
theorem Ext.at_ {F F' : Hp} {ι ι' : Pl} (e : Ext F F' ι ι') {i : Nat} {a : Addr} (h : ι.l[i]? = some a) : ι'.l[i]? = some a := by
  obtain ⟨r, e⟩ := e.pre
  rw [← e, List.getElem?_append_left (List.getElem?_eq_some_iff.mp h).1]
  exact h
theorem RepW.mono {G : Gam} {F F' : Hp} {ι ι' : Pl} (e : Ext F F' ι ι') {x : W} {v : V} (h : RepW G F ι x v) : RepW G F' ι' x v := by
  cases x with
  | d x => exact Rep.mono e.same x v h
  | c i => obtain ⟨a, h1, h2⟩ := h; exact ⟨a, e.at_ h1, h2⟩
  | dead => exact True.intro
  | tp xs => obtain ⟨a, vs, h1, h2, h3⟩ := h; exact ⟨a, vs, h1, SqT.mono e.same h2, Reps.mono e.same _ _ h3⟩
theorem RepW.mono0 {G : Gam} {F F' : Hp} {ι ι' : Pl} (e : Ext0 F F' ι ι') {x : W} {v : V} (h : RepW G F ι x v) : RepW G F' ι' x v := by
  cases x with
  | d x => exact Rep.mono e.same x v h
  | c i => obtain ⟨a, h1, h2⟩ := h; exact ⟨a, e.at_ h1, h2⟩
  | dead => exact True.intro
  | tp xs => obtain ⟨a, vs, h1, h2, h3⟩ := h; exact ⟨a, vs, h1, SqT.mono e.same h2, Reps.mono e.same _ _ h3⟩
theorem RepWO.mono {G : Gam} {F F' : Hp} {ι ι' : Pl} (e : Ext F F' ι ι') {x : Option W} {v : Option V} (h : RepWO G F ι x v) : RepWO G F' ι' x v := by
  cases x <;> cases v <;> first | exact h | exact RepW.mono e h
theorem RepEnv.mono {G : Gam} {F F' : Hp} {ι ι' : Pl} (e : Ext F F' ι ι') {env : Nv} {σ : St} (h : RepEnv G F ι env σ) : RepEnv G F' ι' env σ :=
  ⟨h.1, fun i x q => let ⟨v, h1, h2⟩ := h.2 i x q; ⟨v, h1, h2.mono e⟩⟩
theorem Paired.imp' {α β : Type} {P Q : α → β → Prop} (f : ∀ a b, P a b → Q a b) : ∀ {l : List α} {m : List β}, Paired P l m → Paired Q l m
  | _, _, .nil => .nil
  | _, _, .cons h t => .cons (f _ _ h) (Paired.imp' f t)
/-- an exception: its class, its fields -/
structure Xc where
  cls : Value
  fs : List (Str × D)
abbrev DQ := W → Cs → Prop
abbrev DX := Xc → Cs → Prop
abbrev DT := Nv → Cs → DQ → DX → Prop
/-- how an exception lies in the heap -/
def RepX (G : Gam) (F : Hp) (x : Xc) (cls : Value) (od : Option Addr) (H : Hp) : Prop :=
  cls = x.cls ∧ (x.fs = [] ∨ ∃ d gs, od = some d ∧ H d = some (.xd gs) ∧ ∀ f v, (f, v) ∈ x.fs → ∃ u, gs.lookup f = some u ∧ Rep G F v u)
/-- from the data to the heap: Wx is what is wished of an exception -/
def upE (G : Gam) (Wx : WX) (t : DT) : TE := fun σ H Q => ∃ F ι env cs Q0 E0, Sim G F ι cs H ∧ RepEnv G F ι env σ ∧ t env cs Q0 E0 ∧
  (∀ F' ι' cs' w v H', Ext F F' ι ι' → Sim G F' ι' cs' H' → RepW G F' ι' w v → Q0 w cs' → Q v H') ∧
  ∀ F' ι' cs' x cls od H', Ext F F' ι ι' → Sim G F' ι' cs' H' → RepX G F' x cls od H' → E0 x cs' → Wx cls od σ H'
def DE (X : Cx) (G : Gam) (Wx : WX) (e : Expr) (t : DT) : Prop := PE X e (upE G Wx t)
abbrev DA := Nv → Cs → (List W → Cs → Prop) → DX → Prop
def upA (G : Gam) (Wx : WX) (t : DA) : TA := fun σ H Q => ∃ F ι env cs Q0 E0, Sim G F ι cs H ∧ RepEnv G F ι env σ ∧ t env cs Q0 E0 ∧
  (∀ F' ι' cs' ws vs H', Ext F F' ι ι' → Sim G F' ι' cs' H' → Paired (RepW G F' ι') ws vs → Q0 ws cs' → Q vs H') ∧
  ∀ F' ι' cs' x cls od H', Ext F F' ι ι' → Sim G F' ι' cs' H' → RepX G F' x cls od H' → E0 x cs' → Wx cls od σ H'
def DAs (X : Cx) (G : Gam) (Wx : WX) (es : List Expr) (t : DA) : Prop := PA X es (upA G Wx t)
abbrev DB := Nv → Cs → (Bool → Cs → Prop) → DX → Prop
def upT (G : Gam) (Wx : WX) (t : DB) : TT := fun σ H Q => ∃ F ι env cs Q0 E0, Sim G F ι cs H ∧ RepEnv G F ι env σ ∧ t env cs Q0 E0 ∧
  (∀ F' ι' cs' b H', Ext F F' ι ι' → Sim G F' ι' cs' H' → Q0 b cs' → Q b H') ∧
  ∀ F' ι' cs' x cls od H', Ext F F' ι ι' → Sim G F' ι' cs' H' → RepX G F' x cls od H' → E0 x cs' → Wx cls od σ H'
def DTst (X : Cx) (G : Gam) (Wx : WX) (e : Expr) (t : DB) : Prop := PT X e (upT G Wx t)
/-- the ends of a statement over data -/
structure DEnds where
  nx : Nv → Cs → Prop
  rt : DQ
  bk : Nv → Cs → Prop := fun _ _ => False
  ct : Nv → Cs → Prop := fun _ _ => False
  ex : Xc → Nv → Cs → Prop := fun _ _ _ => False
abbrev DS := DEnds → Nv → Cs → Prop
def upS (G : Gam) (Wx : WX) (t : DS) : TS := fun D σ H => ∃ F ι env cs D0, Sim G F ι cs H ∧ RepEnv G F ι env σ ∧ t D0 env cs ∧
  (∀ F' ι' cs' env' σ' H', Ext F F' ι ι' → Sim G F' ι' cs' H' → RepEnv G F' ι' env' σ' → D0.nx env' cs' → D.nx σ' H') ∧
  (∀ F' ι' cs' w v H', Ext F F' ι ι' → Sim G F' ι' cs' H' → RepW G F' ι' w v → D0.rt w cs' → D.rt v H') ∧
  (∀ F' ι' cs' env' σ' H', Ext F F' ι ι' → Sim G F' ι' cs' H' → RepEnv G F' ι' env' σ' → D0.bk env' cs' → D.bk σ' H') ∧
  (∀ F' ι' cs' env' σ' H', Ext F F' ι ι' → Sim G F' ι' cs' H' → RepEnv G F' ι' env' σ' → D0.ct env' cs' → D.ct σ' H') ∧
  ∀ F' ι' cs' x cls od env' σ' H', Ext F F' ι ι' → Sim G F' ι' cs' H' → RepEnv G F' ι' env' σ' → RepX G F' x cls od H' → D0.ex x env' cs' → Wx cls od σ' H'
def DSt (X : Cx) (G : Gam) (Wx : WX) (st : Stmt) (t : DS) : Prop := PS X st (upS G Wx t)
def DSs (X : Cx) (G : Gam) (Wx : WX) (st : List Stmt) (t : DS) : Prop := PSs X st (upS G Wx t)
theorem PE.imp {X : Cx} {e : Expr} {t u : TE} (h : PE X e t) (f : ∀ σ H Q, u σ H Q → t σ H Q) : PE X e u := ⟨fun pins s σ H Q I q => h.run pins s σ H Q I (f σ H Q q)⟩
theorem PT.imp {X : Cx} {e : Expr} {t u : TT} (h : PT X e t) (f : ∀ σ H Q, u σ H Q → t σ H Q) : PT X e u := ⟨fun pins s σ H Q I q => h.run pins s σ H Q I (f σ H Q q)⟩
theorem PA.imp {X : Cx} {e : List Expr} {t u : TA} (h : PA X e t) (f : ∀ σ H Q, u σ H Q → t σ H Q) : PA X e u := ⟨fun pos pins s σ H Q I q => h.run pos pins s σ H Q I (f σ H Q q)⟩
theorem PS.imp {X : Cx} {e : Stmt} {t u : TS} (h : PS X e t) (f : ∀ D σ H, u D σ H → t D σ H) : PS X e u := ⟨fun pins s σ H D I q => h.run pins s σ H D I (f D σ H q)⟩
theorem PSs.imp {X : Cx} {e : List Stmt} {t u : TS} (h : PSs X e t) (f : ∀ D σ H, u D σ H → t D σ H) : PSs X e u := ⟨fun pins s σ H D I q => h.run pins s σ H D I (f D σ H q)⟩
end DL
namespace DL
open PySem PySem.Spec L2
section
variable {G : Gam} {Wx : WX}
theorem Sim.dead {F : Hp} {ι : Pl} {cs : Cs} {H : Hp} (S : Sim G F ι cs H) {p : Addr} (h : H p = none) : F p = none := S.same.free h
theorem RepEnv.set {F : Hp} {ι : Pl} {env : Nv} {σ : St} {i : Nat} {w : W} {v : V} (R : RepEnv G F ι env σ) (r : RepW G F ι w v) : RepEnv G F ι (env.set i (some w)) (σ.set i (some v)) := by
  refine ⟨by simp [R.1], fun j x e => ?_⟩
  by_cases hj : i = j
  · subst hj
    by_cases hi : i < env.length
    · rw [List.getElem?_set_self hi] at e; cases e
      exact ⟨v, by rw [List.getElem?_set_self (by rw [← R.1]; exact hi)], r⟩
    · rw [List.getElem?_eq_none (by simpa using hi)] at e; cases e
  · rw [List.getElem?_set_ne hj] at e
    obtain ⟨u, h1, h2⟩ := R.2 j x e
    exact ⟨u, by rw [List.getElem?_set_ne hj]; exact h1, h2⟩
end
def dVar (i : Nat) : DT := fun env cs Q _ => match env[i]? with
  | some (some w) => Q w cs
  | _ => False
def dC (x : D) : DT := fun _ cs Q _ => Q (.d x) cs
abbrev Op2 := W → W → Cs → DQ → Prop
abbrev Op1 := W → Cs → DQ → Prop
abbrev OpN := List W → Cs → DQ → Prop
def dOp2 (o : Op2) (ta tb : DT) : DT := fun env cs Q E => ta env cs (fun x cs1 => tb env cs1 (fun y cs2 => o x y cs2 Q) E) E
def dOp1 (o : Op1) (ta : DT) : DT := fun env cs Q E => ta env cs (fun x cs1 => o x cs1 Q) E
def dOpN (o : OpN) (t : DA) : DT := fun env cs Q E => t env cs (fun xs cs1 => o xs cs1 Q) E
def upR (G : Gam) (o : Op2) : R2 := fun x y H Q => ∃ F ι cs wx wy Q0, Sim G F ι cs H ∧ RepW G F ι wx x ∧ RepW G F ι wy y ∧ o wx wy cs Q0 ∧
  ∀ F' ι' cs' w v H', Ext F F' ι ι' → Sim G F' ι' cs' H' → RepW G F' ι' w v → Q0 w cs' → Q v H'
def upR1 (G : Gam) (o : Op1) : V → Hp → VK → Prop := fun x H Q => ∃ F ι cs wx Q0, Sim G F ι cs H ∧ RepW G F ι wx x ∧ o wx cs Q0 ∧
  ∀ F' ι' cs' w v H', Ext F F' ι ι' → Sim G F' ι' cs' H' → RepW G F' ι' w v → Q0 w cs' → Q v H'
def upRN (G : Gam) (o : OpN) : List V → Hp → VK → Prop := fun xs H Q => ∃ F ι cs ws Q0, Sim G F ι cs H ∧ Paired (RepW G F ι) ws xs ∧ o ws cs Q0 ∧
  ∀ F' ι' cs' w v H', Ext F F' ι ι' → Sim G F' ι' cs' H' → RepW G F' ι' w v → Q0 w cs' → Q v H'
def dNil : DA := fun _ cs Q _ => Q [] cs
def dCons (ta : DT) (tr : DA) : DA := fun env cs Q E => ta env cs (fun x cs1 => tr env cs1 (fun xs cs2 => Q (x :: xs) cs2) E) E
section
variable {X : Cx} {G : Gam} {Wx : WX} {a b : Expr} {ta tb : DT} {pos : Pos}
theorem op2_up {o : Op2} {σ : St} {H : Hp} {Q : VK} (h : upE G Wx (dOp2 o ta tb) σ H Q) : tOp (upR G o) (upE G Wx ta) (upE G Wx tb) σ H Q := by
  obtain ⟨F, ι, env, cs, Q0, E0, S, R, t, hq, he⟩ := h
  refine ⟨F, ι, env, cs, fun x cs1 => tb env cs1 (fun y cs2 => o x y cs2 Q0) E0, E0, S, R, t, fun F1 ι1 cs1 x v H1 e1 S1 r1 q1 => ?_, he⟩
  refine ⟨F1, ι1, env, cs1, fun y cs2 => o x y cs2 Q0, E0, S1, R.mono e1, q1, fun F2 ι2 cs2 y u H2 e2 S2 r2 q2 => ?_, fun F2 ι2 cs2 z cls od H2 e2 => he F2 ι2 cs2 z cls od H2 (e1.trans e2)⟩
  exact ⟨F2, ι2, cs2, x, y, Q0, S2, r1.mono e2, r2, q2, fun F3 ι3 cs3 w v' H3 e3 => hq F3 ι3 cs3 w v' H3 (e1.trans (e2.trans e3))⟩
theorem op1_up {o : Op1} {σ : St} {H : Hp} {Q : VK} (h : upE G Wx (dOp1 o ta) σ H Q) : upE G Wx ta σ H fun x H1 => upR1 G o x H1 Q := by
  obtain ⟨F, ι, env, cs, Q0, E0, S, R, t, hq, he⟩ := h
  refine ⟨F, ι, env, cs, fun x cs1 => o x cs1 Q0, E0, S, R, t, fun F1 ι1 cs1 x v H1 e1 S1 r1 q1 => ?_, he⟩
  exact ⟨F1, ι1, cs1, x, Q0, S1, r1, q1, fun F3 ι3 cs3 w v' H3 e3 => hq F3 ι3 cs3 w v' H3 (e1.trans e3)⟩
theorem opN_up {o : OpN} {t : DA} {σ : St} {H : Hp} {Q : VK} (h : upE G Wx (dOpN o t) σ H Q) : upA G Wx t σ H fun xs H1 => upRN G o xs H1 Q := by
  obtain ⟨F, ι, env, cs, Q0, E0, S, R, t, hq, he⟩ := h
  refine ⟨F, ι, env, cs, fun x cs1 => o x cs1 Q0, E0, S, R, t, fun F1 ι1 cs1 x v H1 e1 S1 r1 q1 => ?_, he⟩
  exact ⟨F1, ι1, cs1, x, Q0, S1, r1, q1, fun F3 ι3 cs3 w v' H3 e3 => hq F3 ι3 cs3 w v' H3 (e1.trans e3)⟩
theorem e_var {i : Nat} {x : Str} (hN : X.N[i]? = some x) (hv : Vis X.env.scope x) (hd : (x == ("__debug__" : Str)) = false := by decide) (hcd : (x == ("__classdict__" : Str)) = false := by decide) : DE X G Wx (.Name x pos) (dVar i) := by
  refine PE.imp (pe_var hN hv hd hcd) fun σ H Q h => ?_
  obtain ⟨F, ι, env, cs, Q0, E0, S, R, t, hq, he⟩ := h
  unfold dVar at t
  cases e : env[i]? with
  | none => rw [e] at t; cases t
  | some w =>
    rw [e] at t
    cases w with
    | none => cases t
    | some w =>
      obtain ⟨v, h1, h2⟩ := R.2 i w e
      exact ⟨v, h1, hq F ι cs w v H .refl S h2 t⟩
/-- a value that is told by itself -/
theorem e_tC {e : Expr} {v : V} {x : D} (h : PE X e (tC v)) (r : ∀ F, Rep G F x v) : DE X G Wx e (dC x) := by
  refine PE.imp h fun σ H Q h => ?_
  obtain ⟨F, ι, env, cs, Q0, E0, S, R, t, hq, he⟩ := h
  exact hq F ι cs (.d x) v H .refl S (r F) t
theorem e_int {i j} : DE X G Wx (.Constant (.int i) j pos) (dC (.int i)) := e_tC pe_int fun F => by simp only [Rep]
theorem e_bl {b j} : DE X G Wx (.Constant (.bool b) j pos) (dC (.bl b)) := e_tC pe_bl fun F => by simp only [Rep]
theorem e_non {j} : DE X G Wx (.Constant .none j pos) (dC .non) := e_tC pe_non fun F => by simp only [Rep]
theorem e_str {x j} (hx : PyData.strOk x = true := by decide +kernel) : DE X G Wx (.Constant (.str x) j pos) (dC (.str x)) := e_tC pe_str fun F => by simp only [Rep]; exact ⟨True.intro, hx⟩
theorem e_glob {x : Str} {v : V} {u : Value} {y : D} (hg : Gl X x) (hm : X.mg x = some u) (r : RelV v u) (ry : ∀ F, Rep G F y v) (hd : (x == ("__debug__" : Str)) = false := by decide) : DE X G Wx (.Name x pos) (dC y) := e_tC (pe_glob hg hm r hd) ry
theorem e_bin {op : Operator} {o : Op2} (ho : OpR X (binaryOp op) (upR G o)) (ha : DE X G Wx a ta) (hb : DE X G Wx b tb) : DE X G Wx (.BinOp a op b pos) (dOp2 o ta tb) :=
  PE.imp (pe_op ho ha hb) fun _ _ _ => op2_up
theorem e_un {op : UnaryOp} {o : Op1} (ho : UnR X (unaryOp op) (upR1 G o)) (ha : DE X G Wx a ta) : DE X G Wx (.UnaryOp op a pos) (dOp1 o ta) :=
  PE.imp (pe_un ho ha) fun _ _ _ => op1_up
theorem e_cmp {op : CmpOp} {o : Op2} (ho : OpR X (compareOp op) (upR G o)) (ha : DE X G Wx a ta) (hb : DE X G Wx b tb) (hm : behindInMarks op b = false) : DE X G Wx (.Compare a [op] [b] pos) (dOp2 o ta tb) :=
  PE.imp (pe_cmpR ho ha hb hm) fun _ _ _ => op2_up
theorem e_sub {o : Op2} (ho : IxR X (upR G o)) (ha : DE X G Wx a ta) (hb : DE X G Wx b tb) (hs : PlainIx b) : DE X G Wx (.Subscript a b pos) (dOp2 o ta tb) :=
  PE.imp (pe_ix ho ha hb hs) fun _ _ _ => op2_up
theorem a_nil : DAs X G Wx [] dNil := PA.imp pa_nil fun σ H Q h => by
  obtain ⟨F, ι, env, cs, Q0, E0, S, R, t, hq, he⟩ := h
  exact hq F ι cs [] [] H .refl S .nil t
theorem a_cons {e : Expr} {es : List Expr} {te : DT} {t : DA} (ha : DE X G Wx e te) (hr : DAs X G Wx es t) (hs : starEach (e :: es) X.env = (false, eval e X.env) :: starEach es X.env := by rfl) : DAs X G Wx (e :: es) (dCons te t) :=
  PA.imp (pa_cons ha hr hs) fun σ H Q h => by
    obtain ⟨F, ι, env, cs, Q0, E0, S, R, t, hq, he⟩ := h
    refine ⟨F, ι, env, cs, _, E0, S, R, t, fun F1 ι1 cs1 x v H1 e1 S1 r1 q1 => ?_, he⟩
    refine ⟨F1, ι1, env, cs1, _, E0, S1, R.mono e1, q1, fun F2 ι2 cs2 ys us H2 e2 S2 r2 q2 => ?_, fun F2 ι2 cs2 z cls od H2 e2 => he F2 ι2 cs2 z cls od H2 (e1.trans e2)⟩
    exact hq F2 ι2 cs2 (x :: ys) (v :: us) H2 (e1.trans e2) S2 (.cons (r1.mono e2) r2) q2
def dTest (t : DT) : DB := fun env cs Q E => t env cs (fun w cs1 => match w with
  | .d (.bl b) => Q b cs1
  | _ => False) E
def dAnd (t u : DB) : DB := fun env cs Q E => t env cs (fun c cs1 => if c = true then u env cs1 Q E else Q false cs1) E
def dOr (t u : DB) : DB := fun env cs Q E => t env cs (fun c cs1 => if c = true then Q true cs1 else u env cs1 Q E) E
def dNot (t : DB) : DB := fun env cs Q E => t env cs (fun c cs1 => Q (!c) cs1) E
def dIf (c : DB) (ta tb : DT) : DT := fun env cs Q E => c env cs (fun b cs1 => if b = true then ta env cs1 Q E else tb env cs1 Q E) E
variable {tA tB : DB} {rest : List Expr} {e : Expr} {te : DT}
theorem test_up {σ : St} {H : Hp} {Q : Bool → Hp → Prop} (h : upT G Wx (dTest te) σ H Q) : upE G Wx te σ H fun x H1 => ∃ c, x = .bl c ∧ Q c H1 := by
  obtain ⟨F, ι, env, cs, Q0, E0, S, R, t, hq, he⟩ := h
  refine ⟨F, ι, env, cs, _, E0, S, R, t, fun F1 ι1 cs1 x v H1 e1 S1 r1 q1 => ?_, he⟩
  cases x with
  | c i => cases q1
  | dead => cases q1
  | tp xs => cases q1
  | d x =>
    cases x with
    | bl b =>
      have r1 : Rep G F1 (.bl b) v := r1
      simp only [Rep] at r1
      exact ⟨b, r1, hq F1 ι1 cs1 b H1 e1 S1 q1⟩
    | _ => cases q1
theorem t_val (h : DE X G Wx e te) (he : ∀ whole, isTrue e X.env whole = (do let v ← whole; standAt e.pos; holding [v] (truthy v)) := by intro _; rfl) : DTst X G Wx e (dTest te) :=
  PT.imp (pt_val h he) fun σ H Q => test_up
/-- a comparison as a test -/
theorem t_cmp {op : CmpOp} {o : Op2} (ho : OpR X (compareOp op) (upR G o)) (ha : DE X G Wx a ta) (hb : DE X G Wx b tb) (hm : behindInMarks op b = false) : DTst X G Wx (.Compare a [op] [b] pos) (dTest (dOp2 o ta tb)) :=
  PT.imp (pt_cmpR ho ha hb hm) fun σ H Q h => by
    have h1 := test_up h
    obtain ⟨F, ι, env, cs, Q0, E0, S, R, t, hq, he⟩ := h1
    exact op2_up ⟨F, ι, env, cs, Q0, E0, S, R, t, hq, he⟩
theorem and_up {σ : St} {H : Hp} {Q : Bool → Hp → Prop} (h : upT G Wx (dAnd tA tB) σ H Q) : tAnd (upT G Wx tA) (upT G Wx tB) σ H Q := by
  obtain ⟨F, ι, env, cs, Q0, E0, S, R, t, hq, he⟩ := h
  refine ⟨F, ι, env, cs, _, E0, S, R, t, fun F1 ι1 cs1 b H1 e1 S1 q1 => ?_, he⟩
  (try dsimp only); split
  · rename_i hb
    rw [if_pos hb] at q1
    exact ⟨F1, ι1, env, cs1, Q0, E0, S1, R.mono e1, q1, fun F2 ι2 cs2 z H2 e2 => hq F2 ι2 cs2 z H2 (e1.trans e2), fun F2 ι2 cs2 z cls od H2 e2 => he F2 ι2 cs2 z cls od H2 (e1.trans e2)⟩
  · rename_i hb
    rw [if_neg hb] at q1
    exact hq F1 ι1 cs1 false H1 e1 S1 q1
theorem or_up {σ : St} {H : Hp} {Q : Bool → Hp → Prop} (h : upT G Wx (dOr tA tB) σ H Q) : tOr (upT G Wx tA) (upT G Wx tB) σ H Q := by
  obtain ⟨F, ι, env, cs, Q0, E0, S, R, t, hq, he⟩ := h
  refine ⟨F, ι, env, cs, _, E0, S, R, t, fun F1 ι1 cs1 b H1 e1 S1 q1 => ?_, he⟩
  (try dsimp only); split
  · rename_i hb
    rw [if_pos hb] at q1
    exact hq F1 ι1 cs1 true H1 e1 S1 q1
  · rename_i hb
    rw [if_neg hb] at q1
    exact ⟨F1, ι1, env, cs1, Q0, E0, S1, R.mono e1, q1, fun F2 ι2 cs2 z H2 e2 => hq F2 ι2 cs2 z H2 (e1.trans e2), fun F2 ι2 cs2 z cls od H2 e2 => he F2 ι2 cs2 z cls od H2 (e1.trans e2)⟩
/-- and, or, as chains -/
def DW (X : Cx) (G : Gam) (Wx : WX) (e : Expr) (t : DB) : Prop := PW X e (upT G Wx t)
theorem PW.imp {e : Expr} {t u : TT} (h : PW X e t) (f : ∀ σ H Q, u σ H Q → t σ H Q) : PW X e u := ⟨fun wh pins s σ H Q I q => h.run wh pins s σ H Q I (f σ H Q q)⟩
theorem w_and1 (ha : DTst X G Wx a tA) : DW X G Wx (.BoolOp .And [a] pos) tA := pw_and1 ha
theorem w_or1 (ha : DTst X G Wx a tA) : DW X G Wx (.BoolOp .Or [a] pos) tA := pw_or1 ha
theorem w_and (ha : DTst X G Wx a tA) (hb : DW X G Wx (.BoolOp .And (b :: rest) pos) tB) : DW X G Wx (.BoolOp .And (a :: b :: rest) pos) (dAnd tA tB) := PW.imp (pw_and ha hb) fun _ _ _ => and_up
theorem w_or (ha : DTst X G Wx a tA) (hb : DW X G Wx (.BoolOp .Or (b :: rest) pos) tB) : DW X G Wx (.BoolOp .Or (a :: b :: rest) pos) (dOr tA tB) := PW.imp (pw_or ha hb) fun _ _ _ => or_up
theorem t_bool (h : DW X G Wx e tA) : DTst X G Wx e tA := h.pt
theorem t_not (ha : DTst X G Wx a tA) : DTst X G Wx (.UnaryOp .Not a pos) (dNot tA) := PT.imp (pt_not ha) fun σ H Q h => by
  obtain ⟨F, ι, env, cs, Q0, E0, S, R, t, hq, he⟩ := h
  exact ⟨F, ι, env, cs, _, E0, S, R, t, fun F1 ι1 cs1 b H1 e1 S1 q1 => hq F1 ι1 cs1 (!b) H1 e1 S1 q1, he⟩
theorem e_ifExp {c : Expr} {tc : DB} (hc : DTst X G Wx c tc) (ha : DE X G Wx a ta) (hb : DE X G Wx b tb) : DE X G Wx (.IfExp c a b pos) (dIf tc ta tb) := PE.imp (pe_ifExp hc ha hb) fun σ H Q h => by
  obtain ⟨F, ι, env, cs, Q0, E0, S, R, t, hq, he⟩ := h
  refine ⟨F, ι, env, cs, _, E0, S, R, t, fun F1 ι1 cs1 b H1 e1 S1 q1 => ?_, he⟩
  (try dsimp only); split
  · rename_i hb
    rw [if_pos hb] at q1
    exact ⟨F1, ι1, env, cs1, Q0, E0, S1, R.mono e1, q1, fun F2 ι2 cs2 z v H2 e2 => hq F2 ι2 cs2 z v H2 (e1.trans e2), fun F2 ι2 cs2 z cls od H2 e2 => he F2 ι2 cs2 z cls od H2 (e1.trans e2)⟩
  · rename_i hb
    rw [if_neg hb] at q1
    exact ⟨F1, ι1, env, cs1, Q0, E0, S1, R.mono e1, q1, fun F2 ι2 cs2 z v H2 e2 => hq F2 ι2 cs2 z v H2 (e1.trans e2), fun F2 ι2 cs2 z cls od H2 e2 => he F2 ι2 cs2 z cls od H2 (e1.trans e2)⟩
/-- and, or, not as values: bools -/
def dAndV (ta tb : DT) : DT := fun env cs Q E => ta env cs (fun w cs1 => match w with
  | .d (.bl c) => if c = true then tb env cs1 Q E else Q (.d (.bl false)) cs1
  | _ => False) E
def dOrV (ta tb : DT) : DT := fun env cs Q E => ta env cs (fun w cs1 => match w with
  | .d (.bl c) => if c = true then Q (.d (.bl true)) cs1 else tb env cs1 Q E
  | _ => False) E
def dNotV (ta : DT) : DT := fun env cs Q E => ta env cs (fun w cs1 => match w with
  | .d (.bl c) => Q (.d (.bl (!c))) cs1
  | _ => False) E
theorem e_one {op} (h : DE X G Wx a ta) : DE X G Wx (.BoolOp op [a] pos) ta := pe_one h
theorem e_and (ha : DE X G Wx a ta) (hb : DE X G Wx (.BoolOp .And (b :: rest) pos) tb) : DE X G Wx (.BoolOp .And (a :: b :: rest) pos) (dAndV ta tb) := PE.imp (pe_and ha hb) fun σ H Q h => by
  obtain ⟨F, ι, env, cs, Q0, E0, S, R, t, hq, he⟩ := h
  refine ⟨F, ι, env, cs, _, E0, S, R, t, fun F1 ι1 cs1 x v H1 e1 S1 r1 q1 => ?_, he⟩
  cases x with
  | c i => cases q1
  | dead => cases q1
  | tp xs => cases q1
  | d x =>
    cases x with
    | bl b =>
      have r1 : Rep G F1 (.bl b) v := r1
      simp only [Rep] at r1
      refine ⟨b, r1, ?_⟩
      have q1 : if b = true then tb env cs1 Q0 E0 else Q0 (.d (.bl false)) cs1 := q1
      (try dsimp only); split
      · rename_i hb
        rw [if_pos hb] at q1
        exact ⟨F1, ι1, env, cs1, Q0, E0, S1, R.mono e1, q1, fun F2 ι2 cs2 z v H2 e2 => hq F2 ι2 cs2 z v H2 (e1.trans e2), fun F2 ι2 cs2 z cls od H2 e2 => he F2 ι2 cs2 z cls od H2 (e1.trans e2)⟩
      · rename_i hb
        rw [if_neg hb] at q1
        exact hq F1 ι1 cs1 _ _ H1 e1 S1 (by simp only [RepW, Rep]) q1
    | _ => cases q1
theorem e_or (ha : DE X G Wx a ta) (hb : DE X G Wx (.BoolOp .Or (b :: rest) pos) tb) : DE X G Wx (.BoolOp .Or (a :: b :: rest) pos) (dOrV ta tb) := PE.imp (pe_or ha hb) fun σ H Q h => by
  obtain ⟨F, ι, env, cs, Q0, E0, S, R, t, hq, he⟩ := h
  refine ⟨F, ι, env, cs, _, E0, S, R, t, fun F1 ι1 cs1 x v H1 e1 S1 r1 q1 => ?_, he⟩
  cases x with
  | c i => cases q1
  | dead => cases q1
  | tp xs => cases q1
  | d x =>
    cases x with
    | bl b =>
      have r1 : Rep G F1 (.bl b) v := r1
      simp only [Rep] at r1
      refine ⟨b, r1, ?_⟩
      have q1 : if b = true then Q0 (.d (.bl true)) cs1 else tb env cs1 Q0 E0 := q1
      (try dsimp only); split
      · rename_i hb
        rw [if_pos hb] at q1
        exact hq F1 ι1 cs1 _ _ H1 e1 S1 (by simp only [RepW, Rep]) q1
      · rename_i hb
        rw [if_neg hb] at q1
        exact ⟨F1, ι1, env, cs1, Q0, E0, S1, R.mono e1, q1, fun F2 ι2 cs2 z v H2 e2 => hq F2 ι2 cs2 z v H2 (e1.trans e2), fun F2 ι2 cs2 z cls od H2 e2 => he F2 ι2 cs2 z cls od H2 (e1.trans e2)⟩
    | _ => cases q1
theorem e_not (ha : DE X G Wx a ta) : DE X G Wx (.UnaryOp .Not a pos) (dNotV ta) := PE.imp (pe_not ha) fun σ H Q h => by
  obtain ⟨F, ι, env, cs, Q0, E0, S, R, t, hq, he⟩ := h
  refine ⟨F, ι, env, cs, _, E0, S, R, t, fun F1 ι1 cs1 x v H1 e1 S1 r1 q1 => ?_, he⟩
  cases x with
  | c i => cases q1
  | dead => cases q1
  | tp xs => cases q1
  | d x =>
    cases x with
    | bl b =>
      have r1 : Rep G F1 (.bl b) v := r1
      simp only [Rep] at r1
      exact ⟨b, r1, hq F1 ι1 cs1 _ _ H1 e1 S1 (by simp only [RepW, Rep]) q1⟩
    | _ => cases q1
def dNext : DS := fun D env cs => D.nx env cs
def dSeq (t u : DS) : DS := fun D env cs => t { D with nx := u D } env cs
def dRet (t : DT) : DS := fun D env cs => t env cs D.rt fun x cs1 => D.ex x env cs1
def dRetN : DS := fun D _ cs => D.rt (.d .non) cs
def dDrop (t : DT) : DS := fun D env cs => t env cs (fun _ cs1 => D.nx env cs1) fun x cs1 => D.ex x env cs1
def dIfS (c : DB) (t u : DS) : DS := fun D env cs => c env cs (fun b cs1 => if b = true then t D env cs1 else u D env cs1) fun x cs1 => D.ex x env cs1
abbrev DG := W → Nv → Cs → (Nv → Cs → Prop) → Prop
def dAsg (t : DT) (g : DG) : DS := fun D env cs => t env cs (fun w cs1 => g w env cs1 D.nx) fun x cs1 => D.ex x env cs1
def dgName (i : Nat) : DG := fun w env cs Q => Q (env.set i (some w)) cs
def upG (G : Gam) (vs : List Nat) (t : DG) : TG := fun v σ H Q => ∃ F ι env cs w Q0, Sim G F ι cs H ∧ RepEnv G F ι env σ ∧ RepW G F ι w v ∧ t w env cs Q0 ∧
  ∀ F' ι' cs' env' σ' H', Ext F F' ι ι' → Sim G F' ι' cs' H' → RepEnv G F' ι' env' σ' → wipe σ' vs = wipe σ vs → Q0 env' cs' → Q σ' H'
theorem wipe_set {i : Nat} {v : Option V} : ∀ {vs : List Nat} {σ : St}, i ∈ vs → wipe (σ.set i v) vs = wipe σ vs
  | u :: vs, σ, h => by
    unfold wipe
    by_cases hu : i ∈ vs
    · rw [wipe_set hu]
    · have e : i = u := by
        rcases List.mem_cons.mp h with z | z
        · exact z
        · exact absurd z hu
      subst e
      rw [wipe_set_out hu, List.set_set]
where
  wipe_set_out {i : Nat} {v : Option V} : ∀ {vs : List Nat} {σ : St}, i ∉ vs → wipe (σ.set i v) vs = (wipe σ vs).set i v
    | [], _, _ => rfl
    | u :: vs, σ, h => by
      unfold wipe
      rw [wipe_set_out fun z => h (List.mem_cons_of_mem _ z)]
      exact List.set_comm _ _ fun z => h (z ▸ List.mem_cons_self)
def DGt (X : Cx) (G : Gam) (vs : List Nat) (tg : Expr) (t : DG) : Prop := PG X tg (upG G vs t)
theorem PG.imp {e : Expr} {t u : TG} (h : PG X e t) (f : ∀ v σ H Q, u v σ H Q → t v σ H Q) : PG X e u := ⟨fun pins s σ H v w Q I r q => h.run pins s σ H v w Q I r (f v σ H Q q)⟩
variable {st : Stmt} {rs : List Stmt} {t u : DS}
theorem s_nil : DSs X G Wx [] dNext := PSs.imp pss_nil fun D σ H h => by
  obtain ⟨F, ι, env, cs, D0, S, R, t, h1, h2, h3, h4, h5⟩ := h
  exact h1 F ι cs env σ H .refl S R t
theorem s_cons (h1 : DSt X G Wx st t) (h2 : DSs X G Wx rs u) : DSs X G Wx (st :: rs) (dSeq t u) := PSs.imp (pss_cons h1 h2) fun D σ H h => by
  obtain ⟨F, ι, env, cs, D0, S, R, t, g1, g2, g3, g4, g5⟩ := h
  refine ⟨F, ι, env, cs, _, S, R, t, fun F1 ι1 cs1 env1 σ1 H1 e1 S1 R1 q1 => ?_, g2, g3, g4, g5⟩
  exact ⟨F1, ι1, env1, cs1, D0, S1, R1, q1, fun F2 ι2 cs2 z σ2 H2 e2 => g1 F2 ι2 cs2 z σ2 H2 (e1.trans e2), fun F2 ι2 cs2 z v H2 e2 => g2 F2 ι2 cs2 z v H2 (e1.trans e2), fun F2 ι2 cs2 z σ2 H2 e2 => g3 F2 ι2 cs2 z σ2 H2 (e1.trans e2),
    fun F2 ι2 cs2 z σ2 H2 e2 => g4 F2 ι2 cs2 z σ2 H2 (e1.trans e2), fun F2 ι2 cs2 x cls od z σ2 H2 e2 => g5 F2 ι2 cs2 x cls od z σ2 H2 (e1.trans e2)⟩
theorem s_one (h1 : DSt X G Wx st t) : DSs X G Wx [st] t := pss_one h1
theorem s_expr (he : DE X G Wx e te) (hs : swapsWith e none pos.line X.env = pure false := by rfl) : DSt X G Wx (.Expr e pos) (dDrop te) := PS.imp (ps_expr he hs) fun D σ H h => by
  obtain ⟨F, ι, env, cs, D0, S, R, t, h1, h2, h3, h4, h5⟩ := h
  exact ⟨F, ι, env, cs, _, _, S, R, t, fun F1 ι1 cs1 x v H1 e1 S1 r1 q1 => h1 F1 ι1 cs1 env σ H1 e1 S1 (R.mono e1) q1, fun F1 ι1 cs1 x cls od H1 e1 S1 r1 q1 => h5 F1 ι1 cs1 x cls od env σ H1 e1 S1 (R.mono e1) r1 q1⟩
theorem s_ret (he : DE X G Wx e te) : DSt X G Wx (.Return (some e) pos) (dRet te) := PS.imp (ps_ret he) fun D σ H h => by
  obtain ⟨F, ι, env, cs, D0, S, R, t, h1, h2, h3, h4, h5⟩ := h
  exact ⟨F, ι, env, cs, _, _, S, R, t, fun F1 ι1 cs1 x v H1 e1 S1 r1 q1 => h2 F1 ι1 cs1 x v H1 e1 S1 r1 q1, fun F1 ι1 cs1 x cls od H1 e1 S1 r1 q1 => h5 F1 ι1 cs1 x cls od env σ H1 e1 S1 (R.mono e1) r1 q1⟩
theorem s_if {c : Expr} {as bs : List Stmt} {tc : DB} (hc : DTst X G Wx c tc) (ha : DSs X G Wx as t) (hb : DSs X G Wx bs u) : DSt X G Wx (.If c as bs pos) (dIfS tc t u) := PS.imp (ps_if hc ha hb) fun D σ H h => by
  obtain ⟨F, ι, env, cs, D0, S, R, t, g1, g2, g3, g4, g5⟩ := h
  refine ⟨F, ι, env, cs, _, _, S, R, t, fun F1 ι1 cs1 b H1 e1 S1 q1 => ?_, fun F1 ι1 cs1 x cls od H1 e1 S1 r1 q1 => g5 F1 ι1 cs1 x cls od env σ H1 e1 S1 (R.mono e1) r1 q1⟩
  (try dsimp only); split
  all_goals
    rename_i hb
    first | rw [if_pos hb] at q1 | rw [if_neg hb] at q1
    exact ⟨F1, ι1, env, cs1, D0, S1, R.mono e1, q1, fun F2 ι2 cs2 z σ2 H2 e2 => g1 F2 ι2 cs2 z σ2 H2 (e1.trans e2), fun F2 ι2 cs2 z v H2 e2 => g2 F2 ι2 cs2 z v H2 (e1.trans e2), fun F2 ι2 cs2 z σ2 H2 e2 => g3 F2 ι2 cs2 z σ2 H2 (e1.trans e2),
      fun F2 ι2 cs2 z σ2 H2 e2 => g4 F2 ι2 cs2 z σ2 H2 (e1.trans e2), fun F2 ι2 cs2 x cls od z σ2 H2 e2 => g5 F2 ι2 cs2 x cls od z σ2 H2 (e1.trans e2)⟩
theorem g_name {i : Nat} {x : Str} (hN : X.N.Nodup) (hi : X.N[i]? = some x) (hx : Loc X.env.scope x) (hf : X.fn x = true ∨ X.env.scope.names.lookup x = some .local := by first | exact .inl rfl | exact .inr rfl | assumption) {vs : List Nat} (hv : i ∈ vs) : DGt X G vs (.Name x pos) (dgName i) :=
  PG.imp (pg_name hN hi hx hf) fun v σ H Q h => by
    obtain ⟨F, ι, env, cs, w, Q0, S, R, r, t, hq⟩ := h
    exact hq F ι cs _ _ H .refl S (R.set r) (wipe_set hv) t
theorem s_asg {tg : Expr} {g : DG} {vs : List Nat} (he : DE X G Wx e te) (hg : DGt X G vs tg g) (hs : swapsWithSole [tg] e pos.line X.env = pure false := by rfl) (hw : swappedStores [tg] e X.env = pure none := by rfl)
    (h1 : (assignEach [tg] X.env).map (·.2) = [assign tg X.env] := by rfl) : DSt X G Wx (.Assign [tg] e pos) (dAsg te g) :=
  PS.imp (ps_asg he hg hs hw h1) fun D σ H h => by
    obtain ⟨F, ι, env, cs, D0, S, R, t, h1, h2, h3, h4, h5⟩ := h
    refine ⟨F, ι, env, cs, _, _, S, R, t, fun F1 ι1 cs1 x v H1 e1 S1 r1 q1 => ?_, fun F1 ι1 cs1 x cls od H1 e1 S1 r1 q1 => h5 F1 ι1 cs1 x cls od env σ H1 e1 S1 (R.mono e1) r1 q1⟩
    exact ⟨F1, ι1, env, cs1, x, _, S1, R.mono e1, r1, q1, fun F2 ι2 cs2 z σ2 H2 e2 S2 R2 _ => h1 F2 ι2 cs2 z σ2 H2 (e1.trans e2) S2 R2⟩
end
end DL
namespace DL
open PySem PySem.Spec L2
section
variable {G : Gam} {F H : Hp} {ι : Pl} {cs : Cs}
theorem CellAt.mono {F' H' : Hp} {ι' : Pl} {a : Addr} {x : Cell} (h : CellAt G F ι H a x) (e : Ext F F' ι ι') (hF : F a = none → F' a = none) (hH : ∀ o, H a = some o → H' a = some o) : CellAt G F' ι' H' a x := by
  cases x with
  | lst xs =>
    obtain ⟨h1, vs, h2, h3⟩ := h
    exact ⟨hF h1, vs, hH _ h2, Reps.mono e.same _ _ h3⟩
  | dct kvs o =>
    obtain ⟨h1, h0, ks, ps, h2, h3, h4⟩ := h
    exact ⟨hF h1, h0, ks, ps, hH _ h2, h3, RepKV.mono e.same _ _ _ h4⟩
  | obj c fs =>
    obtain ⟨h1, C, nm, dx, gs, vs, h2, h3, h4, h5⟩ := h
    exact ⟨hF h1, C, nm, dx, gs, vs, hH _ h2, h3, h4, Paired.imp' (fun _ _ q => q.mono e) h5⟩
  | frz x =>
    obtain ⟨h1, h2⟩ := h
    refine ⟨fun z => h1 ?_, Rep.mono e.same _ _ h2⟩
    exact e.same.free z
theorem CellAt.there {a : Addr} {x : Cell} (s : Same F H) (h : CellAt G F ι H a x) : ∃ o, H a = some o := by
  cases x with
  | lst xs => obtain ⟨_, vs, h2, _⟩ := h; exact ⟨_, h2⟩
  | dct kvs o => obtain ⟨_, _, ks, ps, h2, _⟩ := h; exact ⟨_, h2⟩
  | obj c fs => obtain ⟨_, C, nm, dx, gs, vs, h2, _⟩ := h; exact ⟨_, h2⟩
  | frz x =>
    obtain ⟨h1, _⟩ := h
    cases q : F a with
    | none => exact absurd q h1
    | some o => exact ⟨o, s _ _ q⟩
theorem Sim.live (S : Sim G F ι cs H) {i : Nat} {a : Addr} (h : ι.l[i]? = some a) : ∃ o, H a = some o := by
  have hi : i < cs.length := by rw [← S.len]; exact (List.getElem?_eq_some_iff.mp h).1
  obtain ⟨a', e, c⟩ := S.cell i _ (List.getElem?_eq_getElem hi)
  rw [h] at e; cases e
  exact c.there S.same
/-- a new object that is fixed at once -/
theorem Sim.fixed (S : Sim G F ι cs H) {p : Addr} {o : HO} (hp : H p = none) : Ext F (upd F p o) ι ι ∧ Sim G (upd F p o) ι cs (upd H p o) := by
  have hF : F p = none := S.dead hp
  have hR : ι.R p = none := S.fr.free hp
  have e : Ext F (upd F p o) ι ι := ⟨fun b u q => by rw [upd_ne (ne_of_none q hF)]; exact q, List.prefix_refl _, rfl⟩
  refine ⟨e, fun b u q => ?_, S.len, S.nd.mono e.same, fun i x q => ?_, fun b u q => by rw [upd_ne (ne_of_none q hR)]; exact S.fr _ _ q, fun b q => ?_⟩
  · by_cases hb : b = p
    · subst hb; rw [upd_same] at q ⊢; exact q
    · rw [upd_ne hb] at q ⊢; exact S.same _ _ q
  · obtain ⟨a, h1, h2⟩ := S.cell i x q
    obtain ⟨u, hu⟩ := S.live h1
    have ha : a ≠ p := ne_of_none hu hp
    exact ⟨a, h1, h2.mono e (fun z => by rw [upd_ne ha]; exact z) fun v z => by rw [upd_ne ha]; exact z⟩
  · have hb : b ≠ p := fun z => q (z ▸ hR)
    rw [upd_ne hb]
    exact S.ap b q
/-- a new object that is owned -/
theorem Sim.owned (S : Sim G F ι cs H) {p : Addr} {o : HO} {x : Cell} (hp : H p = none) (hx : ∀ ι', CellAt G F ι' (upd H p o) p x) : Ext F F ι (ι.add p) ∧ Sim G F (ι.add p) (cs ++ [x]) (upd H p o) := by
  have hF : F p = none := S.dead hp
  have hR : ι.R p = none := S.fr.free hp
  have e : Ext F F ι (ι.add p) := ⟨Same.refl _, List.prefix_append _ _, rfl⟩
  have hn : p ∉ ι.l := fun hm => by
    obtain ⟨i, hi⟩ := List.mem_iff_getElem?.mp hm
    obtain ⟨u, hu⟩ := S.live hi
    rw [hp] at hu; cases hu
  refine ⟨e, fun b u q => ?_, by simp [Pl.add, S.len], ?_, fun i y q => ?_, fun b u q => by rw [upd_ne (ne_of_none q hR)]; exact S.fr _ _ q, fun b q => ⟨(S.ap b q).1, fun z => ?_⟩⟩
  · rw [upd_ne (ne_of_none q hF)]; exact S.same _ _ q
  · exact S.nd.snoc hn
  · by_cases hi : i < cs.length
    · rw [List.getElem?_append_left hi] at q
      obtain ⟨a, h1, h2⟩ := S.cell i y q
      obtain ⟨u, hu⟩ := S.live h1
      have ha : a ≠ p := ne_of_none hu hp
      exact ⟨a, e.at_ h1, h2.mono e id fun v z => by rw [upd_ne ha]; exact z⟩
    · have hi' : i = cs.length := by
        have := (List.getElem?_eq_some_iff.mp q).1
        simp at this; omega
      subst hi'
      rw [List.getElem?_append_right (Nat.le_refl _)] at q
      simp at q; subst q
      exact ⟨p, by rw [← S.len]; simp [Pl.add], hx _⟩
  · have z' : b ∈ ι.l ++ [p] := z
    rcases List.mem_append.mp z' with z | z
    · exact (S.ap b q).2 z
    · simp at z; subst z; exact q hR
/-- an owned object is written -/
theorem Sim.write (S : Sim G F ι cs H) {i : Nat} {a : Addr} {o : HO} {x y : Cell} (h : ι.l[i]? = some a) (hy : cs[i]? = some y) (hF : F a = none) (hx : CellAt G F ι (upd H a o) a x) : Sim G F ι (cs.set i x) (upd H a o) := by
  have hR : ∀ b u, ι.R b = some u → b ≠ a := fun b u q z => (S.ap b (by rw [q]; simp)).2 (z ▸ List.mem_of_getElem? h)
  refine ⟨fun b u q => by rw [upd_ne (ne_of_none q hF)]; exact S.same _ _ q, by simp [S.len], S.nd, fun j z q => ?_, fun b u q => by rw [upd_ne (hR b u q)]; exact S.fr _ _ q, S.ap⟩
  by_cases hj : i = j
  · subst hj
    have hi : i < cs.length := (List.getElem?_eq_some_iff.mp hy).1
    rw [List.getElem?_set_self hi] at q; cases q
    exact ⟨a, h, hx⟩
  · rw [List.getElem?_set_ne hj] at q
    obtain ⟨b, h1, h2⟩ := S.cell j z q
    have hb : b ≠ a := fun z => by
      subst z
      exact hj (S.nd i j b h h1 hF)
    exact ⟨b, h1, h2.mono .refl id fun v z => by rw [upd_ne hb]; exact z⟩
/-- an owned object is fixed from now on -/
theorem Sim.freeze (S : Sim G F ι cs H) {i : Nat} {a : Addr} {o : HO} {y : Cell} {x : D} (h : ι.l[i]? = some a) (hy : cs[i]? = some y) (hF : F a = none) (hH : H a = some o) (hx : Rep G (upd F a o) x (.ref a)) :
    Ext F (upd F a o) ι ι ∧ Sim G (upd F a o) ι (cs.set i (.frz x)) H := by
  have e : Ext F (upd F a o) ι ι := ⟨fun b u q => by rw [upd_ne (ne_of_none q hF)]; exact q, List.prefix_refl _, rfl⟩
  refine ⟨e, fun b u q => ?_, by simp [S.len], S.nd.mono e.same, fun j z q => ?_, S.fr, fun b q => ?_⟩
  · by_cases hb : b = a
    · subst hb; rw [upd_same] at q; cases q; exact hH
    · rw [upd_ne hb] at q; exact S.same _ _ q
  · by_cases hj : i = j
    · subst hj
      have hi : i < cs.length := (List.getElem?_eq_some_iff.mp hy).1
      rw [List.getElem?_set_self hi] at q; cases q
      exact ⟨a, h, by rw [upd_same]; simp, hx⟩
    · rw [List.getElem?_set_ne hj] at q
      obtain ⟨b, h1, h2⟩ := S.cell j z q
      have hb : b ≠ a := fun z => by
        subst z
        exact hj (S.nd i j b h h1 hF)
      exact ⟨b, h1, h2.mono e (fun z => by rw [upd_ne hb]; exact z) fun _ z => z⟩
  · have hb : b ≠ a := fun z => (S.ap b q).2 (z ▸ List.mem_of_getElem? h)
    rw [upd_ne hb]
    exact S.ap b q
end
def fixC (i : Nat) (cs : Cs) (Q : D → Cs → Prop) : Prop := match cs[i]? with
  | some (.frz x) => Q x cs
  | some (.lst xs) => Q (.lst xs) (cs.set i (.frz (.lst xs)))
  | some (.dct kvs _) => Q (.dct kvs) (cs.set i (.frz (.dct kvs)))
  | _ => False
def fixW (w : W) (cs : Cs) (Q : D → Cs → Prop) : Prop := match w with
  | .d x => Q x cs
  | .c i => fixC i cs Q
  | .dead => False
  | .tp _ => False
def fixAll : List W → Cs → (List D → Cs → Prop) → Prop
  | [], cs, Q => Q [] cs
  | w :: ws, cs, Q => fixW w cs fun x cs1 => fixAll ws cs1 fun xs cs2 => Q (x :: xs) cs2
section
variable {G : Gam} {F H : Hp} {ι : Pl} {cs : Cs}
theorem fixW_ok (S : Sim G F ι cs H) {w : W} {v : V} (r : RepW G F ι w v) {Q : D → Cs → Prop} (h : fixW w cs Q) : ∃ F' cs' x, Ext F F' ι ι ∧ Sim G F' ι cs' H ∧ Rep G F' x v ∧ Q x cs' := by
  cases w with
  | d x => exact ⟨F, cs, x, .refl, S, r, h⟩
  | dead => cases h
  | tp xs => cases h
  | c i =>
    obtain ⟨a, ha, rfl⟩ := r
    have h : fixC i cs Q := h
    unfold fixC at h
    cases e : cs[i]? with
    | none => rw [e] at h; cases h
    | some y =>
      rw [e] at h
      obtain ⟨a', e', c⟩ := S.cell i y e
      rw [ha] at e'; cases e'
      cases y with
      | frz x => exact ⟨F, cs, x, .refl, S, c.2, h⟩
      | lst xs =>
        obtain ⟨h1, vs, h2, h3⟩ := c
        obtain ⟨E1, S1⟩ := S.freeze (x := .lst xs) ha e h1 h2 (by
          simp only [Rep]
          exact ⟨a, vs, rfl, upd_same, Reps.mono (fun b u q => by rw [upd_ne (ne_of_none q h1)]; exact q) _ _ h3⟩)
        exact ⟨_, _, _, E1, S1, by
          simp only [Rep]
          exact ⟨a, vs, rfl, upd_same, Reps.mono E1.same _ _ h3⟩, h⟩
      | dct kvs o =>
        obtain ⟨h1, h0, ks, ps, h2, h3, h4⟩ := c
        obtain ⟨E1, S1⟩ := S.freeze (x := .dct kvs) ha e h1 h2 (by
          simp only [Rep]
          exact ⟨a, o, ks, ps, rfl, ⟨h0, .inl upd_same⟩, h3, RepKV.mono (fun b u q => by rw [upd_ne (ne_of_none q h1)]; exact q) _ _ _ h4⟩)
        exact ⟨_, _, _, E1, S1, by
          simp only [Rep]
          exact ⟨a, o, ks, ps, rfl, ⟨h0, .inl upd_same⟩, h3, RepKV.mono E1.same _ _ _ h4⟩, h⟩
      | obj c fs => cases h
theorem fixAll_ok : ∀ {ws : List W} {vs : List V} {F : Hp} {cs : Cs} {Q : List D → Cs → Prop}, Sim G F ι cs H → Paired (RepW G F ι) ws vs → fixAll ws cs Q → ∃ F' cs' xs, Ext F F' ι ι ∧ Sim G F' ι cs' H ∧ Reps G F' xs vs ∧ Q xs cs'
  | [], _, F, cs, Q, S, .nil, h => ⟨F, cs, [], .refl, S, Reps.nil, h⟩
  | w :: ws, _, F, cs, Q, S, .cons r t, h => by
    obtain ⟨F1, cs1, x, e1, S1, r1, h1⟩ := fixW_ok S r h
    obtain ⟨F2, cs2, xs, e2, S2, r2, h2⟩ := fixAll_ok S1 (Paired.imp' (fun _ _ q => q.mono e1) t) h1
    exact ⟨F2, cs2, x :: xs, e1.trans e2, S2, Reps.cons (Rep.mono e2.same _ _ r1) r2, h2⟩
end
def dTup (t : DA) : DT := fun env cs Q E => t env cs (fun ws cs1 => fixAll ws cs1 fun ds cs2 => ds.length ≤ sizeLine ∧ Q (.d (.tup ds)) cs2) E
def dLst (t : DA) : DT := fun env cs Q E => t env cs (fun ws cs1 => fixAll ws cs1 fun ds cs2 => ds.length ≤ sizeLine ∧ Q (.c cs2.length) (cs2 ++ [.lst ds])) E
section
variable {X : Cx} {G : Gam} {Wx : WX} {pos : Pos} {es : List Expr} {t : DA}
/-- a tuple as it is made -/
def tupO (us : List Value) : Obj := { cls := .type "tuple", data := .seq us.toArray }
theorem tup_laid {pins : List (Addr × Obj)} {s : Shared} {σ : L2.St} {H : Hp} {vs : List V} {us : List Value} {tk : Nat} (I : Inv X pins σ H s) (r : Vals vs us) (hz : vs.length ≤ sizeLine) :
    Inv X pins σ (upd H s.heap.objs.size (.frz (tupO us) (.tup vs))) { s with heap := s.heap.push (tupO us), toks := tk } :=
  I.laid (fun b u e => Heap.get?_push_of_some _ e) (Nat.le_refl _) ⟨Heap.get?_push_size _ rfl, hz, us, r, ⟨tupO us, Heap.get?_push_size _ rfl, rfl, 0, rfl⟩⟩
/-- the datum over it -/
theorem tup_rep {F : Hp} {p : Addr} {o : Obj} {vs : List V} {xs : List D} (h : F p = some (.frz o (.tup vs))) (ho : o.dict = none) (r : Reps G F xs vs) : Rep G F (.tup xs) (.ref p) := by
  simp only [Rep]
  exact ⟨p, vs, rfl, ⟨o, ho, .inl h⟩, r⟩
theorem e_tup {k} (h : DAs X G Wx es t) : DE X G Wx (.Tuple es k pos) (dTup t) := ⟨fun pins s σ H Q I hh => by
  obtain ⟨F, ι, env, cs, Q0, E0, S, R, t, hq, he⟩ := hh
  refine wpAny_Tuple_spliced (thn (h.run pos pins s σ H (fun vs H1 => vs.length ≤ sizeLine ∧ ∀ p us, H1 p = none → Q (.ref p) (upd H1 p (.frz (tupO us) (.tup vs)))) I ⟨F, ι, env, cs, _, E0, S, R, t, fun F1 ι1 cs1 ws vs H1 e1 S1 r1 q1 => ?_, he⟩) fun us s1 ⟨vs, H1, I1, r, z, q⟩ => ⟨by rw [← r.length]; exact z, ?_⟩)
  · obtain ⟨F2, cs2, ds, e2, S2, r2, hl, q2⟩ := fixAll_ok S1 r1 q1
    refine ⟨by rw [r2.length]; exact hl, fun p us hp => ?_⟩
    obtain ⟨e3, S3⟩ := S2.fixed (o := .frz (tupO us) (.tup vs)) hp
    exact hq _ _ _ (.d (.tup ds)) _ _ (e1.trans (e2.trans e3)) S3 (tup_rep upd_same rfl (Reps.mono e3.same _ _ r2)) q2
  · exact ⟨.ref s1.heap.objs.size, _, tup_laid (tk := s1.toks) I1 r z, rfl, q _ us (I1.hok.fresh (Nat.le_refl _))⟩⟩
theorem e_lst (h : DAs X G Wx es t) : DE X G Wx (.List es pos) (dLst t) := PE.imp (pe_lst h) fun σ H Q h => by
  obtain ⟨F, ι, env, cs, Q0, E0, S, R, t, hq, he⟩ := h
  refine ⟨F, ι, env, cs, _, E0, S, R, t, fun F1 ι1 cs1 ws vs H1 e1 S1 r1 q1 => ?_, he⟩
  obtain ⟨F2, cs2, ds, e2, S2, r2, hl, q2⟩ := fixAll_ok S1 r1 q1
  refine ⟨by rw [r2.length]; exact hl, fun p hp => ?_⟩
  obtain ⟨e3, S3⟩ := S2.owned (o := .lst vs) (x := .lst ds) hp fun ι' => ⟨S2.dead hp, vs, upd_same, r2⟩
  exact hq _ _ _ (.c cs2.length) _ _ (e1.trans (e2.trans e3)) S3 ⟨p, by rw [← S2.len]; simp [Pl.add], rfl⟩ q2
abbrev DGs := List D → Nv → Cs → (Nv → Cs → Prop) → Prop
def dgNil : DGs := fun xs env cs Q => xs = [] ∧ Q env cs
def dgCons (g : DG) (u : DGs) : DGs := fun xs env cs Q => match xs with
  | [] => False
  | x :: r => g (.d x) env cs fun env1 cs1 => u r env1 cs1 Q
/-- (a, b, ..) = a tuple of that length -/
def dgTup (n : Nat) (u : DGs) : DG := fun w env cs Q => match w with
  | .d (.tup xs) => xs.length = n ∧ u xs env cs Q
  | .tp xs => xs.length = n ∧ u xs env cs Q
  | _ => False
def upGs (G : Gam) (us : List Nat) (t : DGs) : TGs := fun vs σ H Q => ∃ F ι env cs xs Q0, Sim G F ι cs H ∧ RepEnv G F ι env σ ∧ Reps G F xs vs ∧ t xs env cs Q0 ∧
  ∀ F' ι' cs' env' σ' H', Ext F F' ι ι' → Sim G F' ι' cs' H' → RepEnv G F' ι' env' σ' → wipe σ' us = wipe σ us → Q0 env' cs' → Q σ' H'
def DGts (X : Cx) (G : Gam) (us : List Nat) (ts : List Expr) (t : DGs) : Prop := PGs X ts (upGs G us t)
theorem PGs.imp {e : List Expr} {t u : TGs} (h : PGs X e t) (f : ∀ v σ H Q, u v σ H Q → t v σ H Q) : PGs X e u := ⟨fun pins s σ H v w Q I r q => h.run pins s σ H v w Q I r (f v σ H Q q)⟩
theorem gs_nil {us : List Nat} : DGts X G us [] dgNil := PGs.imp pgs_nil fun vs σ H Q h => by
  obtain ⟨F, ι, env, cs, xs, Q0, S, R, r, ⟨rfl, t⟩, hq⟩ := h
  simp only [Reps] at r
  exact ⟨r, hq F ι cs env σ H .refl S R rfl t⟩
theorem gs_cons {e : Expr} {g : DG} {u : DGs} {us : List Nat} (h1 : DGt X G us e g) (h2 : DGts X G us es u) (hs : (assignEach (e :: es) X.env).map (·.2) = assign e X.env :: (assignEach es X.env).map (·.2) := by rfl) : DGts X G us (e :: es) (dgCons g u) :=
  PGs.imp (pgs_cons h1 h2 hs) fun vs σ H Q h => by
    obtain ⟨F, ι, env, cs, xs, Q0, S, R, r, t, hq⟩ := h
    cases xs with
    | nil => cases t
    | cons x xs =>
      simp only [Reps] at r
      obtain ⟨v, vr, rfl, r1, r2⟩ := r
      refine ⟨v, vr, rfl, F, ι, env, cs, .d x, _, S, R, r1, t, fun F1 ι1 cs1 env1 σ1 H1 e1 S1 R1 w1 q1 => ?_⟩
      exact ⟨F1, ι1, env1, cs1, xs, Q0, S1, R1, Reps.mono e1.same _ _ r2, q1, fun F2 ι2 cs2 z σ2 H2 e2 S2 R2 w2 => hq F2 ι2 cs2 z σ2 H2 (e1.trans e2) S2 R2 (w2.trans w1)⟩
theorem g_tup {k : Nat} {u : DGs} {n : Nat} {us : List Nat} (hc : X.calm = true) (hK : X.K = G.K) (h : DGts X G us es u)
    (hn : (assignEach es X.env).length = n := by rfl) (hst : (assignEach es X.env).findIdx? (·.1) = none := by rfl) : DGt X G us (.Tuple es k pos) (dgTup n u) :=
  PG.imp (pg_tup hc h hn hst) fun v σ H Q h => by
    obtain ⟨F, ι, env, cs, w, Q0, S, R, r, t, hq⟩ := h
    cases w with
    | c i => cases t
    | dead => cases t
    | tp xs =>
      obtain ⟨t1, t2⟩ := (show xs.length = n ∧ u xs env cs Q0 from t)
      obtain ⟨a, vs, rfl, h1, h2⟩ := r
      rw [hK]
      exact ⟨a, vs, rfl, SqT.mono S.same h1, by rw [h2.length]; exact t1, F, ι, env, cs, xs, Q0, S, R, h2, t2, hq⟩
    | d x =>
      cases x with
      | tup xs =>
        obtain ⟨t1, t2⟩ := (show xs.length = n ∧ u xs env cs Q0 from t)
        simp only [RepW, Rep] at r
        obtain ⟨a, vs, rfl, h1, h2⟩ := r
        rw [hK]
        exact ⟨a, vs, rfl, SqT.mono S.same h1.sq, by rw [h2.length]; exact t1, F, ι, env, cs, xs, Q0, S, R, h2, t2, hq⟩
      | _ => cases t
/-- a name = a value -/
theorem s_set {i : Nat} {x : Str} {e : Expr} {te : DT} {pos' : Pos} (hN : X.N.Nodup) (hi : X.N[i]? = some x) (hx : Loc X.env.scope x) (he : DE X G Wx e te) (hs : swapsWith e (some (.Name x pos')) pos.line X.env = pure false := by rfl) (hf : X.fn x = true ∨ X.env.scope.names.lookup x = some .local := by first | exact .inl rfl | exact .inr rfl | assumption) :
    DSt X G Wx (.Assign [.Name x pos'] e pos) (dAsg te (dgName i)) :=
  PS.imp (ps_set hN hi hx he hs hf) fun D σ H h => by
    obtain ⟨F, ι, env, cs, D0, S, R, t, h1, h2, h3, h4, h5⟩ := h
    refine ⟨F, ι, env, cs, _, _, S, R, t, fun F1 ι1 cs1 x v H1 e1 S1 r1 q1 => ?_, fun F1 ι1 cs1 x cls od H1 e1 S1 r1 q1 => h5 F1 ι1 cs1 x cls od env σ H1 e1 S1 (R.mono e1) r1 q1⟩
    exact h1 F1 ι1 cs1 _ _ H1 e1 S1 ((R.mono e1).set r1) q1
/-- a, b = x, y of plain local names: no tuple is made -/
def dPar (i j : Nat) (t : DA) : DS := fun D env cs => t env cs (fun ws cs1 => match ws with
  | [v, w] => D.nx ((env.set i (some v)).set j (some w)) cs1
  | _ => False) fun x cs1 => D.ex x env cs1
theorem s_par {i j : Nat} {x y : Str} {a b : Expr} {ta : DA} {px py pt : Pos} {kt k2 pt2} (hc : X.calm = true) (hN : X.N.Nodup) (hi : X.N[i]? = some x) (hj : X.N[j]? = some y) (hij : i ≠ j)
    (hx : X.env.scope.names.lookup x = some .local) (hy : X.env.scope.names.lookup y = some .local) (ha : DAs X G Wx [a, b] ta)
    (hw : swappedStores [.Tuple [.Name x px, .Name y py] kt pt] (.Tuple [a, b] k2 pt2) X.env = pure (some [x, y]))
    (hs : swapsWithSole [.Tuple [.Name x px, .Name y py] kt pt] (.Tuple [a, b] k2 pt2) pos.line X.env = pure false := by rfl) :
    DSt X G Wx (.Assign [.Tuple [.Name x px, .Name y py] kt pt] (.Tuple [a, b] k2 pt2) pos) (dPar i j ta) :=
  PS.imp (ps_par hc hN hi hj hij hx hy ha hw hs) fun D σ H h => by
    obtain ⟨F, ι, env, cs, D0, S, R, t, h1, h2, h3, h4, h5⟩ := h
    refine ⟨F, ι, env, cs, _, _, S, R, t, fun F1 ι1 cs1 ws vs H1 e1 S1 r1 q1 => ?_, fun F1 ι1 cs1 x cls od H1 e1 S1 r1 q1 => h5 F1 ι1 cs1 x cls od env σ H1 e1 S1 (R.mono e1) r1 q1⟩
    cases r1 with
    | nil => cases q1
    | cons r1 t1 =>
      cases t1 with
      | nil => cases q1
      | cons r2 t2 =>
        cases t2 with
        | nil => exact ⟨_, _, rfl, h1 F1 ι1 cs1 _ _ H1 e1 S1 (((R.mono e1).set r1).set r2) q1⟩
        | cons _ _ => cases q1
end
end DL
namespace DL
open PySem PySem.Spec L2
/-- what a name stands for, as a datum -/
def look (w : W) (cs : Cs) : Option D := match w with
  | .d x => some x
  | .c i => match cs[i]? with
    | some (.lst xs) => some (.lst xs)
    | some (.dct kvs _) => some (.dct kvs)
    | some (.frz x) => some x
    | _ => none
  | .dead => none
  | .tp _ => none
def leafD : D → Bool
  | .tup _ | .lst _ | .dct _ | .obj _ _ | .scr _ => false
  | _ => true
/-- as Rep, but the top stands as it stands in H -/
def Top (G : Gam) (F H : Hp) : D → V → Prop
  | .tup ds, v => ∃ a vs, v = .ref a ∧ PTu G.K H a vs ∧ Reps G F ds vs
  | .lst ds, v => ∃ a vs, v = .ref a ∧ H a = some (.lst vs) ∧ Reps G F ds vs
  | .dct kvs, v => ∃ a o ks ps, v = .ref a ∧ DcAt G H a o ∧ RawO G.w ks ps o ∧ RepKV G F kvs ks ps
  | .obj c ds, v => ∃ a C nm dx gs vs, v = .ref a ∧ G.cls c = some (C, nm) ∧ H a = some (.ins C dx gs) ∧ FldsAt nm gs (vs.map some) ∧ Reps G F ds vs
  | .scr ns, v => ∃ a, v = .ref a ∧ SqL G.K H a (ns.map V.int)
  | x, v => Rep G F x v
section
variable {G : Gam} {F H : Hp} {ι : Pl} {cs : Cs}
theorem Rep.top (s : Same F H) {x : D} {v : V} (h : Rep G F x v) : Top G F H x v := by
  cases x with
  | tup ds => simp only [Rep] at h; obtain ⟨a, vs, h1, h2, h3⟩ := h; exact ⟨a, vs, h1, PTu.mono s h2, h3⟩
  | lst ds => simp only [Rep] at h; obtain ⟨a, vs, h1, h2, h3⟩ := h; exact ⟨a, vs, h1, s _ _ h2, h3⟩
  | scr ns => simp only [Rep] at h; obtain ⟨a, h1, h2⟩ := h; exact ⟨a, h1, SqL.mono s h2⟩
  | dct kvs => simp only [Rep] at h; obtain ⟨a, o, ks, ps, h1, h2, h3, h4⟩ := h; exact ⟨a, o, ks, ps, h1, h2.mono s, h3, h4⟩
  | obj c ds => simp only [Rep] at h; obtain ⟨a, C, nm, dx, gs, vs, h1, h2, h3, h4, h5⟩ := h; exact ⟨a, C, nm, dx, gs, vs, h1, h2, s _ _ h3, h4, h5⟩
  | _ => exact h
theorem look_top (S : Sim G F ι cs H) {w : W} {v : V} {x : D} (r : RepW G F ι w v) (h : look w cs = some x) : Top G F H x v := by
  cases w with
  | d y =>
    cases h
    exact Rep.top S.same r
  | dead => cases h
  | tp xs => cases h
  | c i =>
    obtain ⟨a, ha, rfl⟩ := r
    unfold look at h
    simp only at h
    cases e : cs[i]? with
    | none => rw [e] at h; cases h
    | some y =>
      rw [e] at h
      obtain ⟨a', e', c⟩ := S.cell i y e
      rw [ha] at e'; cases e'
      cases y with
      | frz y => cases h; exact Rep.top S.same c.2
      | lst xs => cases h; obtain ⟨_, vs, h2, h3⟩ := c; exact ⟨a, vs, rfl, h2, h3⟩
      | dct kvs o => cases h; obtain ⟨_, h0, ks, ps, h2, h3, h4⟩ := c; exact ⟨a, o, ks, ps, rfl, ⟨h0, .inl h2⟩, h3, h4⟩
      | obj c fs => cases h
theorem Top.simple {x : D} {v : V} (h : Top G F H x v) (hx : leafD x = true) : Rep G F x v := by
  cases x <;> first | exact h | cases hx
end
/-- J yields the items as long as keep holds -/
structure Serves (G : Gam) (F : Hp) (ι : Pl) (items : List W) (keep : Cs → Prop) (J : It) : Prop where
  go : ∀ {F' ι' cs' H'} (i : Nat), Ext0 F F' ι ι' → Sim G F' ι' cs' H' → keep cs' → i < items.length → J.go i H'
  yld : ∀ {F' ι' cs' H' x H''} (i : Nat) (it : W), Ext0 F F' ι ι' → Sim G F' ι' cs' H' → keep cs' → items[i]? = some it → J.yld i H' x H'' → ∃ F'', Ext F' F'' ι' ι' ∧ Sim G F'' ι' cs' H'' ∧ RepW G F'' ι' it x
  stop : ∀ {F' ι' cs' H'}, Ext0 F F' ι ι' → Sim G F' ι' cs' H' → keep cs' → J.stop items.length H'
abbrev DI := Nv → Cs → (List W → (Cs → Prop) → Cs → Prop) → DX → Prop
def upI (G : Gam) (Wx : WX) (t : DI) : TI := fun σ H R => ∃ F ι env cs Q0 E0, Sim G F ι cs H ∧ RepEnv G F ι env σ ∧ t env cs Q0 E0 ∧
  (∀ F' ι' cs' items keep J H', Ext F F' ι ι' → Sim G F' ι' cs' H' → Serves G F' ι' items keep J → Q0 items keep cs' → R J H') ∧
  ∀ F' ι' cs' x cls od H', Ext F F' ι ι' → Sim G F' ι' cs' H' → RepX G F' x cls od H' → E0 x cs' → Wx cls od σ H'
def DIt (X : Cx) (G : Gam) (Wx : WX) (tg e : Expr) (t : DI) : Prop := PI X tg e (upI G Wx t)
theorem PI.imp {X : Cx} {tg e : Expr} {t u : TI} (h : PI X tg e t) (f : ∀ σ H Q, u σ H Q → t σ H Q) : PI X tg e u := ⟨fun pins s σ H Q I q => h.run pins s σ H Q I (f σ H Q q)⟩
/-- a list, a tuple, a text, by what comes -/
def iSeq (K : PySem.W.Frag) (te : TE) : TI := fun σ H R => te σ H fun x H1 => (∃ a, x = .ref a ∧ (∃ xs, SqL K H1 a xs) ∧ R (Itl K a) H1) ∨ (∃ a, x = .ref a ∧ (∃ xs, SqT K H1 a xs) ∧ R (Itt K a) H1) ∨ ∃ z, x = .str z ∧ R (Its z) H1
theorem pi_seq {X : Cx} {tg e : Expr} {te : TE} (h : PE X e te) : PI X tg e (iSeq X.K te) := by
  refine ⟨fun pins s σ H R I hq => ?_⟩
  refine thn (h.run pins s σ H _ I hq) fun v s1 ⟨x, H1, I1, r1, q1⟩ => ?_
  rcases q1 with ⟨a, rfl, ⟨xs, hx⟩, q⟩ | ⟨a, rfl, ⟨xs, hx⟩, q⟩ | ⟨z, rfl, q⟩
  · cases r1
    obtain ⟨its, rv, p, hz⟩ := I1.list hx
    exact wpAny_pyIter_list p.isList (pi_one (tk := s1.toks) I1 _ (turn_list a _) ⟨_, Heap.get?_push_size _ rfl, rfl, rfl⟩ q)
  · cases r1
    obtain ⟨its, rv, p, hz⟩ := I1.tuple hx
    exact wpAny_pyIter_tuple (show s1.heap.IsTuple a its.toArray from p) (pi_one (tk := s1.toks) I1 _ (turn_tuple a _) ⟨_, Heap.get?_push_size _ rfl, rfl, rfl⟩ q)
  · obtain ⟨t, rfl⟩ := r1
    cases ha : z.cps.all (· < 128)
    · exact wpAny_pyIter_wide ha (pi_one (tk := s1.toks) I1 _ (turn_str _ z t "str_iterator" (.inr rfl)) ⟨_, Heap.get?_push_size _ rfl, rfl, rfl⟩ q)
    · exact wpAny_pyIter_ascii ha (pi_one (tk := s1.toks) I1 _ (turn_str _ z t "str_ascii_iterator" (.inl rfl)) ⟨_, Heap.get?_push_size _ rfl, rfl, rfl⟩ q)
/-- the signs of a text -/
def signs (x : Str) : List D := x.cps.toList.map fun c => .str ⟨#[c]⟩
def diSeq (t : DT) : DI := fun env cs Q E => t env cs (fun w cs1 => match look w cs1 with
  | some (.lst xs) => Q (xs.map .d) (fun cs' => look w cs' = some (.lst xs)) cs1
  | some (.tup xs) => Q (xs.map .d) (fun _ => True) cs1
  | some (.str x) => Q ((signs x).map .d) (fun _ => True) cs1
  | _ => False) E
def diRange1 (t : DA) : DI := fun env cs Q E => t env cs (fun ws cs1 => match ws with
  | [.d (.int j)] => -(2 ^ 62) ≤ j ∧ j < 2 ^ 62 ∧ Q ((List.range j.toNat).map fun (i : Nat) => .d (.int i)) (fun _ => True) cs1
  | _ => False) E
def diRange2 (t : DA) : DI := fun env cs Q E => t env cs (fun ws cs1 => match ws with
  | [.d (.int i), .d (.int j)] => (-(2 ^ 62) ≤ i ∧ i < 2 ^ 62 ∧ -(2 ^ 62) ≤ j ∧ j < 2 ^ 62) ∧ Q ((List.range (j - i).toNat).map fun (k : Nat) => .d (.int (i + k))) (fun _ => True) cs1
  | _ => False) E
/-- an item beside its place, as data -/
def pairUp : Nat → List D → List W
  | _, [] => []
  | i, x :: xs => .tp [.int i, x] :: pairUp (i + 1) xs
theorem pairUp_length : ∀ (i : Nat) (xs : List D), (pairUp i xs).length = xs.length
  | _, [] => rfl
  | i, x :: xs => by simp [pairUp, pairUp_length (i + 1) xs]
theorem pairUp_get : ∀ (i : Nat) (xs : List D) (j : Nat), (pairUp i xs)[j]? = (xs[j]?).map fun x => W.tp [.int ((i + j : Nat) : Int), x]
  | _, [], j => by simp [pairUp]
  | i, x :: xs, 0 => by simp [pairUp]
  | i, x :: xs, j + 1 => by
    simp only [pairUp, List.getElem?_cons_succ]
    rw [pairUp_get (i + 1) xs j]
    have e : i + 1 + j = i + (j + 1) := by omega
    rw [e]
def diEnum (t : DA) : DI := fun env cs Q E => t env cs (fun ws cs1 => match ws with
  | [w] => (match look w cs1 with
    | some (.lst xs) => Q (pairUp 0 xs) (fun cs' => look w cs' = some (.lst xs)) cs1
    | _ => False)
  | _ => False) E
section
variable {G : Gam} {F H : Hp} {ι : Pl} {cs : Cs}
theorem serves_list {w : W} {a : Addr} {xs : List D} (hK : ∀ {F' ι' cs' H'}, Ext0 F F' ι ι' → Sim G F' ι' cs' H' → look w cs' = some (.lst xs) → ∃ vs, SqL G.K H' a vs ∧ Reps G F' xs vs) : Serves G F ι (xs.map .d) (fun cs' => look w cs' = some (.lst xs)) (Itl G.K a) where
  go := fun {F' ι' cs' H'} i e S k hi => by
    obtain ⟨vs, h1, h2⟩ := hK e S k
    rw [List.length_map] at hi
    obtain ⟨v, h3, _⟩ := h2.get (List.getElem?_eq_getElem hi)
    exact ⟨vs, v, h1, h3⟩
  yld := fun {F' ι' cs' H' x H''} i it e S k hi y => by
    obtain ⟨vs, h1, h2⟩ := hK e S k
    obtain ⟨rfl, y⟩ := y
    rw [List.getElem?_map] at hi
    cases q : xs[i]? with
    | none => rw [q] at hi; cases hi
    | some z =>
      rw [q] at hi; cases hi
      obtain ⟨v, h3, h4⟩ := h2.get q
      have := y vs h1
      rw [h3] at this; cases this
      exact ⟨F', .refl, S, h4⟩
  stop := fun {F' ι' cs' H'} e S k => by
    obtain ⟨vs, h1, h2⟩ := hK e S k
    exact ⟨vs, h1, by rw [h2.length, List.length_map]; exact Nat.le_refl _⟩
theorem list_again {w : W} {a : Addr} {xs : List D} (S : Sim G F ι cs H) (r : RepW G F ι w (.ref a)) {F' ι' cs' H'} (e : Ext0 F F' ι ι') (S' : Sim G F' ι' cs' H') (h : look w cs' = some (.lst xs)) : ∃ vs, SqL G.K H' a vs ∧ Reps G F' xs vs := by
  obtain ⟨a', vs, e1, h1, h2⟩ := look_top S' (r.mono0 e) h
  cases e1
  exact ⟨vs, SqL.of h1, h2⟩
theorem serves_tup {a : Addr} {xs : List D} {vs : List V} (h1 : SqT G.K F a vs) (h2 : Reps G F xs vs) : Serves G F ι (xs.map .d) (fun _ => True) (Itt G.K a) where
  go := fun {F' ι' cs' H'} i e S k hi => by
    rw [List.length_map] at hi
    obtain ⟨v, h3, _⟩ := h2.get (List.getElem?_eq_getElem hi)
    exact ⟨vs, v, SqT.mono S.same (SqT.mono e.same h1), h3⟩
  yld := fun {F' ι' cs' H' x H''} i it e S k hi y => by
    obtain ⟨rfl, y⟩ := y
    rw [List.getElem?_map] at hi
    cases q : xs[i]? with
    | none => rw [q] at hi; cases hi
    | some z =>
      rw [q] at hi; cases hi
      obtain ⟨v, h3, h4⟩ := h2.get q
      have := y vs (SqT.mono S.same (SqT.mono e.same h1))
      rw [h3] at this; cases this
      exact ⟨F', .refl, S, Rep.mono e.same _ _ h4⟩
  stop := fun {F' ι' cs' H'} e S k => ⟨vs, SqT.mono S.same (SqT.mono e.same h1), by rw [h2.length, List.length_map]; exact Nat.le_refl _⟩
theorem strOk_sign {x : Str} (h : PyData.strOk x = true) {c : Nat} (hc : c ∈ x.cps.toList) : PyData.strOk ⟨#[c]⟩ = true := by
  unfold PyData.strOk at h ⊢
  rw [← Array.all_toList] at h ⊢
  have := List.all_eq_true.mp h c hc
  simpa using this
theorem serves_str {x : Str} (hx : PyData.strOk x = true) : Serves G F ι ((signs x).map .d) (fun _ => True) (Its x) where
  go := fun {F' ι' cs' H'} i e S k hi => by
    show i < x.cps.size
    simpa [signs] using hi
  yld := fun {F' ι' cs' H' z H''} i it e S k hi y => by
    obtain ⟨rfl, c, hc, rfl⟩ := y
    rw [List.getElem?_map] at hi
    unfold signs at hi
    rw [List.getElem?_map, Array.getElem?_toList, hc] at hi
    simp at hi
    subst hi
    exact ⟨F', .refl, S, by
      simp only [RepW, Rep]
      exact ⟨True.intro, strOk_sign hx (by rw [← Array.getElem?_toList] at hc; exact List.mem_of_getElem? hc)⟩⟩
  stop := fun {F' ι' cs' H'} e S k => by simp [signs, Its]
theorem serves_range {lo : Int} {n : Nat} : Serves G F ι ((List.range n).map fun (k : Nat) => .d (.int (lo + k))) (fun _ => True) (Itr lo n) where
  go := fun {F' ι' cs' H'} i e S k hi => by simpa [Itr] using hi
  yld := fun {F' ι' cs' H' z H''} i it e S k hi y => by
    obtain ⟨rfl, rfl⟩ := y
    rw [List.getElem?_map] at hi
    cases q : (List.range n)[i]? with
    | none => rw [q] at hi; cases hi
    | some j =>
      rw [q] at hi; cases hi
      obtain ⟨h1, h2⟩ := List.getElem?_eq_some_iff.mp q
      rw [List.getElem_range] at h2
      subst h2
      exact ⟨F', .refl, S, by simp only [RepW, Rep]⟩
  stop := fun {F' ι' cs' H'} e S k => by simp [Itr]
theorem serves_enum {w : W} {a : Addr} {xs : List D} (hK : ∀ {F' ι' cs' H'}, Ext0 F F' ι ι' → Sim G F' ι' cs' H' → look w cs' = some (.lst xs) → ∃ vs, SqL G.K H' a vs ∧ Reps G F' xs vs) : Serves G F ι (pairUp 0 xs) (fun cs' => look w cs' = some (.lst xs)) (Ite G.K a) where
  go := fun {F' ι' cs' H'} i e S k hi => by
    obtain ⟨vs, h1, h2⟩ := hK e S k
    rw [pairUp_length] at hi
    obtain ⟨v, h3, _⟩ := h2.get (List.getElem?_eq_getElem hi)
    exact ⟨vs, v, h1, h3⟩
  yld := fun {F' ι' cs' H' x H''} i it e S k hi y => by
    obtain ⟨vs, h1, h2⟩ := hK e S k
    obtain ⟨T, v, rfl, hT, rfl, y⟩ := y
    rw [pairUp_get] at hi
    cases q : xs[i]? with
    | none => rw [q] at hi; cases hi
    | some z =>
      rw [q] at hi; cases hi
      obtain ⟨v', h3, h4⟩ := h2.get q
      have := y vs h1
      rw [h3] at this; cases this
      obtain ⟨e1, S1⟩ := S.fixed (o := .tup [.int (i : Nat), v]) hT
      refine ⟨_, e1, S1, ?_⟩
      simp only [RepW, Rep]
      refine ⟨T, _, rfl, SqT.of upd_same, Reps.cons (by simp [Rep]) (Reps.one (Rep.mono e1.same _ _ h4))⟩
  stop := fun {F' ι' cs' H'} e S k => by
    obtain ⟨vs, h1, h2⟩ := hK e S k
    exact ⟨vs, h1, by rw [h2.length, pairUp_length]; exact Nat.le_refl _⟩
/-- a tuple is data, never a cell but a fixed one -/
theorem look_tupP (S : Sim G F ι cs H) {w : W} {v : V} {xs : List D} (r : RepW G F ι w v) (h : look w cs = some (.tup xs)) : ∃ a vs, v = .ref a ∧ PTu G.K F a vs ∧ Reps G F xs vs := by
  cases w with
  | d y =>
    cases h
    simpa only [RepW, Rep] using r
  | dead => cases h
  | tp xs => cases h
  | c i =>
    obtain ⟨a, ha, rfl⟩ := r
    unfold look at h
    simp only at h
    cases e : cs[i]? with
    | none => rw [e] at h; cases h
    | some y =>
      rw [e] at h
      obtain ⟨a', e', c⟩ := S.cell i y e
      rw [ha] at e'; cases e'
      cases y with
      | frz y => cases h; simpa only [Rep] using c.2
      | lst xs => cases h
      | dct kvs o => cases h
      | obj c fs => cases h
end
section
variable {X : Cx} {G : Gam} {Wx : WX} {tg e e2 : Expr} {te : DT} {ta : DA} {p pos tpos : Pos} {elts : List Expr} {kk : Nat}
theorem look_tup (S : Sim G F ι cs H) {w : W} {v : V} {xs : List D} (r : RepW G F ι w v) (h : look w cs = some (.tup xs)) : ∃ a vs, v = .ref a ∧ SqT G.K F a vs ∧ Reps G F xs vs := by
  obtain ⟨a, vs, h1, h2, h3⟩ := look_tupP S r h
  exact ⟨a, vs, h1, h2.sq, h3⟩
theorem i_seq (hK : X.K = G.K) (h : DE X G Wx e te) : DIt X G Wx tg e (diSeq te) := PI.imp (pi_seq h) fun σ H R hq => by
  obtain ⟨F, ι, env, cs, Q0, E0, S, R0, t, hq, he⟩ := hq
  refine ⟨F, ι, env, cs, _, E0, S, R0, t, fun F1 ι1 cs1 w v H1 e1 S1 r1 q1 => ?_, he⟩
  rw [hK]
  cases q : look w cs1 with
  | none => simp only [q] at q1
  | some x =>
    simp only [q] at q1
    cases x with
    | lst xs =>
      obtain ⟨a, vs, rfl, h1, h2⟩ := look_top S1 r1 q
      exact .inl ⟨a, rfl, ⟨vs, SqL.of h1⟩, hq _ _ _ _ _ _ _ e1 S1 (serves_list fun e' S' h' => list_again S1 r1 e' S' h') q1⟩
    | tup xs =>
      obtain ⟨a, vs, rfl, h1, h2⟩ := look_tup S1 r1 q
      exact .inr (.inl ⟨a, rfl, ⟨vs, SqT.mono S1.same h1⟩, hq _ _ _ _ _ _ _ e1 S1 (serves_tup h1 h2) q1⟩)
    | str z =>
      have r := look_top S1 r1 q
      simp only [Top, Rep] at r
      exact .inr (.inr ⟨z, r.1, hq _ _ _ _ _ _ _ e1 S1 (serves_str r.2) q1⟩)
    | _ => cases q1
theorem i_range1 {a : Expr} (hg : Gl X "range") (hm : X.mg "range" = none) (ha : DAs X G Wx [a] ta) (hs : starEach [a] X.env = [(false, eval a X.env)] := by rfl) : DIt X G Wx tg (.Call (.Name "range" p) [a] [] pos) (diRange1 ta) :=
  PI.imp (pi_range1 hg hm ha hs) fun σ H R hq => by
    obtain ⟨F, ι, env, cs, Q0, E0, S, R0, t, hq, he⟩ := hq
    refine ⟨F, ι, env, cs, _, E0, S, R0, t, fun F1 ι1 cs1 ws vs H1 e1 S1 r1 q1 => ?_, he⟩
    split at q1
    · rename_i j
      obtain ⟨b1, b2, q1⟩ := q1
      cases r1 with
      | cons r t =>
        cases t
        simp only [RepW, Rep] at r
        subst r
        refine ⟨j, rfl, b1, b2, hq _ _ _ _ _ _ _ e1 S1 ?_ q1⟩
        have z := serves_range (G := G) (F := F1) (ι := ι1) (lo := 0) (n := j.toNat)
        simpa using z
    · cases q1
theorem i_enum (hK : X.K = G.K) (hg : Gl X "enumerate") (hm : X.mg "enumerate" = none) (ha : DAs X G Wx [e] ta) (hs : starEach [e] X.env = [(false, eval e X.env)] := by rfl) : DIt X G Wx (.Tuple elts kk tpos) (.Call (.Name "enumerate" p) [e] [] pos) (diEnum ta) :=
  PI.imp (pi_enum hg hm ha hs) fun σ H R hq => by
    obtain ⟨F, ι, env, cs, Q0, E0, S, R0, t, hq, he⟩ := hq
    refine ⟨F, ι, env, cs, _, E0, S, R0, t, fun F1 ι1 cs1 ws vs H1 e1 S1 r1 q1 => ?_, he⟩
    rw [hK]
    split at q1
    · rename_i w
      cases r1 with
      | cons r t =>
        cases t
        cases q : look w cs1 with
        | none => simp only [q] at q1
        | some x =>
          simp only [q] at q1
          cases x with
          | lst xs =>
            obtain ⟨a, vs, rfl, h1, h2⟩ := look_top S1 r q
            exact ⟨a, vs, rfl, SqL.of h1, hq _ _ _ _ _ _ _ e1 S1 (serves_enum fun e' S' h' => list_again S1 r e' S' h') q1⟩
          | _ => cases q1
    · cases q1
def forD (g : DG) (tb : DS) (keep : Cs → Prop) (D : DEnds) : List W → Nv → Cs → Prop
  | [], env, cs => keep cs ∧ D.nx env cs
  | x :: r, env, cs => keep cs ∧ g x env cs fun env1 cs1 => tb { D with nx := forD g tb keep D r, ct := forD g tb keep D r, bk := D.nx } env1 cs1
def dFor (ti : DI) (g : DG) (tb : DS) : DS := fun D env cs => ti env cs (fun items keep cs1 => forD g tb keep D items env cs1) fun x cs1 => D.ex x env cs1
variable {body : List Stmt} {ti : DI} {g : DG} {tb : DS}
theorem s_for {iter : Expr} (hp : PassesOwn (model X.prog X.w) X.A X.env X.xe) (hc : X.calm = true) {vs : List Nat} (hi : DIt X G Wx tg iter ti) (hg : DGt X G vs tg g) (hb : DSs X G Wx body tb) (hs : ∀ x, foldedSetIterable iter X.env x = pure x := by intro _; rfl) : DSt X G Wx (.For tg iter body [] pos) (dFor ti g tb) :=
  PS.imp (ps_for hp hc hi hg hb hs) fun D σ H h => by
    obtain ⟨F, ι, env, cs, D0, S, R, t, g1, g2, g3, g4, g5⟩ := h
    refine ⟨F, ι, env, cs, _, _, S, R, t, fun F1 ι1 cs1 items keep J H1 e1 S1 sv q1 => ?_, fun F1 ι1 cs1 x cls od H1 e1 S1 r1 q1 => g5 F1 ι1 cs1 x cls od env σ H1 e1 S1 (R.mono e1) r1 q1⟩
    refine ⟨fun i m σ' H' => ∃ F' ι' env' cs', Ext F1 F' ι1 ι' ∧ Sim G F' ι' cs' H' ∧ RepEnv G F' ι' env' σ' ∧ m = items.length - i ∧ i ≤ items.length ∧ forD g tb keep D0 (items.drop i) env' cs',
      ⟨_, F1, ι1, env, cs1, .refl, S1, R.mono e1, rfl, Nat.zero_le _, q1⟩, ?_⟩
    rintro i m σ' H' ⟨F', ι', env', cs', e', S', R', rfl, hi, q⟩
    by_cases hlt : i < items.length
    · rw [List.drop_eq_getElem_cons hlt] at q
      obtain ⟨k, q⟩ := (show keep cs' ∧ _ from q)
      refine .inr ⟨sv.go i e'.to0 S' k hlt, fun σ2 H2 => ∃ F2 ι2 env2 cs2, Ext F1 F2 ι1 ι2 ∧ Sim G F2 ι2 cs2 H2 ∧ RepEnv G F2 ι2 env2 σ2 ∧ forD g tb keep D0 (items.drop (i + 1)) env2 cs2,
        fun σ2 H2 ⟨F2, ι2, env2, cs2, a1, a2, a3, a4⟩ => ⟨_, by omega, F2, ι2, env2, cs2, a1, a2, a3, rfl, hlt, a4⟩, fun x H2 y => ?_⟩
      obtain ⟨F2, e2, S2, r2⟩ := sv.yld i _ e'.to0 S' k (List.getElem?_eq_getElem hlt) y
      refine ⟨F2, ι', env', cs', _, _, S2, R'.mono e2, r2, q, fun F3 ι3 cs3 env3 σ3 H3 e3 S3 R3 _ q3 => ?_⟩
      have E3 : Ext F F3 ι ι3 := e1.trans (e'.trans (e2.trans e3))
      refine ⟨F3, ι3, env3, cs3, _, S3, R3, q3, ?_, fun F4 ι4 cs4 z v H4 e4 => g2 F4 ι4 cs4 z v H4 (E3.trans e4), fun F4 ι4 cs4 z σ4 H4 e4 => g1 F4 ι4 cs4 z σ4 H4 (E3.trans e4), ?_, fun F4 ι4 cs4 x cls od z σ4 H4 e4 => g5 F4 ι4 cs4 x cls od z σ4 H4 (E3.trans e4)⟩
      all_goals
        intro F4 ι4 cs4 z σ4 H4 e4 S4 R4 q4
        exact ⟨F4, ι4, z, cs4, e'.trans (e2.trans (e3.trans e4)), S4, R4, q4⟩
    · have hi' : i = items.length := by omega
      subst hi'
      rw [List.drop_length] at q
      obtain ⟨k, q⟩ := (show keep cs' ∧ _ from q)
      exact .inl ⟨sv.stop e'.to0 S' k, g1 _ _ _ _ _ _ (e1.trans e') S' R' q⟩
end
end DL
set_option maxHeartbeats 2000000
namespace DL
open PySem PySem.Spec L2
def poison (n : Nat) : W → W
  | .c i => if i < n then .c i else .dead
  | w => w
def poisonC (n : Nat) : Cell → Cell
  | .obj c fs => .obj c (fs.map (Option.map (poison n)))
  | x => x
def dropTo (n : Nat) (cs : Cs) : Cs := (cs.take n).map (poisonC n)
/-- what every state of cells is: its objects name cells of its own -/
def closed (cs : Cs) : Prop := dropTo cs.length cs = cs
section
variable {G : Gam} {F H : Hp} {ι : Pl} {cs : Cs}
theorem poison_rep {n : Nat} {w : W} {v : V} (r : RepW G F ι w v) : RepW G F (ι.cut n) (poison n w) v := by
  cases w with
  | d x => exact r
  | dead => exact True.intro
  | tp xs => exact r
  | c i =>
    unfold poison
    by_cases hi : i < n
    · simp only [if_pos hi]
      obtain ⟨a, h1, h2⟩ := r
      exact ⟨a, by show (ι.l.take n)[i]? = _; rw [List.getElem?_take_of_lt hi]; exact h1, h2⟩
    · simp only [if_neg hi]
      exact True.intro
theorem Paired.map_left {α β γ : Type} {P : α → β → Prop} {Q : γ → β → Prop} {g : α → γ} (f : ∀ a b, P a b → Q (g a) b) : ∀ {l : List α} {m : List β}, Paired P l m → Paired Q (l.map g) m
  | _, _, .nil => .nil
  | _, _, .cons h t => .cons (f _ _ h) (Paired.map_left f t)
theorem CellAt.drop {n : Nat} {a : Addr} {x : Cell} (h : CellAt G F ι H a x) : CellAt G F (ι.cut n) H a (poisonC n x) := by
  cases x with
  | obj c fs =>
    obtain ⟨h1, C, nm, dx, gs, vs, h2, h3, h4, h5⟩ := h
    refine ⟨h1, C, nm, dx, gs, vs, h2, h3, h4, Paired.map_left (fun a b q => ?_) h5⟩
    cases a <;> cases b <;> first | exact poison_rep q | exact q
  | _ => exact h
theorem Sim.drop (S : Sim G F ι cs H) (n : Nat) : Sim G F (ι.cut n) (dropTo n cs) H := by
  refine ⟨S.same, by simp [dropTo, Pl.cut, S.len], S.nd.take n, fun i x q => ?_, S.fr, fun a q => ⟨(S.ap a q).1, fun z => (S.ap a q).2 (List.mem_of_mem_take z)⟩⟩
  unfold dropTo at q
  rw [List.getElem?_map] at q
  by_cases hi : i < n
  · rw [List.getElem?_take_of_lt hi] at q
    cases e : cs[i]? with
    | none => rw [e] at q; cases q
    | some y =>
      rw [e] at q; cases q
      obtain ⟨a, h1, h2⟩ := S.cell i y e
      exact ⟨a, by show (ι.l.take n)[i]? = _; rw [List.getElem?_take_of_lt hi]; exact h1, h2.drop⟩
  · rw [List.getElem?_eq_none (by simp; omega)] at q; cases q
/-- behind a stretch that began at ι -/
theorem Sim.back {F' : Hp} {ι' : Pl} {cs' : Cs} {H' : Hp} (S' : Sim G F' ι' cs' H') (e : Ext F F' ι ι') : Sim G F' ι (dropTo ι.l.length cs') H' := by
  obtain ⟨r, e1⟩ := e.pre
  have h := S'.drop ι.l.length
  have e2 : ι'.cut ι.l.length = ι := by
    unfold Pl.cut
    rw [← e1, List.take_left, e.eR]
  rwa [e2] at h
theorem poison_closed {n : Nat} {w : W} {v : V} (r : RepW G F ι w v) (h : ι.l.length = n) : poison n w = w := by
  cases w with
  | c i =>
    obtain ⟨a, h1, _⟩ := r
    have : i < n := by rw [← h]; exact (List.getElem?_eq_some_iff.mp h1).1
    unfold poison
    simp only [if_pos this]
  | _ => rfl
theorem Paired.map_eq {α β : Type} {P : α → β → Prop} {g : α → α} (f : ∀ a b, P a b → g a = a) : ∀ {l : List α} {m : List β}, Paired P l m → l.map g = l
  | _, _, .nil => rfl
  | _, _, .cons h t => by rw [List.map_cons, f _ _ h, Paired.map_eq f t]
theorem Sim.closed (S : Sim G F ι cs H) : closed cs := by
  unfold DL.closed dropTo
  rw [List.take_length]
  refine List.ext_getElem? fun i => ?_
  rw [List.getElem?_map]
  cases e : cs[i]? with
  | none => rfl
  | some x =>
    obtain ⟨a, h1, h2⟩ := S.cell i x e
    show some (poisonC cs.length x) = some x
    refine congrArg some ?_
    cases x with
    | obj c fs =>
      obtain ⟨_, C, nm, dx, gs, vs, _, _, _, h5⟩ := h2
      refine congrArg (Cell.obj c) (Paired.map_eq (fun a b q => ?_) h5)
      cases a with
      | none => rfl
      | some w =>
        cases b with
        | none => exact q.elim
        | some v => exact congrArg some (poison_closed q S.len)
    | _ => rfl
end
theorem poisonC_idem {n m : Nat} (h : n ≤ m) (x : Cell) (hx : poisonC n x = x) : poisonC m x = x := by
  cases x with
  | obj c fs =>
    unfold poisonC at hx ⊢
    injection hx with _ hx
    refine congrArg (Cell.obj c) ?_
    refine List.ext_getElem? fun i => ?_
    have e := congrArg (fun l => l[i]?) hx
    simp only [List.getElem?_map] at e ⊢
    cases q : fs[i]? with
    | none => rfl
    | some o =>
      rw [q] at e
      cases o with
      | none => rfl
      | some w =>
        cases w with
        | c j =>
          have e2 : poison n (.c j) = .c j := by simpa using e
          unfold poison at e2
          by_cases hj : j < n
          · simp [poison, Nat.lt_of_lt_of_le hj h]
          · simp [hj] at e2
        | _ => rfl
  | _ => rfl
theorem closed_mem {cs : Cs} (h : closed cs) : ∀ x ∈ cs, poisonC cs.length x = x := fun x hx => by
  unfold closed dropTo at h
  rw [List.take_length] at h
  obtain ⟨i, hi⟩ := List.mem_iff_getElem?.mp hx
  have e := congrArg (fun l => l[i]?) h
  simp only [List.getElem?_map, hi] at e
  exact Option.some.inj e
theorem dropTo_all {n : Nat} {cs : Cs} (hn : n = cs.length) (h : ∀ x ∈ cs, poisonC n x = x) : dropTo n cs = cs := by
  subst hn
  unfold dropTo
  rw [List.take_length]
  refine List.ext_getElem? fun i => ?_
  rw [List.getElem?_map]
  cases e : cs[i]? with
  | none => rfl
  | some x => exact congrArg some (h x (List.mem_of_getElem? e))
theorem dropTo_self {cs : Cs} (h : closed cs) : dropTo cs.length cs = cs := h
theorem dropTo_append {n : Nat} {cs g : Cs} (hn : n = cs.length) : dropTo n (cs ++ g) = dropTo n cs := by
  subst hn
  unfold dropTo
  rw [List.take_left, List.take_length]
/-- no object -/
def plainC : Cell → Bool
  | .obj _ _ => false
  | _ => true
theorem poisonC_plain {n : Nat} {x : Cell} (h : plainC x = true) : poisonC n x = x := by
  cases x with
  | obj c fs => cases h
  | _ => rfl
theorem closed_set {cs : Cs} {i : Nat} {x : Cell} (h : closed cs) (hx : plainC x = true) : closed (cs.set i x) := by
  refine dropTo_all rfl fun y hy => ?_
  rw [List.length_set]
  rcases List.mem_or_eq_of_mem_set hy with q | q
  · exact closed_mem h y q
  · rw [q]; exact poisonC_plain hx
theorem closed_app {cs : Cs} {x : Cell} (h : closed cs) (hx : plainC x = true) : closed (cs ++ [x]) := by
  refine dropTo_all rfl fun y hy => ?_
  rcases List.mem_append.mp hy with q | q
  · exact poisonC_idem (by simp) y (closed_mem h y q)
  · simp at q
    rw [q]; exact poisonC_plain hx
def wipeE (env : Nv) : List Nat → Nv
  | [] => env
  | v :: vs => (wipeE env vs).set v none
theorem wipeE_rep {G : Gam} {F : Hp} {ι : Pl} {env : Nv} {σ : St} (R : RepEnv G F ι env σ) : ∀ vs : List Nat, RepEnv G F ι (wipeE env vs) (wipe σ vs)
  | [] => R
  | v :: vs => by
    have R1 := wipeE_rep R vs
    unfold wipeE wipe
    refine ⟨by simp [R1.1], fun j x e => ?_⟩
    by_cases hj : v = j
    · subst hj
      by_cases hi : v < (wipeE env vs).length
      · rw [List.getElem?_set_self hi] at e; cases e
      · rw [List.getElem?_eq_none (by simpa using hi)] at e; cases e
    · rw [List.getElem?_set_ne hj] at e
      obtain ⟨u, h1, h2⟩ := R1.2 j x e
      exact ⟨u, by rw [List.getElem?_set_ne hj]; exact h1, h2⟩
def dYes : DB := fun _ cs Q _ => Q true cs
def noX : DX := fun _ _ => False
/-- the turns of a comprehension: acc is what is made so far, n the number of cells ahead of it -/
def lcD (g : DG) (tt : DB) (te : DT) (keep : Cs → Prop) (vs : List Nat) (env : Nv) (n : Nat) (Q : List D → Cs → Prop) : List W → List D → Cs → Prop
  | [], acc, cs => keep cs ∧ Q acc cs
  | x :: r, acc, cs => keep cs ∧ g x (wipeE env vs) cs fun env1 cs1 => tt env1 cs1 (fun b cs2 => if b = true then te env1 cs2 (fun w cs3 => fixW w cs3 fun y cs4 => acc.length < sizeLine ∧ lcD g tt te keep vs env n Q r (acc ++ [y]) (dropTo n cs4)) noX
    else lcD g tt te keep vs env n Q r acc (dropTo n cs2)) noX
def dLc (ti : DI) (g : DG) (tt : DB) (te : DT) (vs : List Nat) : DT := fun env cs Q E => ti env cs (fun items keep cs1 => lcD g tt te keep vs env cs1.length (fun acc cs2 => Q (.c cs2.length) (cs2 ++ [.lst acc])) items [] cs1) E
abbrev WxF : WX := fun _ _ _ _ => False
def DTs (X : Cx) (G : Gam) (ifs : List Expr) (t : DB) : Prop := PTs X ifs (upT G WxF t)
theorem PTs.imp {X : Cx} {ifs : List Expr} {t u : TT} (h : PTs X ifs t) (f : ∀ σ H Q, u σ H Q → t σ H Q) : PTs X ifs u := ⟨fun pins s σ H Q I q => h.run pins s σ H Q I (f σ H Q q)⟩
theorem ts_nil {X : Cx} {G : Gam} : DTs X G [] dYes := PTs.imp pts_nil fun σ H Q h => by
  obtain ⟨F, ι, env, cs, Q0, E0, S, R, t, hq, he⟩ := h
  exact hq F ι cs true H .refl S t
theorem ts_one {X : Cx} {G : Gam} {c : Expr} {t : DB} (h : DTst X G WxF c t) : DTs X G [c] t := pts_one h
section
variable {X : Cx} {G : Gam} {Wx : WX} {tg iter elt : Expr} {ifs : List Expr} {scope : Scope} {own : List (Str × Nat)} {pos : Pos} {ti : DI} {g : DG} {tt : DB} {te : DT}
theorem wipe_wipe (σ : St) (vs : List Nat) : wipe (wipe σ vs) vs = wipe σ vs := by
  have h : ∀ (us : List Nat) (τ : St), (∀ i ∈ us, ∀ o, τ[i]? = some o → o = none) → wipe τ us = τ := by
    intro us
    induction us with
    | nil => intro τ _; rfl
    | cons u us ih =>
      intro τ h
      unfold wipe
      rw [ih τ fun i hi => h i (List.mem_cons_of_mem _ hi)]
      refine List.ext_getElem? fun j => ?_
      by_cases hj : u = j
      · subst hj
        by_cases hu : u < τ.length
        · rw [List.getElem?_set_self hu, List.getElem?_eq_getElem hu]
          exact congrArg some (h u List.mem_cons_self _ (List.getElem?_eq_getElem hu)).symm
        · rw [List.getElem?_eq_none (by simpa using hu), List.getElem?_eq_none (by simpa using hu)]
      · rw [List.getElem?_set_ne hj]
  refine h vs _ fun i hi o e => ?_
  cases o with
  | none => rfl
  | some x => exact absurd hi (wipe_some e).2
theorem lc_up {σ : St} {H : Hp} {Q : VK} {vs : List Nat} (h : upE G Wx (dLc ti g tt te vs) σ H Q) : tLc (upI G Wx ti) (upG G vs g) (upT G WxF tt) (upE G WxF te) vs σ H Q := by
  obtain ⟨F, ι, env, cs, Q0, E0, S, R, t, hq, he⟩ := h
  refine ⟨F, ι, env, cs, _, E0, S, R, t, fun F1 ι1 cs1 items keep J H1 e1 S1 sv q1 => ?_, he⟩
  intro D hD
  have n1 : cs1.length = ι1.l.length := S1.len.symm
  rw [n1] at q1
  have e0 := S1.dead hD
  have hDι : D ∉ ι1.l := fun hm => by
    obtain ⟨i, z⟩ := List.mem_iff_getElem?.mp hm
    obtain ⟨u, hu⟩ := S1.live z
    rw [hD] at hu; cases hu
  have hDR : ι1.R D = none := S1.fr.free hD
  -- the state of a turn: the new list stands at D, apart from all that is told
  have other : ∀ {F' : Hp} {cs' : Cs} {H' : Hp} (o : HO), Sim G F' ι1 cs' H' → F' D = none → Sim G F' ι1 cs' (upd H' D o) := fun {F' cs' H'} o S' fD => by
    refine ⟨fun b u q => by rw [upd_ne (ne_of_none q fD)]; exact S'.same _ _ q, S'.len, S'.nd, fun i x q => ?_, fun b u q => by rw [upd_ne (ne_of_none q hDR)]; exact S'.fr _ _ q, S'.ap⟩
    obtain ⟨a, h1, h2⟩ := S'.cell i x q
    have ha : a ≠ D := fun z => hDι (z ▸ List.mem_of_getElem? h1)
    exact ⟨a, h1, h2.mono .refl id fun u z => by rw [upd_ne ha]; exact z⟩
  refine ⟨fun i m H' => ∃ F' cs' acc accV, Same F1 F' ∧ Sim G F' ι1 cs' H' ∧ F' D = none ∧ H' D = some (.lst accV) ∧ Reps G F' acc accV ∧ m = items.length - i ∧ i ≤ items.length ∧
      lcD g tt te keep vs env ι1.l.length (fun acc cs2 => Q0 (.c cs2.length) (cs2 ++ [.lst acc])) (items.drop i) acc cs',
    ⟨_, F1, cs1, [], [], Same.refl _, other _ S1 e0, e0, upd_same, Reps.nil, rfl, Nat.zero_le _, q1⟩, ?_⟩
  rintro i m H' ⟨F', cs', acc, accV, sF, S', fD, hD', rA, rfl, hi, q⟩
  have E' : Ext F1 F' ι1 ι1 := ⟨sF, List.prefix_refl _, rfl⟩
  by_cases hlt : i < items.length
  · rw [List.drop_eq_getElem_cons hlt] at q
    obtain ⟨k, q⟩ := (show keep cs' ∧ _ from q)
    refine .inr ⟨sv.go i E'.to0 S' k hlt, fun H2 => ∃ F2 cs2 acc2 accV2, Same F1 F2 ∧ Sim G F2 ι1 cs2 H2 ∧ F2 D = none ∧ H2 D = some (.lst accV2) ∧ Reps G F2 acc2 accV2 ∧
        lcD g tt te keep vs env ι1.l.length (fun acc cs2 => Q0 (.c cs2.length) (cs2 ++ [.lst acc])) (items.drop (i + 1)) acc2 cs2,
      fun H2 ⟨F2, cs2, acc2, accV2, a1, a2, a3, a4, a5, a6⟩ => ⟨_, by omega, F2, cs2, acc2, accV2, a1, a2, a3, a4, a5, rfl, hlt, a6⟩, fun x H2 y => ?_⟩
    -- D stands apart through the turn
    have ED : Ext0 F1 F' ι1 ⟨ι1.l, upd ι1.R D (.lst accV)⟩ := ⟨sF, List.prefix_refl _⟩
    have SD : Sim G F' ⟨ι1.l, upd ι1.R D (.lst accV)⟩ cs' H' := by
      refine ⟨S'.same, S'.len, S'.nd, fun i x q => S'.cell i x q, fun b u q => ?_, fun b q => ?_⟩
      · by_cases hb : b = D
        · subst hb
          have q : upd ι1.R b (.lst accV) b = some u := q
          rw [upd_same] at q; cases q
          exact hD'
        · have q : upd ι1.R D (.lst accV) b = some u := q
          rw [upd_ne hb] at q
          exact S'.fr _ _ q
      · by_cases hb : b = D
        · subst hb
          exact ⟨fD, hDι⟩
        · have q : upd ι1.R D (.lst accV) b ≠ none := q
          rw [upd_ne hb] at q
          exact S'.ap b q
    obtain ⟨F2, e2, S2, r2⟩ := sv.yld i _ ED SD k (List.getElem?_eq_getElem hlt) y
    refine ⟨F2, _, wipeE env vs, cs', _, _, S2, (wipeE_rep ((R.mono e1).mono ⟨sF.trans e2.same, List.prefix_refl _, rfl⟩) vs), r2, q, fun F3 ι3 cs3 env3 σ3 H3 e3 S3 R3 w3 q3 => ⟨w3.trans (wipe_wipe σ vs), ?_⟩⟩
    refine ⟨F3, ι3, env3, cs3, _, _, S3, R3, q3, fun F4 ι4 cs4 b H4 e4 S4 q4 => ?_, fun F4 ι4 cs4 x cls od H4 e4 S4 r4 q4 => q4.elim⟩
    -- back to the cells ahead of the turn
    have fin : ∀ {F5 : Hp} {ι5 : Pl} {cs5 : Cs} {H5 : Hp}, Ext F2 F5 ⟨ι1.l, upd ι1.R D (.lst accV)⟩ ι5 → Sim G F5 ι5 cs5 H5 → F5 D = none ∧ H5 D = some (.lst accV) ∧ Sim G F5 ι1 (dropTo ι1.l.length cs5) H5 := fun {F5 ι5 cs5 H5} e5 S5 => by
      have hR : ι5.R = upd ι1.R D (.lst accV) := e5.eR
      refine ⟨(S5.ap D (by rw [hR, upd_same]; simp)).1, S5.fr _ _ (by rw [hR, upd_same]), ?_⟩
      have B := S5.back e5
      refine ⟨B.same, B.len, B.nd, fun i x q => B.cell i x q, fun b u q => ?_, fun b q => ?_⟩
      · have hb : b ≠ D := ne_of_none q hDR
        exact B.fr b u (by show upd ι1.R D (.lst accV) b = _; rw [upd_ne hb]; exact q)
      · have hb : b ≠ D := fun z => q (z ▸ hDR)
        exact B.ap b (by show upd ι1.R D (.lst accV) b ≠ _; rw [upd_ne hb]; exact q)
    dsimp only
    split
    · rename_i hb
      rw [if_pos hb] at q4
      refine ⟨F4, ι4, env3, cs4, _, _, S4, R3.mono e4, q4, fun F5 ι5 cs5 w v H5 e5 S5 r5 q5 => ?_, fun F5 ι5 cs5 x cls od H5 e5 S5 r5 q5 => q5.elim⟩
      obtain ⟨F6, cs6, z, e6, S6, r6, hl, q6⟩ := fixW_ok S5 r5 q5
      obtain ⟨f1, f2, f3⟩ := fin (e3.trans (e4.trans (e5.trans e6))) S6
      have sA : Same F' F6 := e2.same.trans (e3.same.trans (e4.same.trans (e5.same.trans e6.same)))
      refine ⟨accV, f2, by rw [rA.length]; exact hl, F6, _, acc ++ [z], accV ++ [v], sF.trans sA, other _ f3 f1, f1, upd_same, Reps.append (Reps.mono sA _ _ rA) (Reps.one r6), q6⟩
    · rename_i hb
      rw [if_neg hb] at q4
      obtain ⟨f1, f2, f3⟩ := fin (e3.trans e4) S4
      have sA : Same F' F4 := e2.same.trans (e3.same.trans e4.same)
      exact ⟨F4, _, acc, accV, sF.trans sA, f3, f1, f2, Reps.mono sA _ _ rA, q4⟩
  · have hi' : i = items.length := by omega
    subst hi'
    rw [List.drop_length] at q
    obtain ⟨k, q⟩ := (show keep cs' ∧ _ from q)
    refine .inl ⟨sv.stop E'.to0 S' k, ?_⟩
    -- from now on D is a cell
    have E2 : Ext F1 F' ι1 (ι1.add D) := ⟨sF, List.prefix_append _ _, rfl⟩
    refine hq F' (ι1.add D) (cs' ++ [.lst acc]) (.c cs'.length) _ H' (e1.trans E2) ?_ ⟨D, by rw [← S'.len]; simp [Pl.add], rfl⟩ q
    refine ⟨S'.same, by simp [Pl.add, S'.len], ?_, fun i x q => ?_, S'.fr, fun b q => ⟨(S'.ap b q).1, fun z => ?_⟩⟩
    · exact S'.nd.snoc hDι
    · by_cases hi : i < cs'.length
      · rw [List.getElem?_append_left hi] at q
        obtain ⟨a, h1, h2⟩ := S'.cell i x q
        exact ⟨a, (show Ext F' F' ι1 (ι1.add D) from ⟨Same.refl _, List.prefix_append _ _, rfl⟩).at_ h1, h2.mono ⟨Same.refl _, List.prefix_append _ _, rfl⟩ id fun _ z => z⟩
      · have hi' : i = cs'.length := by
          have := (List.getElem?_eq_some_iff.mp q).1
          simp at this; omega
        subst hi'
        rw [List.getElem?_append_right (Nat.le_refl _)] at q
        simp at q; subst q
        exact ⟨D, by rw [← S'.len]; simp [Pl.add], fD, accV, hD', rA⟩
    · have z' : b ∈ ι1.l ++ [D] := z
      rcases List.mem_append.mp z' with z | z
      · exact (S'.ap b q).2 z
      · simp at z; subst z; exact q hDR
end
end DL
namespace DL
open PySem PySem.Spec L2
open PyProof.Rows (envOfC)
section
variable {X : Cx} {G : Gam} {Wx : WX} {tg iter elt : Expr} {ifs : List Expr} {scope : Scope} {own : List (Str × Nat)} {pos : Pos} {ti : DI} {g : DG} {tt : DB} {te : DT}
theorem e_lc (hc : X.calm = true) (hN : X.N.Nodup) (hi : DIt X G Wx tg iter ti) (ok : BlkOk X.N X.env.scope scope own)
    (hg : ∀ s H C cl fp, DGt (X.blk s H scope (compEnvC scope cl C X.env) fp) G (own.map (·.2)) tg g) (ht : ∀ s H C cl fp, DTs (X.blk s H scope (compEnvC scope cl C X.env) fp) G ifs tt)
    (he : ∀ s H C cl fp, DE (X.blk s H scope (compEnvC scope cl C X.env) fp) G WxF elt te) (hs : ∀ x, foldedSetIterable iter X.env x = pure x := by intro _; rfl) :
    DE X G Wx (.ListComp elt [⟨tg, iter, ifs, 0⟩] scope pos) (dLc ti g tt te (own.map (·.2))) :=
  PE.imp (pe_lc hc hN hi ok hg ht he hs) fun _ _ _ => lc_up
theorem s_setLc {i : Nat} {y : Str} {py spos : Pos} (hc : X.calm = true) (hN : X.N.Nodup) (hy : X.N[i]? = some y) (hyl : X.env.scope.names.lookup y = some .local)
    (hsw : swapsWith (.ListComp elt [⟨tg, iter, ifs, 0⟩] scope pos) (some (.Name y py)) spos.line X.env = pure true) (hi : DIt X G Wx tg iter ti) (ok : BlkOk X.N X.env.scope scope own)
    (hg : ∀ s H C cl fp, DGt (X.blk s H scope (compEnvC scope cl C X.env) fp) G (own.map (·.2)) tg g) (ht : ∀ s H C cl fp, DTs (X.blk s H scope (compEnvC scope cl C X.env) fp) G ifs tt)
    (he : ∀ s H C cl fp, DE (X.blk s H scope (compEnvC scope cl C X.env) fp) G WxF elt te) (hs : ∀ x, foldedSetIterable iter X.env x = pure x := by intro _; rfl) :
    DSt X G Wx (.Assign [.Name y py] (.ListComp elt [⟨tg, iter, ifs, 0⟩] scope pos) spos) (dAsg (dLc ti g tt te (own.map (·.2))) (dgName i)) :=
  PS.imp (ps_setLc hc hN hy hyl hsw hi ok hg ht he hs) fun D σ H h => by
    obtain ⟨F, ι, env, cs, D0, S, R, t, h1, h2, h3, h4, h5⟩ := h
    refine lc_up ⟨F, ι, env, cs, _, _, S, R, t, fun F1 ι1 cs1 x v H1 e1 S1 r1 q1 => ?_, fun F1 ι1 cs1 x cls od H1 e1 S1 r1 q1 => h5 F1 ι1 cs1 x cls od env σ H1 e1 S1 (R.mono e1) r1 q1⟩
    exact h1 F1 ι1 cs1 _ _ H1 e1 S1 ((R.mono e1).set r1) q1
end
/-- what a def is worth: its arguments, the cells, what is wanted -/
abbrev DSpec := List W → Cs → DQ → DX → Prop
structure FnD (P : Program) (w : World) (K : PySem.W.Frag) (mg : Str → Option Value) (base : Heap) (G : Gam) (k : Nat) (f : Addr) (fd : FuncData) (ps : List Str) (sp : DSpec) : Prop where
  len : ∀ ws cs Q E, sp ws cs Q E → ws.length = ps.length
  run : ∀ (A : Around) (outer : List PySem.Env) (s : Shared) (H : Hp) (args : Args) (us : List Value) (vs : List V) (F : Hp) (ι : Pl) (cs : Cs) (ws : List W) (Q0 : DQ) (E0 : DX) (Q : VK) (E : XK),
    A.guards = some [] → Room k A → Env0 P w K mg base A outer s H → BindsTo s fd args (ps.zip us) → Vals vs us → Sim G F ι cs H → Paired (RepW G F ι) ws vs → sp ws cs Q0 E0 →
    (∀ F' ι' cs' w v H', Ext F F' ι ι' → Sim G F' ι' cs' H' → RepW G F' ι' w v → Q0 w cs' → Q v H') →
    (∀ F' ι' cs' x cls od H', Ext F F' ι ι' → Sim G F' ι' cs' H' → RepX G F' x cls od H' → E0 x cs' → E cls od H') →
    codeAny (model P w) A (.call (.ref f) args) (CR (L2.CX P w) outer P w H s Q E) s
/-- what is handed back from a def that was entered at n cells -/
def retD (n : Nat) (w : W) (cs : Cs) (Q : DQ) : Prop := match w with
  | .d x => Q (.d x) (dropTo n cs)
  | .dead => False
  | .tp _ => False
  | .c i => if i < n then Q (.c i) (dropTo n cs) else match cs[i]? with
    | some (.lst xs) => Q (.c n) (dropTo n cs ++ [.lst xs])
    | some (.dct kvs o) => Q (.c n) (dropTo n cs ++ [.dct kvs o])
    | some (.frz x) => Q (.d x) (dropTo n cs)
    | _ => False
section
variable {G : Gam} {F F' H' : Hp} {ι ι' : Pl} {cs cs' : Cs}
theorem Ext.home (e : Ext F F' ι ι') : Ext F F' ι ι := ⟨e.same, List.prefix_refl _, rfl⟩
/-- a list, a dict that is owned -/
def ownC : Cell → Bool
  | .lst _ | .dct _ _ => true
  | _ => false
theorem ownC_free {G : Gam} {F H : Hp} {ι : Pl} {a : Addr} {x : Cell} (hp : ownC x = true) (h : CellAt G F ι H a x) : F a = none := by
  cases x with
  | lst xs => exact h.1
  | dct kvs o => exact h.1
  | obj c fs => cases hp
  | frz y => cases hp
/-- a cell is told again behind the ones of ι -/
theorem Sim.move (S : Sim G F' ι' cs' H') (e : Ext F F' ι ι') {i : Nat} {a : Addr} {x : Cell} (hi : ¬ i < ι.l.length) (ha : ι'.l[i]? = some a) (hx : cs'[i]? = some x) (hp : ownC x = true) : Sim G F' (ι.add a) (dropTo ι.l.length cs' ++ [x]) H' := by
  have B := S.back e
  obtain ⟨a', h1, h2⟩ := S.cell i x hx
  rw [ha] at h1; cases h1
  have hn : a ∉ ι.l := fun hm => by
    obtain ⟨j, hj⟩ := List.mem_iff_getElem?.mp hm
    have hj' := e.at_ hj
    have : i = j := S.nd i j a ha hj' (ownC_free hp h2)
    subst this
    exact hi (List.getElem?_eq_some_iff.mp hj).1
  have hc : ∀ ι'', CellAt G F' ι'' H' a x := fun ι'' => by
    cases x with
    | obj c fs => cases hp
    | frz y => cases hp
    | _ => exact h2
  refine ⟨B.same, ?_, ?_, fun j y q => ?_, B.fr, fun b q => ⟨(B.ap b q).1, fun z => ?_⟩⟩
  · show (ι.l ++ [a]).length = _
    rw [List.length_append, List.length_append, ← B.len]
    rfl
  · exact B.nd.snoc hn
  · by_cases hj : j < (dropTo ι.l.length cs').length
    · rw [List.getElem?_append_left hj] at q
      obtain ⟨b, g1, g2⟩ := B.cell j y q
      exact ⟨b, (show Ext F' F' ι (ι.add a) from ⟨Same.refl _, List.prefix_append _ _, rfl⟩).at_ g1, g2.mono ⟨Same.refl _, List.prefix_append _ _, rfl⟩ id fun _ z => z⟩
    · have hj' : j = (dropTo ι.l.length cs').length := by
        have := (List.getElem?_eq_some_iff.mp q).1
        simp at this; omega
      subst hj'
      rw [List.getElem?_append_right (Nat.le_refl _)] at q
      simp at q; subst q
      exact ⟨a, by rw [← B.len]; simp [Pl.add], hc _⟩
  · have z' : b ∈ ι.l ++ [a] := z
    rcases List.mem_append.mp z' with z | z
    · exact (B.ap b q).2 z
    · simp at z; subst z
      have hR : ι'.R b ≠ none := by rw [e.eR]; exact q
      exact (S.ap b hR).2 (List.mem_of_getElem? ha)
theorem retD_ok (S : Sim G F' ι' cs' H') (e : Ext F F' ι ι') (hl : cs.length = ι.l.length) {w : W} {v : V} (r : RepW G F' ι' w v) {Q : DQ} (h : retD cs.length w cs' Q) : ∃ ι'' cs'' w', Ext F F' ι ι'' ∧ Sim G F' ι'' cs'' H' ∧ RepW G F' ι'' w' v ∧ Q w' cs'' := by
  rw [hl] at h
  cases w with
  | dead => cases h
  | tp xs => cases h
  | d x => exact ⟨ι, _, .d x, e.home, S.back e, r, h⟩
  | c i =>
    obtain ⟨a, ha, rfl⟩ := r
    have h : if i < ι.l.length then Q (.c i) (dropTo ι.l.length cs') else (match cs'[i]? with
      | some (.lst xs) => Q (.c ι.l.length) (dropTo ι.l.length cs' ++ [.lst xs])
      | some (.dct kvs o) => Q (.c ι.l.length) (dropTo ι.l.length cs' ++ [.dct kvs o])
      | some (.frz x) => Q (.d x) (dropTo ι.l.length cs')
      | _ => False) := h
    split at h
    · rename_i hi
      refine ⟨ι, _, .c i, e.home, S.back e, ⟨a, ?_, rfl⟩, h⟩
      obtain ⟨r, e1⟩ := e.pre
      rw [← e1, List.getElem?_append_left hi] at ha
      exact ha
    · rename_i hi
      have E2 : Ext F F' ι (ι.add a) := ⟨e.same, List.prefix_append _ _, rfl⟩
      split at h
      · rename_i xs hx
        exact ⟨ι.add a, _, .c ι.l.length, E2, S.move e hi ha hx rfl, ⟨a, by simp [Pl.add], rfl⟩, h⟩
      · rename_i kvs o hx
        exact ⟨ι.add a, _, .c ι.l.length, E2, S.move e hi ha hx rfl, ⟨a, by simp [Pl.add], rfl⟩, h⟩
      · rename_i x hx
        obtain ⟨a', h1, h2⟩ := S.cell i _ hx
        rw [ha] at h1; cases h1
        exact ⟨ι, _, .d x, e.home, S.back e, h2.2, h⟩
      · cases h
end
/-- the names at the entry -/
def startE (N : List Str) (ws : List W) : Nv := ws.map some ++ List.replicate (N.length - ws.length) none
theorem startE_rep {G : Gam} {F : Hp} {ι : Pl} {N : List Str} {ws : List W} {vs : List V} (h : Paired (RepW G F ι) ws vs) : RepEnv G F ι (startE N ws) (L2.start N vs) := by
  have hl : ws.length = vs.length := h.length
  unfold startE L2.start
  refine ⟨by simp [hl], fun i x e => ?_⟩
  by_cases hi : i < ws.length
  · rw [List.getElem?_append_left (by simpa using hi), List.getElem?_map] at e
    have get : ∀ {ws : List W} {vs : List V} {i : Nat} {x : W}, Paired (RepW G F ι) ws vs → ws[i]? = some x → ∃ v, vs[i]? = some v ∧ RepW G F ι x v := by
      intro ws vs i x h e
      induction h generalizing i with
      | nil => simp at e
      | cons r t ih =>
        cases i with
        | zero => simp at e; subst e; exact ⟨_, rfl, r⟩
        | succ i => simpa using ih (i := i) (by simpa using e)
    cases q : ws[i]? with
    | none => rw [q] at e; cases e
    | some y =>
      rw [q] at e; cases e
      obtain ⟨v, h1, h2⟩ := get h q
      refine ⟨v, ?_, h2⟩
      rw [List.getElem?_append_left (by simp; omega), List.getElem?_map, h1]
      rfl
  · rw [List.getElem?_append_right (by simpa using hi), List.getElem?_replicate] at e
    split at e <;> cases e
/-- the ends of a def's body entered at n cells -/
def endsD (n : Nat) (Q : DQ) (E : DX) : DEnds := { nx := fun _ cs => retD n (.d .non) cs Q, rt := fun w cs => retD n w cs Q, ex := fun x _ cs => E x (dropTo n cs) }
section
variable {P : Program} {w : World} {K : PySem.W.Frag} {mg : Str → Option Value} {base : Heap}
/-- THE RULE for a def: its body's reading t, and that the worth implies it -/
theorem fnD_of {x qual : Str} {params : Arguments} {body : List Stmt} {scope : Scope} {dvs : List V} {kws : List (Str × V)} {f : Addr} {fd : FuncData} {G : Gam} {N ps : List Str} {k : Nat} {sp : DSpec} {t : DS}
    (Fd : FunD K x qual params body scope dvs kws f fd) (S : FnScope N ps scope) (len : ∀ ws cs Q E, sp ws cs Q E → ws.length = ps.length)
    (hb : ∀ (cdv : Value) (A : Around) (outer : List PySem.Env) (s : Shared) (H : Hp) (E : XK), A.guards = some [] → Room k (A.deeper (envOfC qual scope s.heap.objs.size f cdv)) →
      DSs (cxOf (L2.CX P w) P w K mg base N qual scope f cdv A outer s H E) G (fun c d _ H => E c d H) body t)
    (pure : ∀ ws cs Q E, closed cs → sp ws cs Q E → t (endsD cs.length Q E) (startE N ws) cs) : FnD P w K mg base G (k + 1) f fd ps sp := by
  obtain ⟨oc, od, dV, kV, doc, pm, an, cdv, ct, osl, rfl, lk, hcd, _, _⟩ := Fd.ex
  refine ⟨len, fun A outer s H args us vs F ι cs ws Q0 E0 Q E hgd hr e0 hbd r S0 rw0 hsp hQ hE => ?_⟩
  have hl : vs.length = ps.length := by rw [← rw0.length]; exact len _ _ _ _ hsp
  have up : ∀ b o, base.get? b = some o → s.heap.get? b = some o := fun b o q => (e0.bs b o q).1
  have lim := e0.mod.nolimit.keeps up
  have kinds : ∀ y ∈ ps.zip us, scope.names.lookup y.1 = some .local ∨ (scope.names.lookup y.1 = some .cell ∧ ((cellsFrom (s.heap.objs.size + 1) scope.names []).lookup y.1).isSome = true) := by
    rintro ⟨nm, u⟩ hy
    refine (S.par nm (List.of_mem_zip hy).1).imp id fun q => ⟨q, ?_⟩
    exact PySem.W.cellsFrom_some _ _ _ (.inl q)
  refine codeAny_call_function hr.depth (e0.mod.kin.keeps up _ _ lk) rfl S.co S.gen rfl (PySem.W.codeRec_of (e0.mod.kin.keeps up) hcd) (hbd _ _ _ _ ?_)
  refine wpAny_newFunctionEnv_cells S.kind kinds fun env he s1 x => ?_
  cases he
  refine ⟨lim.keeps x.toInCall.keep, codeAny_func ?_⟩
  have J0 := inv_start (CX := L2.CX P w) (P := P) (w := w) (E := E) S hr.hd e0 hl r x
  have rd := (hb cdv A outer s H E hgd (hr.deeper _)).run [] s1 (L2.start N vs) H { nx := fun _ H' => Q .non H', rt := Q } J0
    ⟨F, ι, startE N ws, cs, endsD cs.length Q0 E0, S0, startE_rep rw0, pure _ _ _ _ S0.closed hsp, ?a, ?b, fun _ _ _ _ _ _ _ _ _ z => z.elim, fun _ _ _ _ _ _ _ _ _ z => z.elim, ?c⟩
  case a =>
    intro F1 ι1 cs1 env1 σ1 H1 e1 S1 R1 q1
    have q1 : retD cs.length (.d .non) cs1 Q0 := q1
    obtain ⟨ι2, cs2, w2, e2, S2, r2, q2⟩ := retD_ok (w := .d .non) S1 e1 S0.len.symm (v := V.non) (by simp only [RepW, Rep]) q1
    exact hQ F1 ι2 cs2 w2 _ H1 e2 S2 r2 q2
  case b =>
    intro F1 ι1 cs1 u1 v1 H1 e1 S1 r1 q1
    have q1 : retD cs.length u1 cs1 Q0 := q1
    obtain ⟨ι2, cs2, w2, e2, S2, r2, q2⟩ := retD_ok S1 e1 S0.len.symm r1 q1
    exact hQ F1 ι2 cs2 w2 _ H1 e2 S2 r2 q2
  case c =>
    intro F1 ι1 cs1 y cls od env1 σ1 H1 e1 S1 R1 rx q1
    have q1 : E0 y (dropTo cs.length cs1) := q1
    rw [← S0.len] at q1
    exact hE F1 ι _ y cls od H1 e1.home (S1.back e1) rx q1
  refine wpAny_mono rd (fun fl s' hs => ?_) fun _ _ hs => hs
  cases fl with
  | ret u =>
    obtain ⟨v, σ', H', J, rv, q⟩ := hs
    exact ⟨v, H', J.os, J.bare, J.base, J.hok, rv, q⟩
  | next =>
    obtain ⟨σ', H', J, q⟩ := hs
    exact ⟨V.non, H', J.os, J.bare, J.base, J.hok, rfl, q⟩
  | brk => obtain ⟨_, _, _, q⟩ := hs; exact q.elim
  | cont => obtain ⟨_, _, _, q⟩ := hs; exact q.elim
end
end DL
namespace DL
open PySem PySem.Spec L2
open PyProof.Rows (envOfC)
/-- how a call binds: n positional values, keywords ks; gW puts them into the parameters' order, defaults among them -/
structure BindD (G : Gam) (fd : FuncData) (ps : List Str) (n : Nat) (ks : List Str) (gW : List W → List W → List W) : Prop where
  to : ∀ (s : Shared) (us zs : List Value), G.K.In s.heap → us.length = n → zs.length = ks.length → ∃ vals : List Value, BindsTo s fd ⟨us, ks.zip zs⟩ (ps.zip vals) ∧
    ∀ (F : Hp) (ι : Pl) (wp wk : List W) (vp vk : List V), Paired (RepW G F ι) wp vp → Paired (RepW G F ι) wk vk → Vals vp us → Vals vk zs → ∃ vv, Paired (RepW G F ι) (gW wp wk) vv ∧ Vals vv vals
theorem BindD.pos {G : Gam} {fd : FuncData} {ps : List Str} (h : Binds G.K fd ps []) : BindD G fd ps ps.length [] (fun us _ => us) where
  to := fun s us zs X l1 l2 => by
    refine ⟨us, ?_, fun F ι wp wk vp vk r1 r2 r3 r4 => ⟨vp, r1, r3⟩⟩
    have b := h s us X (by simpa using l1)
    simpa using b
section
variable {X : Cx} {G : Gam} {Wx : WX} {k : Nat} {f : Addr} {fd : FuncData} {ps : List Str} {sp : DSpec} {n : Nat} {ks : List Str} {gW : List W → List W → List W}
theorem run_D (Fd : FnD X.prog X.w X.K X.mg X.base G k f fd ps sp) (hgd : X.A.guards = some []) (hr : Room k X.A) (tk : Takes X Wx) (hK : X.K = G.K) (hb : BindD G fd ps n ks gW)
    {pins : List (Addr × Obj)} {s : Shared} {σ : L2.St} {H : Hp} {Q : VK} {F : Hp} {ι : Pl} {cs : Cs} {wp wk : List W} {vp vk : List V} {us zs : List Value} {Q0 : DQ} {E0 : DX}
    (I : Inv X pins σ H s) (S : Sim G F ι cs H) (rp : Paired (RepW G F ι) wp vp) (rk : Paired (RepW G F ι) wk vk) (r1 : Vals vp us) (r2 : Vals vk zs) (ln : wp.length = n) (lk : wk.length = ks.length)
    (h : sp (gW wp wk) cs Q0 E0) (hQ : ∀ F' ι' cs' w v H', Ext F F' ι ι' → Sim G F' ι' cs' H' → RepW G F' ι' w v → Q0 w cs' → Q v H')
    (hE : ∀ F' ι' cs' x cls od H', Ext F F' ι ι' → Sim G F' ι' cs' H' → RepX G F' x cls od H' → E0 x cs' → Wx cls od σ H') :
    wpAny (model X.prog X.w) X.A (call (.ref f) us (ks.zip zs)) (EP X pins σ Q) X.xe s := by
  obtain ⟨vals, b, rr⟩ := hb.to s us zs (hK ▸ I.kIn) (by rw [← r1.length, ← rp.length]; exact ln) (by rw [← r2.length, ← rk.length]; exact lk)
  obtain ⟨vv, r3, r4⟩ := rr F ι wp wk vp vk rp rk r1 r2
  refine wpAny_call (codeAny_mono (Fd.run X.A X.stack s H ⟨us, ks.zip zs⟩ vals vv F ι cs (gW wp wk) Q0 E0 Q (fun c d H' => Wx c d σ H') hgd hr I.env0 b r4 S r3 h hQ hE) fun r s' hq => ?_)
  cases r with
  | error e => exact tk _ _ (XE.of_call I (fun _ _ _ z => z) hq)
  | ok fl =>
    cases fl with
    | ret u => exact I.after hq
    | next => exact False.elim hq
    | brk => exact False.elim hq
    | cont => exact False.elim hq
/-- f(..): positional values, then keywords -/
def dCall (sp : DSpec) (n m : Nat) (gW : List W → List W → List W) (t tk : DA) : DT := fun env cs Q E => t env cs (fun ws cs1 => tk env cs1 (fun ks cs2 => ws.length = n ∧ ks.length = m ∧ sp (gW ws ks) cs2 Q E) E) E
def DKs (X : Cx) (G : Gam) (Wx : WX) (kws : List Keyword) (t : DA) : Prop := PK X kws (upA G Wx t)
theorem PK.imp {kws : List Keyword} {t u : TA} (h : PK X kws t) (f : ∀ σ H Q, u σ H Q → t σ H Q) : PK X kws u := ⟨fun pos pins s σ H Q I q => h.run pos pins s σ H Q I (f σ H Q q)⟩
theorem k_nil : DKs X G Wx [] dNil := PK.imp pk_nil fun σ H Q h => by
  obtain ⟨F, ι, env, cs, Q0, E0, S, R, t, hq, he⟩ := h
  exact hq F ι cs [] [] H .refl S .nil t
theorem k_cons {e : Expr} {te : DT} {kws : List Keyword} {t : DA} {nm : Option Str} {kpos : Pos} (ha : DE X G Wx e te) (hr : DKs X G Wx kws t) : DKs X G Wx (⟨nm, e, kpos⟩ :: kws) (dCons te t) :=
  PK.imp (pk_cons ha hr) fun σ H Q h => by
    obtain ⟨F, ι, env, cs, Q0, E0, S, R, t, hq, he⟩ := h
    refine ⟨F, ι, env, cs, _, E0, S, R, t, fun F1 ι1 cs1 x v H1 e1 S1 r1 q1 => ?_, he⟩
    refine ⟨F1, ι1, env, cs1, _, E0, S1, R.mono e1, q1, fun F2 ι2 cs2 ys us H2 e2 S2 r2 q2 => ?_, fun F2 ι2 cs2 z cls od H2 e2 => he F2 ι2 cs2 z cls od H2 (e1.trans e2)⟩
    exact hq F2 ι2 cs2 (x :: ys) (v :: us) H2 (e1.trans e2) S2 (.cons (r1.mono e2) r2) q2
variable {x : Str} {p pos apos : Pos} {e o : Expr} {es : List Expr} {kws : List Keyword} {t tks : DA} {to : DT}
/-- what a call of f is, once its arguments have come -/
theorem call_args {σ : L2.St} {H : Hp} {Q : VK} (h : upE G Wx (dCall sp n ks.length gW t tks) σ H Q) : upA G Wx t σ H fun vp H1 => upA G Wx tks σ H1 fun vk H2 =>
    ∃ F ι cs wp wk Q0 E0, Sim G F ι cs H2 ∧ Paired (RepW G F ι) wp vp ∧ Paired (RepW G F ι) wk vk ∧ wp.length = n ∧ wk.length = ks.length ∧ sp (gW wp wk) cs Q0 E0 ∧
      (∀ F' ι' cs' w v H', Ext F F' ι ι' → Sim G F' ι' cs' H' → RepW G F' ι' w v → Q0 w cs' → Q v H') ∧
      ∀ F' ι' cs' x cls od H', Ext F F' ι ι' → Sim G F' ι' cs' H' → RepX G F' x cls od H' → E0 x cs' → Wx cls od σ H' := by
  obtain ⟨F, ι, env, cs, Q0, E0, S, R, t, hq, hE⟩ := h
  refine ⟨F, ι, env, cs, _, E0, S, R, t, fun F1 ι1 cs1 wp vp H1 e1 S1 r1 q1 => ?_, hE⟩
  refine ⟨F1, ι1, env, cs1, _, E0, S1, R.mono e1, q1, fun F2 ι2 cs2 wk vk H2 e2 S2 r2 q2 => ?_, fun F2 ι2 cs2 z cls od H2 e2 => hE F2 ι2 cs2 z cls od H2 (e1.trans e2)⟩
  obtain ⟨l1, l2, q⟩ := q2
  exact ⟨F2, ι2, cs2, wp, wk, Q0, E0, S2, Paired.imp' (fun _ _ q => q.mono e2) r1, r2, l1, l2, q, fun F3 ι3 cs3 w v H3 e3 => hq F3 ι3 cs3 w v H3 (e1.trans (e2.trans e3)), fun F3 ι3 cs3 z cls od H3 e3 => hE F3 ι3 cs3 z cls od H3 (e1.trans (e2.trans e3))⟩
theorem dNil_id {σ : L2.St} {H : Hp} {Q : List V → Hp → Prop} (h : upA G Wx dNil σ H Q) : Q [] H := by
  obtain ⟨F, ι, env, cs, Q0, E0, S, R, t, hq, hE⟩ := h
  exact hq F ι cs [] [] H .refl S .nil t
/-- f(e, ..) -/
theorem e_call (Fd : FnD X.prog X.w X.K X.mg X.base G k f fd ps sp) (hgd : X.A.guards = some []) (hr : Room k X.A) (tk : Takes X Wx) (hK : X.K = G.K) (hg : Gl X x) (hm : X.mg x = some (.ref f)) (hk : PySem.W.keepIn X.K (.ref f) = true)
    (hb : BindD G fd ps n [] gW) (ha : DAs X G Wx (e :: es) t) (hdb : (x == ("__debug__" : Str)) = false := by decide) (he : starEach (e :: es) X.env = (false, eval e X.env) :: starEach es X.env := by rfl)
    (hpl : (backTo pos (starEach es X.env)).any (·.1) = false := by rfl) : DE X G Wx (.Call (.Name x p) (e :: es) [] pos) (dCall sp n 0 gW t dNil) := by
  refine ⟨fun pins s σ H Q I h => ?_⟩
  refine wpAny_Call_Name_kw (ld_glob I hg hm ?_ hdb)
  refine PySem.W.callWith_K (h₀ := X.base) I.ok.mod.kin hk (thn (ha.run pos pins s σ H _ I (call_args (ks := []) h)) fun us s1 ⟨vs, H1, I1, r, q⟩ => ⟨I1.kIn, ?_⟩) he hpl
  obtain ⟨F, ι, cs, wp, wk, Q0, E0, S, r1, r2, l1, l2, q, hQ, hE⟩ := dNil_id q
  exact run_D (zs := []) Fd hgd hr tk hK hb I1 S r1 r2 r .nil l1 l2 q hQ hE
theorem e_callK0 (Fd : FnD X.prog X.w X.K X.mg X.base G k f fd ps sp) (hgd : X.A.guards = some []) (hr : Room k X.A) (tk : Takes X Wx) (hK : X.K = G.K) (hg : Gl X x) (hm : X.mg x = some (.ref f)) (hk : PySem.W.keepIn X.K (.ref f) = true)
    (hb : BindD G fd ps 0 ks gW) (hkw : DKs X G Wx kws tks) (hall : (backToKw pos (keywordEach kws X.env)).all (·.1.isSome) = true := by rfl) (hks : (backToKw pos (keywordEach kws X.env)).filterMap (·.1) = ks := by rfl)
    (hdb : (x == ("__debug__" : Str)) = false := by decide)
    (hpl : ((backTo pos (starEach [] X.env)).any (·.1) || (backToKw pos (keywordEach kws X.env)).any (·.1.isNone)) = false := by rfl) : DE X G Wx (.Call (.Name x p) [] kws pos) (dCall sp 0 ks.length gW dNil tks) := by
  refine ⟨fun pins s σ H Q I h => ?_⟩
  refine wpAny_Call_Name_kw (ld_glob I hg hm ?_ hdb)
  refine PySem.W.callWith_KW0 (h₀ := X.base) I.ok.mod.kin hk hall (thn (hkw.run pos pins s σ H _ I (dNil_id (call_args h))) fun zs s2 ⟨vk, H2, I2, rz, q⟩ => ⟨I2.kIn, ?_⟩) hpl
  obtain ⟨F, ι, cs, wp, wk, Q0, E0, S, r1, r2, l1, l2, q, hQ, hE⟩ := q
  rw [hks]
  exact run_D (us := []) Fd hgd hr tk hK hb I2 S r1 r2 .nil rz l1 l2 q hQ hE
variable {id T : String} {oN : OpN}
theorem e_callB (hc : CallR X (.builtin id) (upRN G oN)) (hg : Gl X x) (hm : X.mg x = none) (hv : bootBuiltins x = some (.builtin id)) (ha : DAs X G Wx (e :: es) t) (hn : x ≠ "__name__" := by decide) (hdb : (x == ("__debug__" : Str)) = false := by decide)
    (he : starEach (e :: es) X.env = (false, eval e X.env) :: starEach es X.env := by rfl) (hpl : (backTo pos (starEach es X.env)).any (·.1) = false := by rfl) : DE X G Wx (.Call (.Name x p) (e :: es) [] pos) (dOpN oN t) :=
  PE.imp (pe_callB hc hg hm hv ha hn hdb he hpl) fun _ _ _ => opN_up
theorem e_callTy (hc : CallR X (.type T) (upRN G oN)) (hg : Gl X x) (hm : X.mg x = none) (hv : bootBuiltins x = some (.type T)) (ha : DAs X G Wx (e :: es) t) (hn : x ≠ "__name__" := by decide) (hdb : (x == ("__debug__" : Str)) = false := by decide)
    (he : starEach (e :: es) X.env = (false, eval e X.env) :: starEach es X.env := by rfl) (hpl : (backTo pos (starEach es X.env)).any (·.1) = false := by rfl) : DE X G Wx (.Call (.Name x p) (e :: es) [] pos) (dOpN oN t) :=
  PE.imp (pe_callTy hc hg hm hv ha hn hdb he hpl) fun _ _ _ => opN_up
variable {m : Str} {c : Nat} {C : Addr} {nm : List Str}
end
end DL
namespace DL
open PySem PySem.Spec L2
def fixEnv (n : Nat) : Nv → Cs → (Nv → Cs → Prop) → Prop
  | [], cs, K => K [] cs
  | o :: r, cs, K => match o with
    | some (.c i) => if n ≤ i then fixC i cs fun x c1 => fixEnv n r c1 fun r' c2 => K (some (.d x) :: r') c2 else fixEnv n r cs fun r' c2 => K (some (.c i) :: r') c2
    | o => fixEnv n r cs fun r' c2 => K (o :: r') c2
def gcK (n : Nat) (K : Nv → Cs → Prop) : Nv → Cs → Prop := fun e c => fixEnv n e c fun e' c' => K (e'.map (Option.map (poison n))) (dropTo n c')
def gcS (t : DS) : DS := fun D env cs => t { D with nx := gcK cs.length D.nx, ct := gcK cs.length D.ct, bk := gcK cs.length D.bk } env cs
section
variable {G : Gam} {F F' H H' : Hp} {ι ι' : Pl} {cs cs' : Cs}
theorem RepEnv.cons {o : Option W} {p : Option V} {env : Nv} {σ : L2.St} (h : ∀ x, o = some x → ∃ v, p = some v ∧ RepW G F ι x v) (R : RepEnv G F ι env σ) : RepEnv G F ι (o :: env) (p :: σ) := by
  refine ⟨by simp [R.1], fun i x e => ?_⟩
  cases i with
  | zero =>
    simp at e
    obtain ⟨v, h1, h2⟩ := h x e
    exact ⟨v, by simp [h1], h2⟩
  | succ i =>
    obtain ⟨v, h1, h2⟩ := R.2 i x (by simpa using e)
    exact ⟨v, by simpa using h1, h2⟩
theorem RepEnv.un {o : Option W} {env : Nv} {σ : L2.St} (R : RepEnv G F ι (o :: env) σ) : ∃ p τ, σ = p :: τ ∧ (∀ x, o = some x → ∃ v, p = some v ∧ RepW G F ι x v) ∧ RepEnv G F ι env τ := by
  cases σ with
  | nil => have := R.1; simp at this
  | cons p τ =>
    refine ⟨p, τ, rfl, fun x e => ?_, by have := R.1; simpa using this, fun i x e => ?_⟩
    · obtain ⟨v, h1, h2⟩ := R.2 0 x (by simp [e])
      exact ⟨v, by simpa using h1, h2⟩
    · obtain ⟨v, h1, h2⟩ := R.2 (i + 1) x (by simpa using e)
      exact ⟨v, by simpa using h1, h2⟩
theorem fixEnv_ok {n : Nat} : ∀ {env : Nv} {σ : L2.St} {F : Hp} {cs : Cs} {K : Nv → Cs → Prop}, Sim G F ι cs H → RepEnv G F ι env σ → fixEnv n env cs K →
    ∃ F' cs' env', Ext F F' ι ι ∧ Sim G F' ι cs' H ∧ RepEnv G F' ι env' σ ∧ K env' cs'
  | [], σ, F, cs, K, S, R, h => ⟨F, cs, [], .refl, S, R, h⟩
  | o :: env, σ, F, cs, K, S, R, h => by
    obtain ⟨p, τ, rfl, h0, R1⟩ := R.un
    have pass : ∀ {o : Option W}, (∀ x, o = some x → ∃ v, p = some v ∧ RepW G F ι x v) → fixEnv n env cs (fun r' c2 => K (o :: r') c2) → ∃ F' cs' env', Ext F F' ι ι ∧ Sim G F' ι cs' H ∧ RepEnv G F' ι env' (p :: τ) ∧ K env' cs' := fun {o} h0 h => by
      obtain ⟨F2, cs2, env2, e2, S2, R2, q2⟩ := fixEnv_ok S R1 h
      exact ⟨F2, cs2, _, e2, S2, R2.cons fun x e => let ⟨v, a, b⟩ := h0 x e; ⟨v, a, b.mono e2⟩, q2⟩
    unfold fixEnv at h
    split at h
    · rename_i i
      split at h
      · obtain ⟨v, e, r⟩ := h0 _ rfl
        have h : fixW (.c i) cs (fun x c1 => fixEnv n env c1 fun r' c2 => K (some (.d x) :: r') c2) := h
        obtain ⟨F1, cs1, x, e1, S1, r1, h1⟩ := fixW_ok (w := .c i) S r h
        obtain ⟨F2, cs2, env2, e2, S2, R2, q2⟩ := fixEnv_ok S1 (R1.mono e1) h1
        exact ⟨F2, cs2, _, e1.trans e2, S2, R2.cons fun y ey => ⟨v, e, by cases ey; exact Rep.mono e2.same _ _ r1⟩, q2⟩
      · exact pass h0 h
    · exact pass h0 h
theorem poison_env {n : Nat} {env : Nv} {σ : L2.St} (R : RepEnv G F ι env σ) : RepEnv G F (ι.cut n) (env.map (Option.map (poison n))) σ := by
  refine ⟨by simp [R.1], fun i x e => ?_⟩
  rw [List.getElem?_map] at e
  cases q : env[i]? with
  | none => rw [q] at e; cases e
  | some o =>
    rw [q] at e
    cases o with
    | none => cases e
    | some w =>
      simp at e
      subst e
      obtain ⟨v, h1, h2⟩ := R.2 i w q
      exact ⟨v, h1, poison_rep h2⟩
theorem gcK_ok {n : Nat} {K : Nv → Cs → Prop} {env : Nv} {σ : L2.St} (S : Sim G F' ι' cs' H') (e : Ext F F' ι ι') (R : RepEnv G F' ι' env σ) (hn : n = ι.l.length) (h : gcK n K env cs') :
    ∃ F'' env'' cs'', Ext F F'' ι ι ∧ Sim G F'' ι cs'' H' ∧ RepEnv G F'' ι env'' σ ∧ K env'' cs'' := by
  subst hn
  obtain ⟨F2, cs2, env2, e2, S2, R2, q2⟩ := fixEnv_ok S R h
  have E := e.trans e2
  have P := poison_env (n := ι.l.length) R2
  obtain ⟨r, e1⟩ := e.pre
  have ec : ι'.cut ι.l.length = ι := by
    unfold Pl.cut
    rw [← e1, List.take_left, e.eR]
  rw [ec] at P
  exact ⟨F2, _, _, ⟨E.same, List.prefix_refl _, rfl⟩, S2.back E, P, q2⟩
end
section
variable {X : Cx} {G : Gam} {Wx : WX} {body : List Stmt} {t : DS}
theorem ss_gc (h : DSs X G Wx body t) : DSs X G Wx body (gcS t) := PSs.imp h fun D σ H hh => by
  obtain ⟨F, ι, env, cs, D0, S, R, t, h1, h2, h3, h4, h5⟩ := hh
  refine ⟨F, ι, env, cs, _, S, R, t, ?_, h2, ?_, ?_, h5⟩
  · intro F' ι' cs' env' σ' H' e S' R' q
    obtain ⟨F2, env2, cs2, e2, S2, R2, q2⟩ := gcK_ok S' e R' S.len.symm q
    exact h1 F2 ι cs2 env2 σ' H' e2 S2 R2 q2
  · intro F' ι' cs' env' σ' H' e S' R' q
    obtain ⟨F2, env2, cs2, e2, S2, R2, q2⟩ := gcK_ok S' e R' S.len.symm q
    exact h3 F2 ι cs2 env2 σ' H' e2 S2 R2 q2
  · intro F' ι' cs' env' σ' H' e S' R' q
    obtain ⟨F2, env2, cs2, e2, S2, R2, q2⟩ := gcK_ok S' e R' S.len.symm q
    exact h4 F2 ι cs2 env2 σ' H' e2 S2 R2 q2
end
def namesOf : List W → List Nat → List Nat
  | [], js => js
  | .c i :: r, js => namesOf r (if i ∈ js then js else js ++ [i])
  | _ :: r, js => namesOf r js
/-- the cells that an object's fields name -/
def refsC : Cell → List W
  | .obj _ fs => fs.filterMap id
  | _ => []
def toLoc (js : List Nat) : W → W
  | .c i => .c (js.idxOf i)
  | w => w
def toLocC (js : List Nat) : Cell → Cell
  | .obj c fs => .obj c (fs.map (Option.map (toLoc js)))
  | x => x
def unLoc (js : List Nat) (n : Nat) : W → W
  | .c k => .c (if k < js.length then js.getD k 0 else n + (k - js.length))
  | w => w
def unLocC (js : List Nat) (n : Nat) : Cell → Cell
  | .obj c fs => .obj c (fs.map (Option.map (unLoc js n)))
  | x => x
def putC : List Nat → Cs → Cs → Cs
  | [], cs, new => cs ++ new
  | j :: js, cs, x :: r => putC js (cs.set j x) r
  | _ :: _, cs, [] => cs
/-- w names a cell of js, if any -/
def inJ (js : List Nat) : W → Bool
  | .c i => decide (i ∈ js)
  | _ => true
def getCs (cs : Cs) : List Nat → Option Cs
  | [] => some []
  | j :: js => match cs[j]?, getCs cs js with
    | some x, some r => some (x :: r)
    | _, _ => none
def locJ (ws : List W) (cs : Cs) : List Nat := namesOf ((namesOf ws []).flatMap fun j => match cs[j]? with
  | some x => refsC x
  | none => []) (namesOf ws [])
def locAt (js : List Nat) (sp : DSpec) : DSpec := fun ws cs Q E => (∀ w ∈ ws, inJ js w = true) ∧ js.Nodup ∧ match getCs cs js with
  | some lcs => (∀ x ∈ lcs, ∀ w ∈ refsC x, inJ js w = true) ∧ sp (ws.map (toLoc js)) (lcs.map (toLocC js)) (fun w cs1 => Q (unLoc js cs.length w) (putC js cs (cs1.map (unLocC js cs.length)))) (fun x cs1 => E x (putC js cs (cs1.map (unLocC js cs.length))))
  | none => False
def loc (sp : DSpec) : DSpec := fun ws cs Q E => locAt (locJ ws cs) sp ws cs Q E
theorem getCs_get {cs : Cs} : ∀ {js : List Nat} {l : Cs}, getCs cs js = some l → l.length = js.length ∧ ∀ (k : Nat) j, js[k]? = some j → l[k]? = cs[j]? ∧ j < cs.length
  | [], l, h => by cases h; exact ⟨rfl, fun k j e => by simp at e⟩
  | j :: js, l, h => by
    unfold getCs at h
    split at h
    · rename_i x r h1 h2
      cases h
      obtain ⟨a, b⟩ := getCs_get h2
      refine ⟨by simp [a], fun k i e => ?_⟩
      cases k with
      | zero => simp at e; subst e; exact ⟨by simp [h1], (List.getElem?_eq_some_iff.mp h1).1⟩
      | succ k => simpa using b k i (by simpa using e)
    · cases h
theorem putC_length : ∀ (js : List Nat) (cs new : Cs), js.length ≤ new.length → (putC js cs new).length = cs.length + (new.length - js.length)
  | [], cs, new, _ => by simp [putC]
  | j :: js, cs, x :: r, h => by
    simp only [putC]
    rw [putC_length js _ r (by simpa using h)]
    simp
  | j :: js, cs, [], h => by simp at h
theorem putC_out : ∀ (js : List Nat) (cs new : Cs) (i : Nat), i < cs.length → i ∉ js → (putC js cs new)[i]? = cs[i]?
  | [], cs, new, i, h, _ => by simp only [putC]; rw [List.getElem?_append_left h]
  | j :: js, cs, x :: r, i, h, hi => by
    simp only [putC]
    rw [putC_out js _ r i (by simpa using h) (fun z => hi (List.mem_cons_of_mem _ z)), List.getElem?_set_ne (fun z => hi (by simp [z]))]
  | j :: js, cs, [], i, h, _ => rfl
theorem putC_in : ∀ (js : List Nat) (cs new : Cs), js.Nodup → js.length ≤ new.length → (∀ j ∈ js, j < cs.length) → ∀ (k : Nat) j, js[k]? = some j → (putC js cs new)[j]? = new[k]?
  | [], cs, new, _, _, _, k, j, e => by simp at e
  | i :: js, cs, x :: r, hn, hl, hb, k, j, e => by
    have hn' := List.nodup_cons.mp hn
    simp only [putC]
    cases k with
    | zero =>
      simp at e; subst e
      rw [putC_out js _ r i (by simpa using hb i List.mem_cons_self) hn'.1, List.getElem?_set_self (hb i List.mem_cons_self)]
      rfl
    | succ k =>
      rw [putC_in js _ r hn'.2 (by simpa using hl) (fun j hj => by simpa using hb j (List.mem_cons_of_mem _ hj)) k j (by simpa using e)]
      simp
  | i :: js, cs, [], _, hl, _, k, j, e => by simp at hl
theorem putC_new : ∀ (js : List Nat) (cs new : Cs), js.length ≤ new.length → ∀ m : Nat, (putC js cs new)[cs.length + m]? = new[js.length + m]?
  | [], cs, new, _, m => by simp only [putC]; rw [List.getElem?_append_right (by omega)]; simp
  | j :: js, cs, x :: r, h, m => by
    simp only [putC]
    have := putC_new js (cs.set j x) r (by simpa using h) m
    rw [List.length_set] at this
    rw [this, List.length_cons, show js.length + 1 + m = (js.length + m) + 1 by omega, List.getElem?_cons_succ]
  | j :: js, cs, [], h, m => by simp at h
theorem get_idxOf {js : List Nat} {j : Nat} (h : j ∈ js) : js[js.idxOf j]? = some j := by
  have h1 := List.idxOf_lt_length_of_mem h
  rw [List.getElem?_eq_getElem h1, List.getElem_idxOf h1]
section
variable {P : Program} {w : World} {K : PySem.W.Frag} {mg : Str → Option Value} {base : Heap} {G : Gam} {k : Nat} {f : Addr} {fd : FuncData} {ps : List Str} {sp : DSpec}
/-- the chosen addresses -/
def selA (l : List Addr) (js : List Nat) : List Addr := js.map fun j => l.getD j 0
theorem selA_get {l : List Addr} {js : List Nat} {k j : Nat} (hj : j < l.length) (e : js[k]? = some j) : (selA l js)[k]? = l[j]? := by
  unfold selA
  rw [List.getElem?_map, e, List.getElem?_eq_getElem hj]
  simp [hj]
theorem toLoc_rep {F : Hp} {ι : Pl} {R : Hp} {js : List Nat} (hb : ∀ j ∈ js, j < ι.l.length) {x : W} {v : V} (h : inJ js x = true) (r : RepW G F ι x v) : RepW G F ⟨selA ι.l js, R⟩ (toLoc js x) v := by
  cases x with
  | c i =>
    obtain ⟨a, h1, h2⟩ := r
    have hi : i ∈ js := of_decide_eq_true h
    exact ⟨a, by show (selA ι.l js)[js.idxOf i]? = _; rw [selA_get (hb i hi) (get_idxOf hi)]; exact h1, h2⟩
  | _ => exact r
theorem toLoc_reps {F : Hp} {ι : Pl} {R : Hp} {js : List Nat} (hb : ∀ j ∈ js, j < ι.l.length) : ∀ {ws : List W} {vs : List V}, (∀ w ∈ ws, inJ js w = true) → Paired (RepW G F ι) ws vs → Paired (RepW G F ⟨selA ι.l js, R⟩) (ws.map (toLoc js)) vs
  | _, _, _, .nil => .nil
  | _, _, h, .cons r t => .cons (toLoc_rep hb (h _ List.mem_cons_self) r) (toLoc_reps hb (fun w hw => h w (List.mem_cons_of_mem _ hw)) t)
theorem toLoc_fs {F : Hp} {ι : Pl} {R : Hp} {js : List Nat} (hb : ∀ j ∈ js, j < ι.l.length) : ∀ {fs : List (Option W)} {vs : List (Option V)}, (∀ w ∈ fs.filterMap id, inJ js w = true) → Paired (RepWO G F ι) fs vs → Paired (RepWO G F ⟨selA ι.l js, R⟩) (fs.map (Option.map (toLoc js))) vs
  | _, _, _, .nil => .nil
  | o :: fs, p :: vs, h, .cons r t => by
    refine .cons ?_ (toLoc_fs hb (fun w hw => h w ?_) t)
    · cases o with
      | none => cases p <;> exact r
      | some x =>
        cases p with
        | none => exact r
        | some v => exact toLoc_rep hb (h x (by simp)) r
    · cases o <;> simp at hw ⊢ <;> first | exact hw | exact .inr hw
theorem unLoc_rep {F' : Hp} {ι ι' : Pl} {R : Hp} {js : List Nat} {n : Nat} (hn : n = ι.l.length) (hb : ∀ j ∈ js, j < ι.l.length) (hp : selA ι.l js <+: ι'.l) {x : W} {v : V} (r : RepW G F' ι' x v) : RepW G F' ⟨ι.l ++ ι'.l.drop js.length, R⟩ (unLoc js n x) v := by
  subst hn
  cases x with
  | c k =>
    obtain ⟨a, h1, h2⟩ := r
    refine ⟨a, ?_, h2⟩
    show (ι.l ++ ι'.l.drop js.length)[if k < js.length then js.getD k 0 else ι.l.length + (k - js.length)]? = _
    by_cases hk : k < js.length
    · have e : js[k]? = some js[k] := List.getElem?_eq_getElem hk
      have hj : js[k] < ι.l.length := hb _ (List.getElem_mem hk)
      rw [if_pos hk]
      have : js.getD k 0 = js[k] := by simp [hk]
      rw [this, List.getElem?_append_left hj, ← selA_get hj e]
      obtain ⟨r, e1⟩ := hp
      rw [← e1, List.getElem?_append_left (by simp [selA, hk])] at h1
      exact h1
    · rw [if_neg hk, List.getElem?_append_right (by omega), List.getElem?_drop, show js.length + (ι.l.length + (k - js.length) - ι.l.length) = k by omega]
      exact h1
  | _ => exact r
theorem CellAt.unLoc {F' H' : Hp} {ι ι' : Pl} {R : Hp} {js : List Nat} {n : Nat} (hn : n = ι.l.length) (hb : ∀ j ∈ js, j < ι.l.length) (hp : selA ι.l js <+: ι'.l) {a : Addr} {x : Cell} (h : CellAt G F' ι' H' a x) : CellAt G F' ⟨ι.l ++ ι'.l.drop js.length, R⟩ H' a (unLocC js n x) := by
  cases x with
  | obj c fs =>
    obtain ⟨h1, C, nm, dx, gs, vs, h2, h3, h4, h5⟩ := h
    refine ⟨h1, C, nm, dx, gs, vs, h2, h3, h4, Paired.map_left (fun o p q => ?_) h5⟩
    cases o <;> cases p <;> first | exact unLoc_rep hn hb hp q | exact q
  | _ => exact h
theorem FnD.locAt_ (Fd : FnD P w K mg base G k f fd ps sp) {sp' : DSpec} (hs : ∀ ws cs Q E, sp' ws cs Q E → ∃ js, locAt js sp ws cs Q E) : FnD P w K mg base G k f fd ps sp' := by
  refine ⟨fun ws cs Q E h => ?_, fun A outer s H args us vs F ι cs ws Q0 E0 Q E hgd hr e0 hbd r S0 rw0 hsp hQ hE => ?_⟩
  · obtain ⟨js, _, _, h⟩ := hs ws cs Q E h
    split at h
    · rename_i lcs _
      have := Fd.len _ _ _ _ h.2
      simpa using this
    · cases h
  obtain ⟨js, hin, hnd, h⟩ := hs _ _ _ _ hsp
  split at h
  case h_2 => cases h
  rename_i lcs hg
  obtain ⟨hl, hg⟩ := getCs_get hg
  obtain ⟨hrf, h⟩ := h
  have nl : cs.length = ι.l.length := S0.len.symm
  have hb : ∀ j ∈ js, j < ι.l.length := fun j hj => by
    rw [← nl]; exact (hg _ _ (get_idxOf hj)).2
  let R₁ : Hp := fun a => open Classical in if a ∈ ι.l ∧ a ∉ selA ι.l js ∧ F a = none then H a else ι.R a
  have sub : ∀ {a}, a ∈ selA ι.l js → a ∈ ι.l := fun {a} ha => by
    unfold selA at ha
    obtain ⟨j, hj, rfl⟩ := List.mem_map.mp ha
    have := hb j hj
    simp [this]
  have R_old : ∀ {a}, ι.R a ≠ none → R₁ a = ι.R a := fun {a} ha => if_neg fun z => (S0.ap a ha).2 z.1
  have R_in : ∀ {a}, a ∈ ι.l → a ∉ selA ι.l js → F a = none → R₁ a = H a := fun {a} h1 h2 h3 => if_pos ⟨h1, h2, h3⟩
  have live : ∀ {a}, a ∈ ι.l → ∃ u, H a = some u := fun {a} ha => by
    obtain ⟨i, hi⟩ := List.mem_iff_getElem?.mp ha
    exact S0.live hi
  have S1 : Sim G F ⟨selA ι.l js, R₁⟩ (lcs.map (toLocC js)) H := by
    refine ⟨S0.same, by simp [selA, hl], fun i j a h1 h2 h3 => ?_, fun i x q => ?_, fun a u q => ?_, fun a q => ?_⟩
    · have bi : i < js.length := by have := (List.getElem?_eq_some_iff.mp h1).1; simpa [selA] using this
      have bj : j < js.length := by have := (List.getElem?_eq_some_iff.mp h2).1; simpa [selA] using this
      have ei := List.getElem?_eq_getElem bi
      have ej := List.getElem?_eq_getElem bj
      have h1 : (selA ι.l js)[i]? = some a := h1
      have h2 : (selA ι.l js)[j]? = some a := h2
      rw [selA_get (hb _ (List.getElem_mem bi)) ei] at h1
      rw [selA_get (hb _ (List.getElem_mem bj)) ej] at h2
      exact (List.getElem_inj hnd).mp (S0.nd _ _ a h1 h2 h3)
    · rw [List.getElem?_map] at q
      cases e : lcs[i]? with
      | none => rw [e] at q; cases q
      | some y =>
        rw [e] at q; cases q
        have bi : i < js.length := by rw [← hl]; exact (List.getElem?_eq_some_iff.mp e).1
        have ei := List.getElem?_eq_getElem bi
        have e2 := (hg i _ ei).1
        rw [e] at e2
        obtain ⟨a, h1, h2⟩ := S0.cell _ _ e2.symm
        refine ⟨a, by show (selA ι.l js)[i]? = _; rw [selA_get (hb _ (List.getElem_mem bi)) ei]; exact h1, ?_⟩
        cases y with
        | obj c fs =>
          obtain ⟨h3, C, nm, dx, gs, vs, h4, h5, h6, h7⟩ := h2
          exact ⟨h3, C, nm, dx, gs, vs, h4, h5, h6, toLoc_fs hb (hrf _ (List.mem_of_getElem? e)) h7⟩
        | _ => exact h2
    · by_cases c : a ∈ ι.l ∧ a ∉ selA ι.l js ∧ F a = none
      · have q : R₁ a = some u := q
        rw [R_in c.1 c.2.1 c.2.2] at q
        exact q
      · have q : R₁ a = some u := q
        have : R₁ a = ι.R a := if_neg c
        rw [this] at q
        exact S0.fr a u q
    · by_cases c : a ∈ ι.l ∧ a ∉ selA ι.l js ∧ F a = none
      · exact ⟨c.2.2, c.2.1⟩
      · have q : R₁ a ≠ none := q
        have : R₁ a = ι.R a := if_neg c
        rw [this] at q
        exact ⟨(S0.ap a q).1, fun z => (S0.ap a q).2 (sub z)⟩
  -- back to all cells
  have back : ∀ {F' ι' cs' H'}, Ext F F' ⟨selA ι.l js, R₁⟩ ι' → Sim G F' ι' cs' H' → Ext F F' ι ⟨ι.l ++ ι'.l.drop js.length, ι.R⟩ ∧ Sim G F' ⟨ι.l ++ ι'.l.drop js.length, ι.R⟩ (putC js cs (cs'.map (unLocC js cs.length))) H' := fun {F' ι' cs' H'} e S' => by
    have hp : selA ι.l js <+: ι'.l := e.pre
    have eR : ι'.R = R₁ := e.eR
    have ls : (selA ι.l js).length = js.length := by simp [selA]
    have lj : js.length ≤ cs'.length := by rw [← S'.len, ← ls]; exact hp.length_le
    have lj' : js.length ≤ (cs'.map (unLocC js cs.length)).length := by simpa using lj
    have old : ∀ {k j : Nat}, js[k]? = some j → ι'.l[k]? = ι.l[j]? := fun {k j} ek => by
      have bk := (List.getElem?_eq_some_iff.mp ek).1
      obtain ⟨r, e1⟩ := hp
      rw [← e1, List.getElem?_append_left (by rw [ls]; exact bk), selA_get (hb _ (List.mem_of_getElem? ek)) ek]
    have apart : ∀ {a}, a ∈ ι.l → a ∉ selA ι.l js → F a = none → F' a = none ∧ a ∉ ι'.l ∧ H' a = H a := fun {a} h1 h2 h3 => by
      obtain ⟨u, hu⟩ := live h1
      have q : ι'.R a = some u := by rw [eR, R_in h1 h2 h3]; exact hu
      have := S'.ap a (by rw [q]; simp)
      exact ⟨this.1, this.2, by rw [S'.fr a u q, hu]⟩
    refine ⟨⟨e.same, List.prefix_append _ _, rfl⟩, S'.same, ?_, ?_, ?_, fun a u q => ?_, fun a q => ?_⟩
    · rw [putC_length _ _ _ lj', List.length_append, List.length_drop, List.length_map, S'.len, ← nl]
    · -- no address twice
      have mix : ∀ {i m : Nat} {a : Addr}, ι.l[i]? = some a → ι'.l[js.length + m]? = some a → F' a = none → False := fun {i m a} h1 h2 h3 => by
        have h3' : F a = none := e.same.free h3
        by_cases c : a ∈ selA ι.l js
        · obtain ⟨k, hk⟩ := List.mem_iff_getElem?.mp c
          have bk : k < js.length := by rw [← ls]; exact (List.getElem?_eq_some_iff.mp hk).1
          obtain ⟨r, e1⟩ := hp
          have h4 : ι'.l[k]? = some a := by rw [← e1, List.getElem?_append_left (by rw [ls]; exact bk)]; exact hk
          have := S'.nd k _ a h4 h2 h3
          omega
        · exact (apart (List.mem_of_getElem? h1) c h3').2.1 (List.mem_of_getElem? h2)
      intro i j a h1 h2 h3
      have h1 : (ι.l ++ ι'.l.drop js.length)[i]? = some a := h1
      have h2 : (ι.l ++ ι'.l.drop js.length)[j]? = some a := h2
      by_cases hi : i < ι.l.length
      · rw [List.getElem?_append_left hi] at h1
        by_cases hj : j < ι.l.length
        · rw [List.getElem?_append_left hj] at h2
          exact S0.nd i j a h1 h2 (e.same.free h3)
        · rw [List.getElem?_append_right (by omega), List.getElem?_drop] at h2
          exact (mix h1 h2 h3).elim
      · rw [List.getElem?_append_right (by omega), List.getElem?_drop] at h1
        by_cases hj : j < ι.l.length
        · rw [List.getElem?_append_left hj] at h2
          exact (mix h2 h1 h3).elim
        · rw [List.getElem?_append_right (by omega), List.getElem?_drop] at h2
          have := S'.nd _ _ a h1 h2 h3
          omega
    · intro i x q
      have at_ : ∀ {m : Nat}, (cs'.map (unLocC js cs.length))[m]? = some x → ∃ a, ι'.l[m]? = some a ∧ CellAt G F' ⟨ι.l ++ ι'.l.drop js.length, ι.R⟩ H' a x := fun {m} qm => by
        rw [List.getElem?_map] at qm
        cases em : cs'[m]? with
        | none => rw [em] at qm; cases qm
        | some y =>
          rw [em] at qm; cases qm
          obtain ⟨a, h1, h2⟩ := S'.cell m y em
          exact ⟨a, h1, h2.unLoc nl hb hp⟩
      by_cases hi : i < cs.length
      · by_cases hj : i ∈ js
        · have ek := get_idxOf hj
          rw [putC_in _ _ _ hnd lj' (fun j hj => by rw [nl]; exact hb j hj) _ _ ek] at q
          obtain ⟨a, h1, h2⟩ := at_ q
          rw [old ek] at h1
          exact ⟨a, by show (ι.l ++ _)[i]? = _; rw [List.getElem?_append_left (by rw [← nl]; exact hi)]; exact h1, h2⟩
        · rw [putC_out _ _ _ _ hi hj] at q
          obtain ⟨a, h1, h2⟩ := S0.cell i x q
          refine ⟨a, by show (ι.l ++ _)[i]? = _; rw [List.getElem?_append_left (by rw [← nl]; exact hi)]; exact h1, ?_⟩
          have E : Ext F F' ι ⟨ι.l ++ ι'.l.drop js.length, ι.R⟩ := ⟨e.same, List.prefix_append _ _, rfl⟩
          have notsel : F a = none → a ∉ selA ι.l js := fun h3 c => by
            obtain ⟨k, hk⟩ := List.mem_iff_getElem?.mp c
            have bk : k < js.length := by rw [← ls]; exact (List.getElem?_eq_some_iff.mp hk).1
            rw [selA_get (hb _ (List.getElem_mem bk)) (List.getElem?_eq_getElem bk)] at hk
            exact hj (by rw [S0.nd _ _ a h1 hk h3]; exact List.getElem_mem bk)
          have ap' : F a = none → F' a = none ∧ H' a = H a := fun h3 => let ⟨p, _, q⟩ := apart (List.mem_of_getElem? h1) (notsel h3) h3; ⟨p, q⟩
          cases x with
          | frz y => exact ⟨fun z => h2.1 (e.same.free z), Rep.mono e.same _ _ h2.2⟩
          | lst xs =>
            obtain ⟨h3, vs, h4, h5⟩ := h2
            obtain ⟨p1, p2⟩ := ap' h3
            exact ⟨p1, vs, by rw [p2]; exact h4, Reps.mono e.same _ _ h5⟩
          | dct kvs o =>
            obtain ⟨h3, h0, ks, ps, h4, h5, h6⟩ := h2
            obtain ⟨p1, p2⟩ := ap' h3
            exact ⟨p1, h0, ks, ps, by rw [p2]; exact h4, h5, RepKV.mono e.same _ _ _ h6⟩
          | obj c fs =>
            obtain ⟨h3, C, nm, dx, gs, vs, h4, h5, h6, h7⟩ := h2
            obtain ⟨p1, p2⟩ := ap' h3
            exact ⟨p1, C, nm, dx, gs, vs, by rw [p2]; exact h4, h5, h6, Paired.imp' (fun _ _ z => z.mono E) h7⟩
      · obtain ⟨m, rfl⟩ : ∃ m, i = cs.length + m := ⟨i - cs.length, by omega⟩
        rw [putC_new _ _ _ lj'] at q
        obtain ⟨a, h1, h2⟩ := at_ q
        refine ⟨a, ?_, h2⟩
        show (ι.l ++ ι'.l.drop js.length)[cs.length + m]? = _
        rw [nl, List.getElem?_append_right (by omega), List.getElem?_drop, Nat.add_sub_cancel_left]
        exact h1
    · have q : ι.R a = some u := q
      exact S'.fr a u (by rw [eR, R_old (by rw [q]; simp)]; exact q)
    · have q : ι.R a ≠ none := q
      have h1 := S'.ap a (by rw [eR, R_old q]; exact q)
      refine ⟨h1.1, fun z => ?_⟩
      rcases List.mem_append.mp z with z | z
      · exact (S0.ap a q).2 z
      · exact h1.2 (List.mem_of_mem_drop z)
  refine Fd.run A outer s H args us vs F ⟨selA ι.l js, R₁⟩ (lcs.map (toLocC js)) (ws.map (toLoc js)) _ _ Q E hgd hr e0 hbd r S1 (toLoc_reps hb hin rw0) h (fun F' ι' cs' x v H' e S' rx q => ?_) fun F' ι' cs' x cls od H' e S' rx q => ?_
  · obtain ⟨E', S2⟩ := back e S'
    exact hQ F' _ _ _ v H' E' S2 (unLoc_rep nl hb e.pre rx) q
  · obtain ⟨E', S2⟩ := back e S'
    exact hE F' _ _ x cls od H' E' S2 rx q
theorem FnD.loc (Fd : FnD P w K mg base G k f fd ps sp) : FnD P w K mg base G k f fd ps (loc sp) := Fd.locAt_ fun ws cs Q E h => ⟨_, h⟩
end
end DL
namespace DL
open PySem PySem.Spec L2
theorem OpR.imp {X : Cx} {f : Value → Value → Sem Value} {r r' : R2} (h : OpR X f r) (i : ∀ x y H Q, r' x y H Q → r x y H Q) : OpR X f r' := fun pins s σ H x y v u Q I rx ry q => h pins s σ H x y v u Q I rx ry (i _ _ _ _ q)
theorem CallR.imp {X : Cx} {f : Value} {r r' : List V → Hp → VK → Prop} (h : CallR X f r) (i : ∀ xs H Q, r' xs H Q → r xs H Q) : CallR X f r' := fun pins s σ H xs us Q I rx q => h pins s σ H xs us Q I rx (i _ _ _ q)
theorem UnR.imp {X : Cx} {f : Value → Sem Value} {r r' : V → Hp → VK → Prop} (h : UnR X f r) (i : ∀ x H Q, r' x H Q → r x H Q) : UnR X f r' := fun pins s σ H x v Q I rx q => h pins s σ H x v Q I rx (i _ _ _ q)
theorem IxR.imp {X : Cx} {r r' : R2} (h : IxR X r) (i : ∀ x y H Q, r' x y H Q → r x y H Q) : IxR X r' := fun va sl pins s σ H x y v u Q I rx ry q => h va sl pins s σ H x y v u Q I rx ry (i _ _ _ _ q)
section
variable {G : Gam} {F H : Hp} {ι : Pl} {cs : Cs} {w : W} {v : V}
theorem look_simple (S : Sim G F ι cs H) (r : RepW G F ι w v) {x : D} (h : look w cs = some x) (hx : leafD x = true) : Rep G F x v := (look_top S r h).simple hx
theorem look_int (S : Sim G F ι cs H) (r : RepW G F ι w v) {i : Int} (h : look w cs = some (.int i)) : v = .int i := by
  have := look_simple S r h rfl
  simpa only [Rep] using this
theorem look_str (S : Sim G F ι cs H) (r : RepW G F ι w v) {i : Str} (h : look w cs = some (.str i)) : v = .str i ∧ PyData.strOk i = true := by
  have := look_simple S r h rfl
  simpa only [Rep] using this
theorem look_lst (S : Sim G F ι cs H) (r : RepW G F ι w v) {xs : List D} (h : look w cs = some (.lst xs)) : ∃ a vs, v = .ref a ∧ H a = some (.lst vs) ∧ Reps G F xs vs := look_top S r h
theorem look_tup' (S : Sim G F ι cs H) (r : RepW G F ι w v) {xs : List D} (h : look w cs = some (.tup xs)) : ∃ a vs, v = .ref a ∧ SqT G.K H a vs ∧ SqT G.K F a vs ∧ Reps G F xs vs := by
  obtain ⟨a, vs, e, h1, h2⟩ := look_tup S r h
  exact ⟨a, vs, e, SqT.mono S.same h1, h1, h2⟩
theorem rep_int {i : Int} : RepW G F ι (.d (.int i)) (.int i) := by simp only [RepW, Rep]
theorem rep_bl {i : Bool} : RepW G F ι (.d (.bl i)) (.bl i) := by simp only [RepW, Rep]
theorem rep_str {x : Str} (h : PyData.strOk x = true) : RepW G F ι (.d (.str x)) (.str x) := by simp only [RepW, Rep]; exact ⟨True.intro, h⟩
theorem pair1 {α β : Type} {P : α → β → Prop} {a : α} {m : List β} (h : Paired P [a] m) : ∃ b, m = [b] ∧ P a b := by
  cases h with
  | cons r t => cases t; exact ⟨_, rfl, r⟩
theorem pair2 {α β : Type} {P : α → β → Prop} {a a' : α} {m : List β} (h : Paired P [a, a'] m) : ∃ b b', m = [b, b'] ∧ P a b ∧ P a' b' := by
  cases h with
  | cons r t =>
    obtain ⟨b, e, q⟩ := pair1 t
    subst e
    exact ⟨_, _, rfl, r, q⟩
end
theorem strOk_append {x y : Str} (h : PyData.strOk x = true) (k : PyData.strOk y = true) : PyData.strOk (x ++ y) = true := by
  unfold PyData.strOk at *
  show (x.cps ++ y.cps).all _ = true
  rw [Array.all_append, h, k]
  rfl
theorem strOk_iff {x : Str} : PyData.strOk x = true ↔ ∀ c ∈ x.cps.toList, c < 0x110000 := by
  unfold PyData.strOk
  rw [← Array.all_toList, List.all_eq_true]
  exact ⟨fun h c hc => of_decide_eq_true (h c hc), fun h c hc => decide_eq_true (h c hc)⟩
/-- an operation of two ints -/
def oI (C : Int → Int → Prop) (g : Int → Int → D) : Op2 := fun a b cs Q => match look a cs, look b cs with
  | some (.int i), some (.int j) => C i j ∧ Q (.d (g i j)) cs
  | _, _ => False
section
variable {X : Cx} {G : Gam}
theorem oI_ok {f : Value → Value → Sem Value} {C : Int → Int → Prop} {g : Int → Int → Int} (h : OpR X f (rI C fun i j => .int (g i j))) : OpR X f (upR G (oI C fun i j => .int (g i j))) := OpR.imp h fun x y H Q q => by
  obtain ⟨F, ι, cs, wx, wy, Q0, S, r1, r2, o, hq⟩ := q
  unfold oI at o
  split at o
  · rename_i i j l1 l2
    have e1 := look_int S r1 l1
    have e2 := look_int S r2 l2
    exact ⟨i, j, e1, e2, o.1, hq _ _ _ _ _ _ .refl S rep_int o.2⟩
  · cases o
theorem oI0_ok {f : Value → Value → Sem Value} {g : Int → Int → Int} (h : OpR X f (rI0 fun i j => .int (g i j))) : OpR X f (upR G (oI (fun _ _ => True) fun i j => .int (g i j))) := OpR.imp h fun x y H Q q => by
  obtain ⟨F, ι, cs, wx, wy, Q0, S, r1, r2, o, hq⟩ := q
  unfold oI at o
  split at o
  · rename_i i j l1 l2
    have e1 := look_int S r1 l1
    have e2 := look_int S r2 l2
    exact ⟨i, j, e1, e2, hq _ _ _ _ _ _ .refl S rep_int o.2⟩
  · cases o
theorem oB0_ok {f : Value → Value → Sem Value} {g : Int → Int → Bool} (h : OpR X f (rI0 fun i j => .bl (g i j))) : OpR X f (upR G (oI (fun _ _ => True) fun i j => .bl (g i j))) := OpR.imp h fun x y H Q q => by
  obtain ⟨F, ι, cs, wx, wy, Q0, S, r1, r2, o, hq⟩ := q
  unfold oI at o
  split at o
  · rename_i i j l1 l2
    have e1 := look_int S r1 l1
    have e2 := look_int S r2 l2
    exact ⟨i, j, e1, e2, hq _ _ _ _ _ _ .refl S rep_bl o.2⟩
  · cases o
abbrev CTrue : Int → Int → Prop := fun _ _ => True
abbrev oSub : Op2 := oI CTrue fun i j => .int (i - j)
abbrev oFDiv : Op2 := oI CDivW fun i j => .int (i / j)
abbrev oMod : Op2 := oI (fun _ j => 0 < j) fun i j => .int (i % j)
abbrev oPow : Op2 := oI CPow fun i j => .int (i ^ j.toNat)
abbrev oLt : Op2 := oI CTrue fun i j => .bl (decide (i < j))
abbrev oLe : Op2 := oI CTrue fun i j => .bl (decide (i ≤ j))
abbrev oGt : Op2 := oI CTrue fun i j => .bl (decide (j < i))
theorem o_sub : OpR X (binaryOp .Sub) (upR G oSub) := oI0_ok op_sub
theorem o_fdiv : OpR X (binaryOp .FloorDiv) (upR G oFDiv) := oI_ok op_fdivW
theorem o_mod : OpR X (binaryOp .Mod) (upR G oMod) := oI_ok op_mod
theorem o_pow : OpR X (binaryOp .Pow) (upR G oPow) := oI_ok op_pow
theorem o_lt : OpR X (compareOp .Lt) (upR G oLt) := oB0_ok op_lt
theorem o_le : OpR X (compareOp .LtE) (upR G oLe) := oB0_ok op_le
theorem o_gt : OpR X (compareOp .Gt) (upR G oGt) := oB0_ok op_gt
def oNeg : Op1 := fun a cs Q => match look a cs with
  | some (.int i) => Q (.d (.int (-i))) cs
  | _ => False
theorem o_neg : UnR X (unaryOp .USub) (upR1 G oNeg) := UnR.imp un_neg fun x H Q q => by
  obtain ⟨F, ι, cs, wx, Q0, S, r1, o, hq⟩ := q
  unfold oNeg at o
  split at o
  · rename_i i l1
    exact ⟨i, look_int S r1 l1, hq _ _ _ _ _ _ .refl S rep_int o⟩
  · cases o
def oAdd : Op2 := fun a b cs Q => match look a cs, look b cs with
  | some (.int i), some (.int j) => Q (.d (.int (i + j))) cs
  | some (.str x), some (.str y) => x.length + y.length ≤ sizeLine ∧ Q (.d (.str (x ++ y))) cs
  | some (.tup xs), some (.tup ys) => xs.length + ys.length ≤ sizeLine ∧ Q (.d (.tup (xs ++ ys))) cs
  | some (.lst xs), some (.lst ys) => xs.length + ys.length ≤ sizeLine ∧ Q (.c cs.length) (cs ++ [.lst (xs ++ ys)])
  | _, _ => False
def oAddT : Op2 := fun a b cs Q => match look a cs, look b cs with
  | some (.tup xs), some (.tup ys) => xs.length + ys.length ≤ sizeLine ∧ Q (.d (.tup (xs ++ ys))) cs
  | _, _ => False
def oAddN : Op2 := fun a b cs Q => match look a cs, look b cs with
  | some (.int i), some (.int j) => Q (.d (.int (i + j))) cs
  | some (.str x), some (.str y) => x.length + y.length ≤ sizeLine ∧ Q (.d (.str (x ++ y))) cs
  | some (.lst xs), some (.lst ys) => xs.length + ys.length ≤ sizeLine ∧ Q (.c cs.length) (cs ++ [.lst (xs ++ ys)])
  | _, _ => False
theorem o_addT (hK : X.K = G.K) : OpR X (binaryOp .Add) (upR G oAddT) := by
  intro pins s σ H x y v u Q I rx ry q
  obtain ⟨F, ι, cs, wx, wy, Q0, S, r1, r2, o, hq⟩ := q
  unfold oAddT at o
  split at o
  · rename_i xs ys l1 l2
    obtain ⟨a, vs, rfl, f1, p1⟩ := look_tupP S r1 l1
    obtain ⟨b, us, rfl, f2, p2⟩ := look_tupP S r2 l2
    cases (show v = Value.ref a from rx)
    cases (show u = Value.ref b from ry)
    obtain ⟨its, v1, t1, _⟩ := I.tuple (hK ▸ SqT.mono S.same f1.sq)
    obtain ⟨its2, v2, t2, _⟩ := I.tuple (hK ▸ SqT.mono S.same f2.sq)
    by_cases hx : xs = []
    · subst hx
      have : vs = [] := by simpa [Reps] using p1
      subst this
      cases v1
      exact cat_tup0 t1 t2 ⟨.ref b, H, I, rfl, hq _ _ _ (.d (.tup ys)) _ _ .refl S (by simp only [RepW, Rep]; exact ⟨b, us, rfl, f2, p2⟩) (by simpa using o.2)⟩
    · have hv : vs ≠ [] := fun z => hx (by have := p1.length; rw [z] at this; simpa using this.symm)
      refine HT.cat_tup t1 t2 (fun z => hv (v1.nil_iff.mp z)) (fun z => ⟨.ref a, H, I, rfl, hq _ _ _ (.d (.tup xs)) _ _ .refl S (by simp only [RepW, Rep]; exact ⟨a, vs, rfl, f1, p1⟩) ?_⟩) (fun z => ?_) (by rw [← v1.length, ← v2.length, p1.length, p2.length]; exact o.1)
      · have : us = [] := v2.nil_iff.mp z
        subst this
        have : ys = [] := by have := p2.length; simpa using this.symm
        subst this
        simpa using o.2
      · have I2 := tup_laid (tk := s.toks) I (v1.append v2) (by rw [List.length_append, p1.length, p2.length]; exact o.1)
        obtain ⟨e3, S3⟩ := S.fixed (o := .frz (tupO (its ++ its2)) (.tup (vs ++ us))) (I.hok.fresh (Nat.le_refl s.heap.objs.size))
        exact ⟨.ref s.heap.objs.size, _, I2, rfl, hq _ _ _ (.d (.tup (xs ++ ys))) _ _ e3 S3 (tup_rep upd_same rfl (Reps.mono e3.same _ _ (Reps.append p1 p2))) o.2⟩
  · cases o
theorem o_addN : OpR X (binaryOp .Add) (upR G oAddN) := OpR.imp (OpR.or op_add (OpR.or op_add_str op_cat)) fun x y H Q q => by
  obtain ⟨F, ι, cs, wx, wy, Q0, S, r1, r2, o, hq⟩ := q
  unfold oAddN at o
  split at o
  · rename_i i j l1 l2
    exact .inl ⟨i, j, look_int S r1 l1, look_int S r2 l2, hq _ _ _ _ _ _ .refl S rep_int o⟩
  · rename_i i j l1 l2
    obtain ⟨e1, k1⟩ := look_str S r1 l1
    obtain ⟨e2, k2⟩ := look_str S r2 l2
    exact .inr (.inl ⟨i, j, e1, e2, o.1, hq _ _ _ _ _ _ .refl S (rep_str (strOk_append k1 k2)) o.2⟩)
  · rename_i xs ys l1 l2
    obtain ⟨a, vs, rfl, h1, p1⟩ := look_lst S r1 l1
    obtain ⟨b, us, rfl, h2, p2⟩ := look_lst S r2 l2
    refine .inr (.inr ⟨a, b, vs, us, rfl, rfl, h1, h2, by rw [p1.length, p2.length]; exact o.1, fun p hp => ?_⟩)
    obtain ⟨e3, S3⟩ := S.owned (o := .lst (vs ++ us)) (x := .lst (xs ++ ys)) hp fun ι' => ⟨S.dead hp, _, upd_same, Reps.append p1 p2⟩
    exact hq _ _ _ (.c cs.length) _ _ e3 S3 ⟨p, by rw [← S.len]; simp [Pl.add], rfl⟩ o.2
  · cases o
theorem o_add (hK : X.K = G.K) : OpR X (binaryOp .Add) (upR G oAdd) := by
  intro pins s σ H x y v u Q I rx ry q
  obtain ⟨F, ι, cs, wx, wy, Q0, S, r1, r2, o, hq⟩ := q
  by_cases ht : oAddT wx wy cs Q0
  · exact o_addT hK pins s σ H x y v u Q I rx ry ⟨F, ι, cs, wx, wy, Q0, S, r1, r2, ht, hq⟩
  · refine o_addN pins s σ H x y v u Q I rx ry ⟨F, ι, cs, wx, wy, Q0, S, r1, r2, ?_, hq⟩
    unfold oAdd at o
    unfold oAddT at ht
    unfold oAddN
    cases h1 : look wx cs with
    | none => rw [h1] at o; exact o
    | some a =>
      cases h2 : look wy cs with
      | none => rw [h1, h2] at o; cases a <;> exact o
      | some b =>
        rw [h1, h2] at o ht
        cases a <;> cases b <;> first | exact o | exact absurd o ht
def oMul : Op2 := fun a b cs Q => match look a cs, look b cs with
  | some (.int i), some (.int j) => CMulW i j ∧ Q (.d (.int (i * j))) cs
  | some (.lst xs), some (.int k) => -(2 ^ 63) ≤ k ∧ k < 2 ^ 63 ∧ xs.length * k.toNat ≤ sizeLine ∧ Q (.c cs.length) (cs ++ [.lst (List.replicate k.toNat xs).flatten])
  | _, _ => False
theorem reps_flat {F : Hp} {xs : List D} {vs : List V} (h : Reps G F xs vs) : ∀ n : Nat, Reps G F (List.replicate n xs).flatten (List.replicate n vs).flatten
  | 0 => Reps.nil
  | n + 1 => by
    rw [List.replicate_succ, List.replicate_succ, List.flatten_cons, List.flatten_cons]
    exact Reps.append h (reps_flat h n)
theorem o_mul : OpR X (binaryOp .Mult) (upR G oMul) := OpR.imp (OpR.or op_mulW op_rep) fun x y H Q q => by
  obtain ⟨F, ι, cs, wx, wy, Q0, S, r1, r2, o, hq⟩ := q
  unfold oMul at o
  split at o
  · rename_i i j l1 l2
    exact .inl ⟨i, j, look_int S r1 l1, look_int S r2 l2, o.1, hq _ _ _ _ _ _ .refl S rep_int o.2⟩
  · rename_i xs k l1 l2
    obtain ⟨a, vs, rfl, h1, p1⟩ := look_lst S r1 l1
    have e2 := look_int S r2 l2
    subst e2
    obtain ⟨o1, o2, o3, o⟩ := o
    refine .inr ⟨a, k, vs, rfl, rfl, h1, o1, o2, by rw [p1.length]; exact o3, fun p hp => ?_⟩
    obtain ⟨e3, S3⟩ := S.owned (o := .lst (List.replicate k.toNat vs).flatten) (x := .lst (List.replicate k.toNat xs).flatten) hp fun ι' => ⟨S.dead hp, _, upd_same, reps_flat p1 _⟩
    exact hq _ _ _ (.c cs.length) _ _ e3 S3 ⟨p, by rw [← S.len]; simp [Pl.add], rfl⟩ o
  · cases o
def oIs (neg : Bool) : Op2 := fun a b cs Q => match b with
  | .d .non => (match a with
    | .d x => (match x with
      | .non => Q (.d (.bl (!neg))) cs
      | .oth _ => False
      | _ => Q (.d (.bl neg)) cs)
    | .c _ => Q (.d (.bl neg)) cs
    | .dead => False
    | .tp _ => False)
  | _ => False
def oLen : OpN := fun ws cs Q => match ws with
  | [w] => (match look w cs with
    | some (.str x) => x.length ≤ sizeLine ∧ Q (.d (.int x.length)) cs
    | some (.lst xs) => Q (.d (.int xs.length)) cs
    | some (.tup xs) => Q (.d (.int xs.length)) cs
    | some (.scr xs) => Q (.d (.int xs.length)) cs
    | _ => False)
  | _ => False
theorem c_len (hK : X.K = G.K) : CallR X (.builtin "len") (upRN G oLen) := CallR.imp call_len fun xs H Q q => by
  obtain ⟨F, ι, cs, ws, Q0, S, r, o, hq⟩ := q
  unfold oLen at o
  split at o
  · rename_i w
    obtain ⟨v, rfl, r0⟩ := pair1 r
    split at o
    · rename_i x l
      obtain ⟨e, k⟩ := look_str S r0 l
      subst e
      exact ⟨_, x.length, rfl, ⟨o.1, rfl⟩, hq _ _ _ _ _ _ .refl S rep_int o.2⟩
    · rename_i xs l
      obtain ⟨a, vs, rfl, h1, p1⟩ := look_lst S r0 l
      exact ⟨_, xs.length, rfl, .inl ⟨vs, SqL.of h1, p1.length.symm⟩, hq _ _ _ _ _ _ .refl S rep_int o⟩
    · rename_i xs l
      obtain ⟨a, vs, rfl, h1, _, p1⟩ := look_tup' S r0 l
      exact ⟨_, xs.length, rfl, .inr ⟨vs, hK ▸ h1, p1.length.symm⟩, hq _ _ _ _ _ _ .refl S rep_int o⟩
    · rename_i ns l
      obtain ⟨a, rfl, h1⟩ := look_top S r0 l
      exact ⟨_, ns.length, rfl, .inl ⟨_, hK ▸ h1, by simp⟩, hq _ _ _ _ _ _ .refl S rep_int o⟩
    · cases o
  · cases o
def oInt1 (g : Int → D) : OpN := fun ws cs Q => match ws with
  | [w] => (match look w cs with
    | some (.int i) => Q (.d (g i)) cs
    | _ => False)
  | _ => False
def oInt2 (g : Int → Int → D) : OpN := fun ws cs Q => match ws with
  | [w, u] => (match look w cs, look u cs with
    | some (.int i), some (.int j) => Q (.d (g i j)) cs
    | _, _ => False)
  | _ => False
theorem c_abs : CallR X (.builtin "abs") (upRN G (oInt1 fun i => .int (if i < 0 then -i else i))) := CallR.imp call_abs fun xs H Q q => by
  obtain ⟨F, ι, cs, ws, Q0, S, r, o, hq⟩ := q
  unfold oInt1 at o
  split at o
  · obtain ⟨v, rfl, r0⟩ := pair1 r
    split at o
    · rename_i i l
      exact ⟨i, by rw [look_int S r0 l], hq _ _ _ _ _ _ .refl S rep_int o⟩
    · cases o
  · cases o
theorem c_max2 (hc : X.calm = true) : CallR X (.builtin "max") (upRN G (oInt2 fun i j => .int (if j > i then j else i))) := CallR.imp (call_max2 hc) fun xs H Q q => by
  obtain ⟨F, ι, cs, ws, Q0, S, r, o, hq⟩ := q
  unfold oInt2 at o
  split at o
  · obtain ⟨v, u, rfl, r0, r'⟩ := pair2 r
    split at o
    · rename_i i j l l'
      exact ⟨i, j, by rw [look_int S r0 l, look_int S r' l'], hq _ _ _ _ _ _ .refl S rep_int o⟩
    · cases o
  · cases o
theorem c_min2 (hc : X.calm = true) : CallR X (.builtin "min") (upRN G (oInt2 fun i j => .int (if j < i then j else i))) := CallR.imp (call_min2 hc) fun xs H Q q => by
  obtain ⟨F, ι, cs, ws, Q0, S, r, o, hq⟩ := q
  unfold oInt2 at o
  split at o
  · obtain ⟨v, u, rfl, r0, r'⟩ := pair2 r
    split at o
    · rename_i i j l l'
      exact ⟨i, j, by rw [look_int S r0 l, look_int S r' l'], hq _ _ _ _ _ _ .refl S rep_int o⟩
    · cases o
  · cases o
def oDivmod : OpN := fun ws cs Q => match ws with
  | [w, u] => (match look w cs, look u cs with
    | some (.int i), some (.int j) => CDivW i j ∧ Q (.tp [.int (i / j), .int (i % j)]) cs
    | _, _ => False)
  | _ => False
theorem c_divmod : CallR X (.builtin "divmod") (upRN G oDivmod) := CallR.imp call_divmodW fun xs H Q q => by
  obtain ⟨F, ι, cs, ws, Q0, S, r, o, hq⟩ := q
  unfold oDivmod at o
  split at o
  · obtain ⟨v, u, rfl, r0, r'⟩ := pair2 r
    split at o
    · rename_i i j l l'
      obtain ⟨⟨o1, o2⟩, o⟩ := o
      refine ⟨i, j, by rw [look_int S r0 l, look_int S r' l'], ⟨o1, PyProof.noPylong_of_log2 o2⟩, fun p hp => ?_⟩
      obtain ⟨e3, S3⟩ := S.fixed (o := .tup [.int (i / j), .int (i % j)]) hp
      exact hq _ _ _ (.tp [.int (i / j), .int (i % j)]) _ _ e3 S3 ⟨p, _, rfl, SqT.of upd_same, Reps.cons (by simp [Rep]) (Reps.one (by simp [Rep]))⟩ o
    · cases o
  · cases o
/-- the bools of a list of bools -/
def bools : List D → Option (List Bool)
  | [] => some []
  | .bl b :: r => (bools r).map (b :: ·)
  | _ => none
theorem bools_rep {F : Hp} : ∀ {xs : List D} {vs : List V} {bs : List Bool}, Reps G F xs vs → bools xs = some bs → vs = bs.map V.bl
  | [], vs, bs, h, e => by
    simp only [Reps] at h
    simp [bools] at e
    subst h e
    rfl
  | x :: xs, vs, bs, h, e => by
    cases x with
    | bl b =>
      simp only [Reps] at h
      obtain ⟨v, r, rfl, h1, h2⟩ := h
      simp only [bools] at e
      cases q : bools xs with
      | none => rw [q] at e; cases e
      | some cs =>
        rw [q] at e; cases e
        have h1 : Rep G F (.bl b) v := h1
        simp only [Rep] at h1
        rw [h1, bools_rep h2 q]
        rfl
    | _ => cases e
def oBools (g : List Bool → Bool) : OpN := fun ws cs Q => match ws with
  | [w] => (match look w cs with
    | some (.lst xs) => (match bools xs with
      | some bs => Q (.d (.bl (g bs))) cs
      | none => False)
    | _ => False)
  | _ => False
theorem bools_core {F : Hp} {ι : Pl} {cs : Cs} {H : Hp} {g : List Bool → Bool} {ws : List W} {vs : List V} {Q0 : DQ} (S : Sim G F ι cs H) (r : Paired (RepW G F ι) ws vs) (o : oBools g ws cs Q0) :
    ∃ (a : Addr) (bs : List Bool), vs = [V.ref a] ∧ SqL G.K H a (bs.map V.bl) ∧ Q0 (.d (.bl (g bs))) cs := by
  unfold oBools at o
  split at o
  · obtain ⟨v, rfl, r0⟩ := pair1 r
    split at o
    · rename_i xs l
      split at o
      · rename_i bs e
        obtain ⟨a, us, rfl, h1, p1⟩ := look_lst S r0 l
        have := bools_rep p1 e
        subst this
        exact ⟨a, bs, rfl, SqL.of h1, o⟩
      · cases o
    · cases o
  · cases o
theorem c_all (hc : X.calm = true) (hK : X.K = G.K) : CallR X (.builtin "all") (upRN G (oBools fun bs => bs.all id)) := CallR.imp (cr_all hc) fun xs H Q q => by
  obtain ⟨F, ι, cs, ws, Q0, S, r, o, hq⟩ := q
  obtain ⟨a, bs, e, h, o⟩ := bools_core S r o
  exact ⟨a, bs, e, hK ▸ h, hq _ _ _ _ _ _ .refl S rep_bl o⟩
end
end DL
namespace DL
open PySem PySem.Spec L2
mutual
def py : D → PyData
  | .non => .none
  | .bl b => .bool b
  | .int i => .int i
  | .str x => .str x
  | .tup xs => .tuple (pys xs)
  | .lst xs => .list (pys xs)
  | .dct kvs => .dict (pyKV kvs)
  | _ => .none
def pys : List D → List PyData
  | [] => []
  | x :: xs => py x :: pys xs
def pyKV : List (D × D) → List (PyData × PyData)
  | [] => []
  | (a, b) :: r => (py a, py b) :: pyKV r
end
mutual
/-- no objects and the like inside -/
def isPy : D → Bool
  | .non | .bl _ | .int _ | .str _ => true
  | .tup xs | .lst xs => isPys xs
  | .dct kvs => isPyKV kvs
  | _ => false
def isPys : List D → Bool
  | [] => true
  | x :: xs => isPy x && isPys xs
def isPyKV : List (D × D) → Bool
  | [] => true
  | (a, b) :: r => isPy a && isPy b && isPyKV r
end
mutual
/-- nor dicts -/
def isFl : D → Bool
  | .non | .bl _ | .int _ | .str _ => true
  | .tup xs | .lst xs => isFls xs
  | _ => false
def isFls : List D → Bool
  | [] => true
  | x :: xs => isFl x && isFls xs
end
mutual
theorem isPy_of : ∀ x : D, isFl x = true → isPy x = true
  | .non, _ | .bl _, _ | .int _, _ | .str _, _ => by simp [isPy]
  | .tup xs, h => by simp only [isFl] at h; simp only [isPy]; exact isPys_of xs h
  | .lst xs, h => by simp only [isFl] at h; simp only [isPy]; exact isPys_of xs h
  | .dct _, h | .obj _ _, h | .oth _, h | .scr _, h => by simp [isFl] at h
theorem isPys_of : ∀ xs : List D, isFls xs = true → isPys xs = true
  | [], _ => by simp [isPys]
  | x :: xs, h => by
    simp only [isFls, Bool.and_eq_true] at h
    simp only [isPys, Bool.and_eq_true]
    exact ⟨isPy_of x h.1, isPys_of xs h.2⟩
end
section
variable {X : Cx} {G : Gam} {pins : List (Addr × Obj)} {σ : L2.St} {H : Hp} {s : Shared}
theorem rawE_vals {w : World} : ∀ {ks : List NestedKey} {ps : List (V × V)} {es : List DictEntry}, RawE w ks ps es → Vals (ps.map (·.1)) (es.map (·.key)) ∧ Vals (ps.map (·.2)) (es.map (·.val))
  | [], ps, es, h => by
    simp only [RawE] at h
    obtain ⟨rfl, rfl⟩ := h
    exact ⟨.nil, .nil⟩
  | k :: ks, ps, es, h => by
    simp only [RawE] at h
    obtain ⟨p, q, e, f, rfl, rfl, _, h2, h3, h4⟩ := h
    obtain ⟨a, b⟩ := rawE_vals h4
    exact ⟨.cons h2 a, .cons h3 b⟩
theorem DcAt.get {a : Addr} {o : Obj} (I : Inv X pins σ H s) (hK : X.K = G.K) (h : DcAt G H a o) : s.heap.get? a = some o := by
  rcases h.2 with e | e
  · exact (I.hok a _ e).1
  · exact (hK ▸ I.kIn) a o e
/-- the addresses that are read are none that the base has -/
def Apart (X : Cx) (as : List Addr) : Prop := (X.base.get? sysModules).isSome = true → sysModules ∉ as
theorem apart_of {a : Addr} {o : HO} (I : Inv X pins σ H s) (h : H a = some o) : (X.base.get? sysModules).isSome = true → sysModules ≠ a := fun hb e => by
  obtain ⟨u, hu⟩ := Option.isSome_iff_exists.mp hb
  have := (I.bs _ _ hu).2
  rw [e, h] at this
  cases this
mutual
theorem Rep.reads {F : Hp} (S : Same F H) (I : Inv X pins σ H s) (hK : X.K = G.K) : ∀ (x : D) (v : V) (u : Value), Rep G F x v → isPy x = true → RelV v u → ∃ as, Reads s.heap u (py x) as ∧ Apart X as
  | .non, v, u, h, _, r => by
    simp only [Rep] at h
    subst h
    cases r
    simp only [py]
    exact ⟨_, Reads.none, fun _ => by simp⟩
  | .bl b, v, u, h, _, r => by
    simp only [Rep] at h
    subst h
    cases r
    simp only [py]
    exact ⟨_, Reads.bool b, fun _ => by simp⟩
  | .int i, v, u, h, _, r => by
    simp only [Rep] at h
    subst h
    obtain ⟨t, rfl⟩ := r
    simp only [py]
    exact ⟨_, Reads.int i t, fun _ => by simp⟩
  | .str x, v, u, h, _, r => by
    simp only [Rep] at h
    obtain ⟨rfl, _⟩ := h
    obtain ⟨t, rfl⟩ := r
    simp only [py]
    exact ⟨_, Reads.str x t, fun _ => by simp⟩
  | .tup xs, v, u, h, p, r => by
    simp only [Rep] at h
    obtain ⟨a, vs, rfl, h1, h2⟩ := h
    simp only [isPy] at p
    cases r
    obtain ⟨its, rv, ⟨o, ho, hc, n, hd⟩, _⟩ := I.tuple (hK ▸ SqT.mono S h1.sq)
    obtain ⟨as, q, ap⟩ := Reps.reads S I hK xs vs its h2 p rv
    simp only [py]
    exact ⟨_, Reads.tuple ho hc hd q, ap⟩
  | .lst xs, v, u, h, p, r => by
    simp only [Rep] at h
    obtain ⟨a, vs, rfl, h1, h2⟩ := h
    simp only [isPy] at p
    cases r
    obtain ⟨its, rv, ⟨o, n, ho, hc, _, hd⟩, _⟩ := I.list (SqL.of (S _ _ h1))
    obtain ⟨as, q, ap⟩ := Reps.reads S I hK xs vs its h2 p rv
    simp only [py]
    exact ⟨_, Reads.list ho hc hd q, fun hb hm => (List.mem_cons.mp hm).elim (apart_of I (S _ _ h1) hb) (ap hb)⟩
  | .dct kvs, v, u, h, p, r => by
    simp only [Rep] at h
    obtain ⟨a, o, ks, ps, rfl, h1, h2, h3⟩ := h
    simp only [isPy] at p
    cases r
    obtain ⟨es, ep, hd, re⟩ := h2.dat
    have hg := DcAt.get I hK (h1.mono S)
    obtain ⟨v1, v2⟩ := rawE_vals re
    obtain ⟨as, bs, q1, q2, ap1, ap2⟩ := RepKV.reads S I hK kvs ks ps _ _ h3 p v1 v2
    simp only [py]
    refine ⟨_, Reads.dict hg h2.ex.1 hd q1 q2, fun hb hm => ?_⟩
    rcases List.mem_append.mp hm with hm | hm
    · rcases List.mem_cons.mp hm with e | hm
      · have := h1.1
        rw [← e] at this
        simp at this
      · exact ap1 hb hm
    · exact ap2 hb hm
  | .obj _ _, v, u, _, p, _ | .oth _, v, u, _, p, _ | .scr _, v, u, _, p, _ => by simp [isPy] at p
theorem Reps.reads {F : Hp} (S : Same F H) (I : Inv X pins σ H s) (hK : X.K = G.K) : ∀ (xs : List D) (vs : List V) (us : List Value), Reps G F xs vs → isPys xs = true → Vals vs us → ∃ as, ReadsAll s.heap us (pys xs) as ∧ Apart X as
  | [], vs, us, h, _, r => by
    simp only [Reps] at h
    subst h
    cases r
    simp only [pys]
    exact ⟨_, ReadsAll.nil, fun _ => by simp⟩
  | x :: xs, vs, us, h, p, r => by
    simp only [Reps] at h
    obtain ⟨v, vr, rfl, h1, h2⟩ := h
    simp only [isPys, Bool.and_eq_true] at p
    cases r with
    | cons r1 r2 =>
      obtain ⟨as, q1, ap1⟩ := Rep.reads S I hK x _ _ h1 p.1 r1
      obtain ⟨bs, q2, ap2⟩ := Reps.reads S I hK xs _ _ h2 p.2 r2
      simp only [pys]
      exact ⟨_, ReadsAll.cons q1 q2, fun hb hm => (List.mem_append.mp hm).elim (ap1 hb) (ap2 hb)⟩
theorem RepKV.reads {F : Hp} (S : Same F H) (I : Inv X pins σ H s) (hK : X.K = G.K) : ∀ (kvs : List (D × D)) (ks : List NestedKey) (ps : List (V × V)) (us ws : List Value), RepKV G F kvs ks ps → isPyKV kvs = true → Vals (ps.map (·.1)) us → Vals (ps.map (·.2)) ws →
    ∃ as bs, ReadsAll s.heap us ((pyKV kvs).map (·.1)) as ∧ ReadsAll s.heap ws ((pyKV kvs).map (·.2)) bs ∧ Apart X as ∧ Apart X bs
  | [], ks, ps, us, ws, h, _, r1, r2 => by
    simp only [RepKV] at h
    obtain ⟨rfl, rfl⟩ := h
    cases r1
    cases r2
    simp only [pyKV, List.map_nil]
    exact ⟨_, _, ReadsAll.nil, ReadsAll.nil, fun _ => by simp, fun _ => by simp⟩
  | (a, b) :: kvs, ks, ps, us, ws, h, p, r1, r2 => by
    simp only [RepKV] at h
    obtain ⟨k, pr, kr, q, rfl, rfl, hk, h1, h2, h3⟩ := h
    simp only [isPyKV, Bool.and_eq_true] at p
    simp only [List.map_cons] at r1 r2
    cases r1 with
    | cons r1 r1' =>
      cases r2 with
      | cons r2 r2' =>
        obtain ⟨as1, q1, ap1⟩ := Rep.reads S I hK a _ _ h1 p.1.1 r1
        obtain ⟨bs1, q2, ap2⟩ := Rep.reads S I hK b _ _ h2 p.1.2 r2
        obtain ⟨as2, bs2, q3, q4, ap3, ap4⟩ := RepKV.reads S I hK kvs kr q _ _ h3 p.2 r1' r2'
        simp only [pyKV, List.map_cons]
        exact ⟨_, _, ReadsAll.cons q1 q3, ReadsAll.cons q2 q4, fun hb hm => (List.mem_append.mp hm).elim (ap1 hb) (ap3 hb), fun hb hm => (List.mem_append.mp hm).elim (ap2 hb) (ap4 hb)⟩
end
mutual
theorem Rep.lay {F : Hp} : ∀ (x : D) (v : V), Rep G F x v → isFl x = true → (py x).canLay0 = true
  | .non, _, _, _ | .bl _, _, _, _ | .int _, _, _, _ => by simp [py, PyData.canLay0]
  | .str x, v, h, _ => by
    simp only [Rep] at h
    simp only [py, PyData.canLay0]
    exact h.2
  | .tup xs, v, h, p => by
    simp only [Rep] at h
    obtain ⟨a, vs, rfl, h1, h2⟩ := h
    simp only [isFl] at p
    simp only [py, PyData.canLay0]
    exact Reps.lay xs vs h2 p
  | .lst xs, v, h, p => by
    simp only [Rep] at h
    obtain ⟨a, vs, rfl, h1, h2⟩ := h
    simp only [isFl] at p
    simp only [py, PyData.canLay0]
    exact Reps.lay xs vs h2 p
  | .dct _, v, _, p | .obj _ _, v, _, p | .oth _, v, _, p | .scr _, v, _, p => by simp [isFl] at p
theorem Reps.lay {F : Hp} : ∀ (xs : List D) (vs : List V), Reps G F xs vs → isFls xs = true → PyData.canLayAll0 (pys xs) = true
  | [], _, _, _ => by simp [pys, PyData.canLayAll0]
  | x :: xs, vs, h, p => by
    simp only [Reps] at h
    obtain ⟨v, vr, rfl, h1, h2⟩ := h
    simp only [isFls, Bool.and_eq_true] at p
    simp only [pys, PyData.canLayAll0, Bool.and_eq_true]
    exact ⟨Rep.lay x v h1 p.1, Reps.lay xs vr h2 p.2⟩
end
/-- the same from the top as it stands -/
theorem Top.reads {F : Hp} (S : Same F H) (I : Inv X pins σ H s) (hK : X.K = G.K) (x : D) (v : V) (u : Value) (h : Top G F H x v) (p : isPy x = true) (r : RelV v u) : ∃ as, Reads s.heap u (py x) as ∧ Apart X as := by
  cases x with
  | tup xs =>
    obtain ⟨a, vs, rfl, h1, h2⟩ := h
    simp only [isPy] at p
    cases r
    obtain ⟨its, rv, ⟨o, ho, hc, n, hd⟩, _⟩ := I.tuple (hK ▸ h1.sq)
    obtain ⟨as, q, ap⟩ := Reps.reads S I hK xs vs its h2 p rv
    simp only [py]
    exact ⟨_, Reads.tuple ho hc hd q, ap⟩
  | lst xs =>
    obtain ⟨a, vs, rfl, h1, h2⟩ := h
    simp only [isPy] at p
    cases r
    obtain ⟨its, rv, ⟨o, n, ho, hc, _, hd⟩, _⟩ := I.list (SqL.of h1)
    obtain ⟨as, q, ap⟩ := Reps.reads S I hK xs vs its h2 p rv
    simp only [py]
    exact ⟨_, Reads.list ho hc hd q, fun hb hm => (List.mem_cons.mp hm).elim (apart_of I h1 hb) (ap hb)⟩
  | dct kvs =>
    obtain ⟨a, o, ks, ps, rfl, h1, h2, h3⟩ := h
    simp only [isPy] at p
    cases r
    obtain ⟨es, ep, hd, re⟩ := h2.dat
    have hg := DcAt.get I hK h1
    obtain ⟨v1, v2⟩ := rawE_vals re
    obtain ⟨as, bs, q1, q2, ap1, ap2⟩ := RepKV.reads S I hK kvs ks ps _ _ h3 p v1 v2
    simp only [py]
    refine ⟨_, Reads.dict hg h2.ex.1 hd q1 q2, fun hb hm => ?_⟩
    rcases List.mem_append.mp hm with hm | hm
    · rcases List.mem_cons.mp hm with e | hm
      · have := h1.1
        rw [← e] at this
        simp at this
      · exact ap1 hb hm
    · exact ap2 hb hm
  | obj c ds => simp [isPy] at p
  | scr ns => simp [isPy] at p
  | oth u => simp [isPy] at p
  | non => exact Rep.reads S I hK .non v u h p r
  | bl b => exact Rep.reads S I hK (.bl b) v u h p r
  | int b => exact Rep.reads S I hK (.int b) v u h p r
  | str b => exact Rep.reads S I hK (.str b) v u h p r
theorem Top.lay {F : Hp} (x : D) (v : V) (h : Top G F H x v) (p : isFl x = true) : (py x).canLay0 = true := by
  cases x with
  | tup xs =>
    obtain ⟨a, vs, rfl, h1, h2⟩ := h
    simp only [isFl] at p
    simp only [py, PyData.canLay0]
    exact Reps.lay xs vs h2 p
  | lst xs =>
    obtain ⟨a, vs, rfl, h1, h2⟩ := h
    simp only [isFl] at p
    simp only [py, PyData.canLay0]
    exact Reps.lay xs vs h2 p
  | str x => exact Rep.lay (G := G) (F := F) (.str x) v h p
  | non => simp [py, PyData.canLay0]
  | bl b => simp [py, PyData.canLay0]
  | int b => simp [py, PyData.canLay0]
  | _ => simp [isFl] at p
end
end DL
namespace DL
open PySem PySem.Spec L2
theorem strOk_mem {x : Str} (h : PyData.strOk x = true) : ∀ c ∈ x.cps.toList, c < 0x110000 := strOk_iff.mp h
theorem strOk_of {x : Str} (h : ∀ c ∈ x.cps.toList, c < 0x110000) : PyData.strOk x = true := strOk_iff.mpr h
theorem char_lt (c : Char) : c.toNat < 0x110000 := by
  have h : c.toNat.isValidChar := c.valid
  unfold Nat.isValidChar at h
  omega
theorem strOk_string (x : String) : PyData.strOk (Str.ofString x) = true := strOk_of fun c hc => by
  rw [Str.ofString_eq_toList] at hc
  obtain ⟨d, _, rfl⟩ := List.mem_map.mp hc
  exact char_lt d
theorem reprChar_ok (q c : Nat) (hc : c < 0x110000) : ∀ d ∈ Builtin.Str.reprChar q c, d < 0x110000 := by
  have hd : ∀ d ∈ (Nat.toDigits 16 c).map Char.toNat, d < 0x110000 := fun d h => by
    obtain ⟨e, _, rfl⟩ := List.mem_map.mp h
    exact char_lt e
  intro d h
  unfold Builtin.Str.reprChar at h
  simp only at h
  repeat' split at h
  all_goals
    simp only [List.mem_cons, List.mem_append, List.mem_replicate, List.not_mem_nil, or_false] at h
    first
      | (rcases h with rfl | rfl <;> omega)
      | (subst h; exact hc)
      | (rcases h with (rfl | rfl) | ⟨_, rfl⟩ | h <;> first | omega | exact hd _ h)
theorem strOk_repr {x : Str} (h : PyData.strOk x = true) : PyData.strOk (reprText x) = true := by
  have hm := strOk_mem h
  have hq : reprQuote x < 0x110000 := by unfold reprQuote; split <;> omega
  have go : ∀ (l : List Nat) (acc : Array Nat), (∀ c ∈ l, c < 0x110000) → (∀ c ∈ acc.toList, c < 0x110000) → ∀ c ∈ (l.foldl (fun out c => out ++ (Builtin.Str.reprChar (reprQuote x) c).toArray) acc).toList, c < 0x110000 := by
    intro l
    induction l with
    | nil => intro acc _ ha; exact ha
    | cons d r ih =>
      intro acc hl ha
      refine ih _ (fun c hc => hl c (List.mem_cons_of_mem _ hc)) fun c hc => ?_
      simp only [Array.toList_append, List.mem_append] at hc
      rcases hc with hc | hc
      · exact ha c hc
      · exact reprChar_ok _ _ (hl d List.mem_cons_self) c (by simpa using hc)
  refine strOk_of fun c hc => ?_
  unfold reprText at hc
  simp only [Array.toList_push, List.mem_append, List.mem_singleton] at hc
  rcases hc with hc | rfl
  · rw [← Array.foldl_toList] at hc
    exact go _ _ hm (by simpa using hq) c hc
  · exact hq
theorem strOk_join {sep : Str} (hs : PyData.strOk sep = true) : ∀ (xs : List Str), (∀ x ∈ xs, PyData.strOk x = true) → PyData.strOk (Str.join sep xs) = true
  | [], _ => by exact strOk_of fun c hc => by cases hc
  | [x], h => by
    show PyData.strOk x = true
    exact h x List.mem_cons_self
  | x :: y :: r, h => by
    show PyData.strOk (x ++ sep ++ Str.join sep (y :: r)) = true
    exact strOk_append (strOk_append (h x List.mem_cons_self) hs) (strOk_join hs (y :: r) fun z hz => h z (List.mem_cons_of_mem _ hz))
theorem strOk_from : ∀ (ts : List Str) (k : Nat) (acc : Str), PyData.strOk acc = true → (∀ x ∈ ts, PyData.strOk x = true) → PyData.strOk (textFrom k acc ts) = true
  | [], _, _, h, _ => h
  | t :: r, k, acc, h, ht => by
    show PyData.strOk (textFrom (k + 1) (acc ++ (if k > 0 then ", " else "" : String) ++ t) r) = true
    refine strOk_from r _ _ (strOk_append (strOk_append h ?_) (ht t List.mem_cons_self)) fun z hz => ht z (List.mem_cons_of_mem _ hz)
    exact strOk_string _
theorem strOk_list {ts : List Str} (h : ∀ x ∈ ts, PyData.strOk x = true) : PyData.strOk (listText ts) = true := strOk_append (strOk_from ts 0 _ (strOk_string _) h) (strOk_string _)
theorem strOk_tuple {ts : List Str} (h : ∀ x ∈ ts, PyData.strOk x = true) : PyData.strOk (tupleText ts) = true := strOk_append (strOk_append (strOk_string _) (strOk_join (strOk_string _) ts h)) (strOk_string _)
theorem strOk_dict {ts : List Str} (h : ∀ x ∈ ts, PyData.strOk x = true) : PyData.strOk (dictText ts) = true := strOk_append (strOk_append (strOk_string _) (strOk_join (strOk_string _) ts h)) (strOk_string _)
mutual
/-- the texts within are in order -/
def okD : D → Bool
  | .str x => PyData.strOk x
  | .tup xs | .lst xs => okDs xs
  | .dct kvs => okKV kvs
  | _ => true
def okDs : List D → Bool
  | [] => true
  | x :: xs => okD x && okDs xs
def okKV : List (D × D) → Bool
  | [] => true
  | (a, b) :: r => okD a && okD b && okKV r
end
mutual
theorem strOk_shown : ∀ x : D, okD x = true → PyData.strOk (py x).shown = true
  | .non, _ => by simp only [py, PyData.shown]; exact strOk_string _
  | .bl b, _ => by simp only [py, PyData.shown]; cases b <;> exact strOk_string _
  | .int i, _ => by simp only [py, PyData.shown]; exact strOk_string _
  | .str x, h => by simp only [okD] at h; simp only [py, PyData.shown]; exact strOk_repr h
  | .tup xs, h => by simp only [okD] at h; simp only [py, PyData.shown]; exact strOk_tuple (strOk_shownAll xs h)
  | .lst xs, h => by simp only [okD] at h; simp only [py, PyData.shown]; exact strOk_list (strOk_shownAll xs h)
  | .dct kvs, h => by simp only [okD] at h; simp only [py, PyData.shown]; exact strOk_dict (strOk_shownKv kvs h)
  | .obj _ _, _ => by simp only [py, PyData.shown]; exact strOk_string _
  | .oth _, _ => by simp only [py, PyData.shown]; exact strOk_string _
  | .scr _, _ => by simp only [py, PyData.shown]; exact strOk_string _
theorem strOk_shownAll : ∀ xs : List D, okDs xs = true → ∀ y ∈ PyData.shownAll (pys xs), PyData.strOk y = true
  | [], _, y, hy => by simp [pys, PyData.shownAll] at hy
  | x :: xs, h, y, hy => by
    simp only [okDs, Bool.and_eq_true] at h
    simp only [pys, PyData.shownAll, List.mem_cons] at hy
    rcases hy with rfl | hy
    · exact strOk_shown x h.1
    · exact strOk_shownAll xs h.2 y hy
theorem strOk_shownKv : ∀ xs : List (D × D), okKV xs = true → ∀ y ∈ PyData.shownKv (pyKV xs), PyData.strOk y = true
  | [], _, y, hy => by simp [pyKV, PyData.shownKv] at hy
  | (a, b) :: xs, h, y, hy => by
    simp only [okKV, Bool.and_eq_true] at h
    simp only [pyKV, PyData.shownKv, List.mem_cons] at hy
    rcases hy with rfl | hy
    · exact strOk_append (strOk_append (strOk_shown a h.1.1) (strOk_string _)) (strOk_shown b h.1.2)
    · exact strOk_shownKv xs h.2 y hy
end
section
variable {G : Gam} {F : Hp}
mutual
theorem Rep.okD : ∀ (x : D) (v : V), Rep G F x v → okD x = true
  | .non, v, _ | .bl _, v, _ | .int _, v, _ | .obj _ _, v, _ | .oth _, v, _ | .scr _, v, _ => by simp [DL.okD]
  | .str x, v, h => by simp only [Rep] at h; simp only [DL.okD]; exact h.2
  | .tup xs, v, h => by simp only [Rep] at h; obtain ⟨a, vs, _, _, h2⟩ := h; simp only [DL.okD]; exact Reps.okD xs vs h2
  | .lst xs, v, h => by simp only [Rep] at h; obtain ⟨a, vs, _, _, h2⟩ := h; simp only [DL.okD]; exact Reps.okD xs vs h2
  | .dct kvs, v, h => by simp only [Rep] at h; obtain ⟨a, o, ks, ps, _, _, _, h2⟩ := h; simp only [DL.okD]; exact RepKV.okD kvs ks ps h2
theorem Reps.okD : ∀ (xs : List D) (vs : List V), Reps G F xs vs → okDs xs = true
  | [], _, _ => by simp [okDs]
  | x :: xs, vs, h => by
    simp only [Reps] at h
    obtain ⟨v, r, rfl, h1, h2⟩ := h
    simp only [okDs, Bool.and_eq_true]
    exact ⟨Rep.okD x v h1, Reps.okD xs r h2⟩
theorem RepKV.okD : ∀ (xs : List (D × D)) (ks : List NestedKey) (ps : List (V × V)), RepKV G F xs ks ps → okKV xs = true
  | [], _, _, _ => by simp [okKV]
  | (a, b) :: xs, ks, ps, h => by
    simp only [RepKV] at h
    obtain ⟨k, p, kr, pr, rfl, rfl, _, h1, h2, h3⟩ := h
    simp only [okKV, Bool.and_eq_true]
    exact ⟨⟨Rep.okD a _ h1, Rep.okD b _ h2⟩, RepKV.okD xs kr pr h3⟩
end
theorem Top.okD {H : Hp} (x : D) (v : V) (h : Top G F H x v) : okD x = true := by
  cases x with
  | tup xs => obtain ⟨a, vs, _, _, h2⟩ := h; simp only [DL.okD]; exact Reps.okD xs vs h2
  | lst xs => obtain ⟨a, vs, _, _, h2⟩ := h; simp only [DL.okD]; exact Reps.okD xs vs h2
  | dct kvs => obtain ⟨a, o, ks, ps, _, _, _, h2⟩ := h; simp only [DL.okD]; exact RepKV.okD kvs ks ps h2
  | str x => exact Rep.okD (G := G) (F := F) _ v h
  | _ => simp [DL.okD]
end
def oEq (neg : Bool) : Op2 := fun a b cs Q => match look a cs, look b cs with
  | some x, some y => isFl x = true ∧ isFl y = true ∧ min (py x).depth (py y).depth ≤ 60 ∧ Q (.d (.bl (neg ^^ PyData.eqv (py x) (py y)))) cs
  | _, _ => False
def oIn (neg : Bool) : Op2 := fun a b cs Q => match look a cs, look b cs with
  | some x, some (.lst ys) => isFl x = true ∧ isFls ys = true ∧ min (PyData.depthAll (pys ys)) (py x).depth ≤ 60 ∧ Q (.d (.bl (neg ^^ ((pys ys).any fun y => PyData.eqv y (py x))))) cs
  | some x, some (.tup ys) => isFl x = true ∧ isFls ys = true ∧ min (PyData.depthAll (pys ys)) (py x).depth ≤ 60 ∧ Q (.d (.bl (neg ^^ ((pys ys).any fun y => PyData.eqv y (py x))))) cs
  | _, _ => False
section
variable {X : Cx} {G : Gam}
theorem fin_same {pins : List (Addr × Obj)} {s : Shared} {σ : L2.St} {H : Hp} {Q : VK} {b : Bool} (I : Inv X pins σ H s) (h : Q (.bl b) H) : EP X pins σ Q (.bool b) s := ⟨.bl b, H, I, rfl, h⟩
theorem o_eq (hK : X.K = G.K) (hu : X.A.units + 64 < cLine) : OpR X (compareOp .Eq) (upR G (oEq false)) := by
  intro pins s σ H x y v u Q I rx ry h
  obtain ⟨F, ι, cs, wx, wy, Q0, S, r1, r2, o, hq⟩ := h
  unfold oEq at o
  split at o
  · rename_i a b l1 l2
    obtain ⟨p1, p2, p3, o⟩ := o
    have t1 := look_top S r1 l1
    have t2 := look_top S r2 l2
    obtain ⟨as, q1, _⟩ := Top.reads S.same I hK a _ _ t1 (isPy_of a p1) rx
    obtain ⟨bs, q2, _⟩ := Top.reads S.same I hK b _ _ t2 (isPy_of b p2) ry
    exact SeqAt.compareEq_reads q1 q2 (Top.lay a _ t1 p1) (Top.lay b _ t2 p2) (by omega) (fin_same I (hq _ _ _ _ _ _ .refl S rep_bl (by simpa using o)))
  · cases o
theorem o_ne (hK : X.K = G.K) (hu : X.A.units + 64 < cLine) : OpR X (compareOp .NotEq) (upR G (oEq true)) := by
  intro pins s σ H x y v u Q I rx ry h
  obtain ⟨F, ι, cs, wx, wy, Q0, S, r1, r2, o, hq⟩ := h
  unfold oEq at o
  split at o
  · rename_i a b l1 l2
    obtain ⟨p1, p2, p3, o⟩ := o
    have t1 := look_top S r1 l1
    have t2 := look_top S r2 l2
    obtain ⟨as, q1, _⟩ := Top.reads S.same I hK a _ _ t1 (isPy_of a p1) rx
    obtain ⟨bs, q2, _⟩ := Top.reads S.same I hK b _ _ t2 (isPy_of b p2) ry
    exact SeqAt.compareNe_reads q1 q2 (Top.lay a _ t1 p1) (Top.lay b _ t2 p2) (by omega) (fin_same I (hq _ _ _ _ _ _ .refl S rep_bl (by simpa using o)))
  · cases o
theorem top_lst_lay {F H : Hp} {ys : List D} {v : V} (h : Top G F H (.lst ys) v) (p : isFls ys = true) : PyData.canLayAll0 (pys ys) = true := by
  have := Top.lay (.lst ys) v h (by simp only [isFl]; exact p)
  simpa [py, PyData.canLay0] using this
theorem top_tup_lay {F H : Hp} {ys : List D} {v : V} (h : Top G F H (.tup ys) v) (p : isFls ys = true) : PyData.canLayAll0 (pys ys) = true := by
  have := Top.lay (.tup ys) v h (by simp only [isFl]; exact p)
  simpa [py, PyData.canLay0] using this
theorem o_inSeq (hK : X.K = G.K) (hu : X.A.units + 64 < cLine) : OpR X (compareOp .In) (upR G (oIn false)) := by
  intro pins s σ H x y v u Q I rx ry h
  obtain ⟨F, ι, cs, wx, wy, Q0, S, r1, r2, o, hq⟩ := h
  unfold oIn at o
  split at o
  · rename_i a ys l1 l2
    obtain ⟨p1, p2, p3, o⟩ := o
    have t1 := look_top S r1 l1
    have t2 := look_top S r2 l2
    obtain ⟨as, q1, _⟩ := Top.reads S.same I hK a _ _ t1 (isPy_of a p1) rx
    obtain ⟨bs, q2, _⟩ := Top.reads S.same I hK (.lst ys) _ _ t2 (isPy_of (.lst ys) (by simp only [isFl]; exact p2)) ry
    simp only [py] at q2
    exact SeqAt.in_list_reads q2 q1 (top_lst_lay t2 p2) (Top.lay a _ t1 p1) (by omega) (fin_same I (hq _ _ _ _ _ _ .refl S rep_bl (by simpa using o)))
  · rename_i a ys l1 l2
    obtain ⟨p1, p2, p3, o⟩ := o
    have t1 := look_top S r1 l1
    have t2 := look_top S r2 l2
    obtain ⟨as, q1, _⟩ := Top.reads S.same I hK a _ _ t1 (isPy_of a p1) rx
    obtain ⟨bs, q2, _⟩ := Top.reads S.same I hK (.tup ys) _ _ t2 (isPy_of (.tup ys) (by simp only [isFl]; exact p2)) ry
    simp only [py] at q2
    exact SeqAt.in_tuple_reads q2 q1 (top_tup_lay t2 p2) (Top.lay a _ t1 p1) (by omega) (fin_same I (hq _ _ _ _ _ _ .refl S rep_bl (by simpa using o)))
  · cases o
theorem o_notInSeq (hK : X.K = G.K) (hu : X.A.units + 64 < cLine) : OpR X (compareOp .NotIn) (upR G (oIn true)) := by
  intro pins s σ H x y v u Q I rx ry h
  obtain ⟨F, ι, cs, wx, wy, Q0, S, r1, r2, o, hq⟩ := h
  unfold oIn at o
  split at o
  · rename_i a ys l1 l2
    obtain ⟨p1, p2, p3, o⟩ := o
    have t1 := look_top S r1 l1
    have t2 := look_top S r2 l2
    obtain ⟨as, q1, _⟩ := Top.reads S.same I hK a _ _ t1 (isPy_of a p1) rx
    obtain ⟨bs, q2, _⟩ := Top.reads S.same I hK (.lst ys) _ _ t2 (isPy_of (.lst ys) (by simp only [isFl]; exact p2)) ry
    simp only [py] at q2
    exact SeqAt.notIn_list_reads q2 q1 (top_lst_lay t2 p2) (Top.lay a _ t1 p1) (by omega) (fin_same I (hq _ _ _ _ _ _ .refl S rep_bl (by simpa using o)))
  · rename_i a ys l1 l2
    obtain ⟨p1, p2, p3, o⟩ := o
    have t1 := look_top S r1 l1
    have t2 := look_top S r2 l2
    obtain ⟨as, q1, _⟩ := Top.reads S.same I hK a _ _ t1 (isPy_of a p1) rx
    obtain ⟨bs, q2, _⟩ := Top.reads S.same I hK (.tup ys) _ _ t2 (isPy_of (.tup ys) (by simp only [isFl]; exact p2)) ry
    simp only [py] at q2
    exact SeqAt.notIn_tuple_reads q2 q1 (top_tup_lay t2 p2) (Top.lay a _ t1 p1) (by omega) (fin_same I (hq _ _ _ _ _ _ .refl S rep_bl (by simpa using o)))
  · cases o
def oRepr : OpN := fun ws cs Q => match ws with
  | [w] => (match look w cs with
    | some x => isPy x = true ∧ (py x).showable = true ∧ (py x).depth ≤ 60 ∧ (py x).shown.length ≤ sizeLine ∧ Q (.d (.str (py x).shown)) cs
    | _ => False)
  | _ => False
theorem c_repr (hK : X.K = G.K) (hu : X.A.units + 64 < cLine) (hg : X.A.guards = some []) (hm : (X.base.get? sysModules).isSome = true) : CallR X (.builtin "repr") (upRN G oRepr) := by
  intro pins s σ H xs us Q I r h
  obtain ⟨F, ι, cs, ws, Q0, S, rw0, o, hq⟩ := h
  unfold oRepr at o
  split at o
  · obtain ⟨v, rfl, r0⟩ := pair1 rw0
    cases r with
    | @cons _ u _ us' ru rt =>
    cases rt
    split at o
    · rename_i x l
      obtain ⟨p1, p2, p3, p4, o⟩ := o
      have t1 := look_top S r0 l
      obtain ⟨as, q1, ap⟩ := Top.reads S.same I hK x _ _ t1 p1 ru
      have fin : ∀ (h' : Heap) (t : Tok) (tk : Nat), (∀ b o, s.heap.get? b = some o → h'.get? b = some o) → EP X pins σ Q (.str (py x).shown t) { s with heap := h', toks := tk } := fun h' t tk k =>
        ⟨.str (py x).shown, H, I.kept k, ⟨t, rfl⟩, hq _ _ _ _ _ _ .refl S (rep_str (strOk_shown x (Top.okD x _ t1))) o⟩
      cases x with
      | tup xs =>
        obtain ⟨a, _, rfl, _⟩ := t1
        cases (show u = Value.ref a from ru)
        exact repr_of_reads' q1 p2 (fun _ => ap hm) hg (by omega) (fun _ _ e => e) fin p4
      | lst xs =>
        obtain ⟨a, _, rfl, _⟩ := t1
        cases (show u = Value.ref a from ru)
        exact repr_of_reads' q1 p2 (fun _ => ap hm) hg (by omega) (fun _ _ e => e) fin p4
      | dct xs =>
        obtain ⟨a, _, _, _, rfl, _⟩ := t1
        cases (show u = Value.ref a from ru)
        exact repr_of_reads' q1 p2 (fun _ => ap hm) hg (by omega) (fun _ _ e => e) fin p4
      | non =>
        simp only [py] at q1
        cases q1
        exact PySem.P.repr_of_none (fin s.heap _ _ fun _ _ e => e)
      | bl b =>
        simp only [py] at q1
        cases q1
        exact PySem.P.repr_of_bool (fin s.heap _ _ fun _ _ e => e)
      | int i =>
        simp only [py] at q1
        cases q1
        simp only [py, PyData.showable, decide_eq_true_eq] at p2
        exact PySem.P.repr_of_int p2 (fin s.heap _ _ fun _ _ e => e)
      | str z =>
        simp only [py] at q1
        cases q1
        exact PySem.P.repr_of_str (fin s.heap _ _ fun _ _ e => e) p4
      | _ => simp [isPy] at p1
    · cases o
  · cases o
def tag : D → String
  | .non => "NoneType"
  | .bl _ => "bool"
  | .int _ => "int"
  | .str _ => "str"
  | .tup _ => "tuple"
  | .lst _ | .scr _ => "list"
  | .dct _ => "dict"
  | _ => ""
def tags : List String := ["NoneType", "bool", "int", "str", "tuple", "list", "dict"]
def isTy (x : D) (b : String) : Bool := tag x == b || (tag x == "bool" && b == "int")
theorem kitB_tab : ∀ a ∈ tags, ∀ b ∈ tags, kitB a b = some (a == b || (a == "bool" && b == "int")) := by decide +kernel
def isTag : D → Bool
  | .obj _ _ | .oth _ => false
  | _ => true
theorem tag_in {x : D} (h : isTag x = true) : tag x ∈ tags := by
  cases x <;> first | (simp [isTag] at h; done) | simp [tag, tags]
theorem Top.kit {F H : Hp} {pins : List (Addr × Obj)} {σ : L2.St} {s : Shared} (I : Inv X pins σ H s) (hK : X.K = G.K) {x : D} {v : V} {u : Value} (h : Top G F H x v) (ht : isTag x = true) (r : RelV v u) :
    ∃ P : Heap → Prop, PySem.W.KitX X.K u (.type (tag x)) P ∧ P s.heap ∧ u ≠ .builtin "__main__.__loader__#opaque" := by
  cases x with
  | non =>
    have h : Rep G F .non v := h
    simp only [Rep] at h; subst h
    cases (show u = Value.none from r); exact ⟨_, PySem.W.kitx_none, True.intro, fun z => nomatch z⟩
  | bl b =>
    have h : Rep G F (.bl b) v := h
    simp only [Rep] at h; subst h
    cases (show u = Value.bool b from r); exact ⟨_, PySem.W.kitx_bool, True.intro, fun z => nomatch z⟩
  | int i =>
    have h : Rep G F (.int i) v := h
    simp only [Rep] at h; subst h
    obtain ⟨t, q⟩ := (show ∃ t, u = Value.int i t from r); cases q; exact ⟨_, PySem.W.kitx_int, True.intro, fun z => nomatch z⟩
  | str y =>
    have h : Rep G F (.str y) v := h
    simp only [Rep] at h; obtain ⟨rfl, _⟩ := h
    obtain ⟨t, q⟩ := (show ∃ t, u = Value.str y t from r); cases q; exact ⟨_, PySem.W.kitx_str, True.intro, fun z => nomatch z⟩
  | tup xs =>
    obtain ⟨a, vs, rfl, h1, h2⟩ := h
    cases (show u = Value.ref a from r)
    obtain ⟨its, rv, ⟨o, ho, hc, n, hd⟩, _⟩ := I.tuple (hK ▸ h1.sq)
    exact ⟨_, PySem.W.kitx_tuple, ⟨o, ho, hc⟩, fun z => nomatch z⟩
  | lst xs =>
    obtain ⟨a, vs, rfl, h1, h2⟩ := h
    cases (show u = Value.ref a from r)
    obtain ⟨its, rv, ⟨o, n, ho, hc, _, hd⟩, _⟩ := I.list (SqL.of h1)
    exact ⟨_, PySem.W.kitx_list, ⟨o, ho, hc⟩, fun z => nomatch z⟩
  | scr xs =>
    obtain ⟨a, rfl, h1⟩ := h
    cases (show u = Value.ref a from r)
    obtain ⟨its, rv, ⟨o, n, ho, hc, _, hd⟩, _⟩ := I.list (hK ▸ h1)
    exact ⟨_, PySem.W.kitx_list, ⟨o, ho, hc⟩, fun z => nomatch z⟩
  | dct kvs =>
    obtain ⟨a, o, ks, ps, rfl, h1, h2, h3⟩ := h
    cases (show u = Value.ref a from r)
    exact ⟨_, PySem.W.kitx_dict, ⟨o, DcAt.get I hK h1, h2.ex.1⟩, fun z => nomatch z⟩
  | _ => simp [isTag] at ht
def oIsi : OpN := fun ws cs Q => match ws with
  | [w, .d (.oth (.ty b))] => (match look w cs with
    | some x => isTag x = true ∧ b ∈ tags ∧ Q (.d (.bl (isTy x b))) cs
    | _ => False)
  | _ => False
theorem c_isi (hK : X.K = G.K) : CallR X (.builtin "isinstance") (upRN G oIsi) := by
  intro pins s σ H xs us Q I r h
  obtain ⟨F, ι, cs, ws, Q0, S, rw0, o, hq⟩ := h
  unfold oIsi at o
  split at o
  · rename_i w b
    obtain ⟨v, u, rfl, r0, r1⟩ := pair2 rw0
    obtain ⟨u1, u2, rfl, q1, q2⟩ := vals2 r
    split at o
    · rename_i x l
      obtain ⟨p1, p2, o⟩ := o
      have r1 : Rep G F (.oth (.ty b)) u := r1
      simp only [Rep] at r1
      subst r1
      have q2 : u2 = .type b := q2
      subst q2
      obtain ⟨P, Z, p, hx⟩ := Top.kit I hK (look_top S r0 l) p1 q1
      refine PySem.W.kia_one Z I.kIn p (kit_ty (kitB_tab _ (tag_in p1) _ p2)) hx fun tk => ⟨.bl _, H, I.tok tk, rfl, hq _ _ _ _ _ _ .refl S rep_bl o⟩
    · cases o
  · cases o
end
end DL
namespace DL
open PySem PySem.Spec L2
def oIx : Op2 := fun a b cs Q => match look b cs with
  | some (.int i) => (match look a cs with
    | some (.lst xs) => (match atI xs i with
      | some x => Q (.d x) cs
      | none => False)
    | some (.tup xs) => (match atI xs i with
      | some x => Q (.d x) cs
      | none => False)
    | some (.scr xs) => (match atI xs i with
      | some x => Q (.d (.int x)) cs
      | none => False)
    | some (.str z) => z.length ≤ sizeLine ∧ (match atI z.cps.toList i with
      | some c => Q (.d (.str ⟨#[c]⟩)) cs
      | none => False)
    | _ => False)
  | _ => False
section
variable {X : Cx} {G : Gam} {F : Hp}
theorem Reps.len {xs : List D} {vs : List V} (h : Reps G F xs vs) : xs.length = vs.length := h.length.symm
theorem Reps.at_ : ∀ {xs : List D} {vs : List V} {i : Nat} {x : D}, Reps G F xs vs → xs[i]? = some x → ∃ v, vs[i]? = some v ∧ Rep G F x v
  | [], _, i, x, _, e => by simp at e
  | y :: ys, vs, i, x, h, e => by
    simp only [Reps] at h
    obtain ⟨v, r, rfl, h1, h2⟩ := h
    cases i with
    | zero => simp at e; subst e; exact ⟨v, rfl, h1⟩
    | succ i => simpa using Reps.at_ h2 (by simpa using e)
theorem atI_rep {xs : List D} {vs : List V} {i : Int} {x : D} (h : Reps G F xs vs) (e : atI xs i = some x) : ∃ v, atI vs i = some v ∧ Rep G F x v := by
  unfold atI at e ⊢
  rw [← h.len]
  cases q : ixN xs.length i with
  | none => rw [q] at e; cases e
  | some j =>
    rw [q] at e
    exact Reps.at_ h e
theorem x_ix (hK : X.K = G.K) : IxR X (upR G oIx) := IxR.imp ix_seq fun x y H Q q => by
  obtain ⟨F, ι, cs, wx, wy, Q0, S, r1, r2, o, hq⟩ := q
  unfold oIx at o
  split at o
  · rename_i i l2
    have e2 := look_int S r2 l2
    subst e2
    split at o
    · rename_i xs l1
      obtain ⟨a, vs, rfl, h1, p1⟩ := look_lst S r1 l1
      split at o
      · rename_i x e
        obtain ⟨v, e1, rv⟩ := atI_rep p1 e
        exact .inl ⟨a, vs, i, v, rfl, rfl, SqL.of h1, e1, hq _ _ _ (.d x) _ _ .refl S rv o⟩
      · cases o
    · rename_i xs l1
      obtain ⟨a, vs, rfl, h1, _, p1⟩ := look_tup' S r1 l1
      split at o
      · rename_i x e
        obtain ⟨v, e1, rv⟩ := atI_rep p1 e
        exact .inr (.inl ⟨a, vs, i, v, rfl, rfl, hK ▸ h1, e1, hq _ _ _ (.d x) _ _ .refl S rv o⟩)
      · cases o
    · rename_i xs l1
      obtain ⟨a, rfl, h1⟩ := look_top S r1 l1
      split at o
      · rename_i x e
        refine .inl ⟨a, _, i, .int x, rfl, rfl, hK ▸ h1, ?_, hq _ _ _ _ _ _ .refl S rep_int o⟩
        unfold atI at e ⊢
        rw [List.length_map]
        cases q : ixN xs.length i with
        | none => rw [q] at e; cases e
        | some j =>
          rw [q] at e
          have e : xs[j]? = some x := e
          show (xs.map V.int)[j]? = _
          rw [List.getElem?_map, e]
          rfl
      · cases o
    · rename_i z l1
      obtain ⟨rfl, k⟩ := look_str S r1 l1
      obtain ⟨o1, o⟩ := o
      split at o
      · rename_i c e
        refine .inr (.inr ⟨z, i, c, rfl, rfl, o1, e, hq _ _ _ _ _ _ .refl S (rep_str ?_) o⟩)
        refine strOk_of fun d hd => ?_
        simp at hd
        subst hd
        unfold atI at e
        cases q : ixN z.cps.toList.length i with
        | none => rw [q] at e; cases e
        | some j =>
          rw [q] at e
          exact strOk_mem k _ (List.mem_of_getElem? e)
      · cases o
    · cases o
  · cases o
end
abbrev DP := Nv → Cs → (Option Int → Cs → Prop) → DX → Prop
def upO (G : Gam) (Wx : WX) (t : DP) : TO := fun σ H Q => ∃ F ι env cs Q0 E0, Sim G F ι cs H ∧ RepEnv G F ι env σ ∧ t env cs Q0 E0 ∧
  (∀ F' ι' cs' b H', Ext F F' ι ι' → Sim G F' ι' cs' H' → Q0 b cs' → Q b H') ∧
  ∀ F' ι' cs' x cls od H', Ext F F' ι ι' → Sim G F' ι' cs' H' → RepX G F' x cls od H' → E0 x cs' → Wx cls od σ H'
def DPo (X : Cx) (G : Gam) (Wx : WX) (e : Option Expr) (t : DP) : Prop := PO X e (upO G Wx t)
def dNoP : DP := fun _ cs Q _ => Q none cs
def dP (t : DT) : DP := fun env cs Q E => t env cs (fun w cs1 => match w with
  | .d (.int i) => Q (some i) cs1
  | _ => False) E
theorem PO.imp {X : Cx} {e : Option Expr} {t u : TO} (h : PO X e t) (f : ∀ σ H Q, u σ H Q → t σ H Q) : PO X e u := ⟨fun pins s σ H Q I q => h.run pins s σ H Q I (f σ H Q q)⟩
def cutD {α : Type} (xs : List α) (lo hi : Option Int) : List α := (xs.drop (HT.sIx xs.length 0 lo)).take (HT.sIx xs.length xs.length hi - HT.sIx xs.length 0 lo)
def oSl (w : W) (lo hi : Option Int) (cs : Cs) (Q : DQ) : Prop := match look w cs with
  | some (.str z) => z.length ≤ sizeLine ∧ Q (.d (.str (cutS z lo hi))) cs
  | some (.tup xs) => Q (.d (.tup (cutD xs lo hi))) cs
  | some (.lst xs) => Q (.c cs.length) (cs ++ [.lst (cutD xs lo hi)])
  | _ => False
def dSl (te : DT) (tl th : DP) : DT := fun env cs Q E => te env cs (fun w cs1 => tl env cs1 (fun l cs2 => th env cs2 (fun h cs3 => oSl w l h cs3 Q) E) E) E
section
variable {X : Cx} {G : Gam} {Wx : WX} {F : Hp}
theorem p_none : DPo X G Wx none dNoP := PO.imp po_none fun σ H Q h => by
  obtain ⟨F, ι, env, cs, Q0, E0, S, R, t, hq, hE⟩ := h
  exact hq F ι cs none H .refl S t
theorem p_some {e : Expr} {te : DT} (h : DE X G Wx e te) : DPo X G Wx (some e) (dP te) := PO.imp (po_some h) fun σ H Q h => by
  obtain ⟨F, ι, env, cs, Q0, E0, S, R, t, hq, hE⟩ := h
  refine ⟨F, ι, env, cs, _, E0, S, R, t, fun F1 ι1 cs1 w v H1 e1 S1 r1 q1 => ?_, hE⟩
  split at q1
  · rename_i i
    have r1 : Rep G F1 (.int i) v := r1
    simp only [Rep] at r1
    exact ⟨i, r1, hq F1 ι1 cs1 _ H1 e1 S1 q1⟩
  · cases q1
theorem Reps.drop : ∀ {xs : List D} {vs : List V} (n : Nat), Reps G F xs vs → Reps G F (xs.drop n) (vs.drop n)
  | xs, vs, 0, h => by simpa using h
  | [], vs, n + 1, h => by simp only [Reps] at h; subst h; simp [Reps]
  | x :: xs, vs, n + 1, h => by
    simp only [Reps] at h
    obtain ⟨v, r, rfl, h1, h2⟩ := h
    simpa using Reps.drop n h2
theorem Reps.take : ∀ {xs : List D} {vs : List V} (n : Nat), Reps G F xs vs → Reps G F (xs.take n) (vs.take n)
  | xs, vs, 0, h => by simp [Reps]
  | [], vs, n + 1, h => by simp only [Reps] at h; subst h; simp [Reps]
  | x :: xs, vs, n + 1, h => by
    simp only [Reps] at h
    obtain ⟨v, r, rfl, h1, h2⟩ := h
    simp only [List.take_succ_cons, Reps]
    exact ⟨v, _, rfl, h1, Reps.take n h2⟩
theorem Reps.cut {xs : List D} {vs : List V} {lo hi : Option Int} (h : Reps G F xs vs) : Reps G F (cutD xs lo hi) (cutV vs lo hi) := by
  unfold cutD cutV
  rw [← h.len]
  exact (h.drop _).take _
theorem strOk_cut {z : Str} {lo hi : Option Int} (h : PyData.strOk z = true) : PyData.strOk (cutS z lo hi) = true := strOk_of fun c hc => by
  unfold cutS at hc
  simp only at hc
  exact strOk_mem h c (List.mem_of_mem_drop (List.mem_of_mem_take (by simpa using hc)))
def upSl (G : Gam) : V → Option Int → Option Int → Hp → VK → Prop := fun x lo hi H Q => ∃ F ι cs w Q0, Sim G F ι cs H ∧ RepW G F ι w x ∧ oSl w lo hi cs Q0 ∧
  ∀ F' ι' cs' w v H', Ext F F' ι ι' → Sim G F' ι' cs' H' → RepW G F' ι' w v → Q0 w cs' → Q v H'
theorem SlR.imp {r r' : V → Option Int → Option Int → Hp → VK → Prop} (h : SlR X r) (i : ∀ x lo hi H Q, r' x lo hi H Q → r x lo hi H Q) : SlR X r' := fun pins s σ H x v vl vu lo hi sl Q I rx hs pl pu q =>
  h pins s σ H x v vl vu lo hi sl Q I rx hs pl pu (i _ _ _ _ _ q)
theorem x_slT (hK : X.K = G.K) {pins : List (Addr × Obj)} {s : Shared} {σ : L2.St} {H : Hp} {x : V} {v vl vu : Value} {lo hi : Option Int} {sl : Addr} {Q : VK} {ι : Pl} {cs : Cs} {w : W} {Q0 : DQ} {xs : List D} (I : Inv X pins σ H s) (rx : RelV x v) (hs : s.heap.IsSliceOf sl vl vu .none)
    (pl : IsPart vl lo) (pu : IsPart vu hi) (S : Sim G F ι cs H) (r : RepW G F ι w x) (l : look w cs = some (.tup xs)) (o : Q0 (.d (.tup (cutD xs lo hi))) cs)
    (hq : ∀ F' ι' cs' w v H', Ext F F' ι ι' → Sim G F' ι' cs' H' → RepW G F' ι' w v → Q0 w cs' → Q v H') :
    ∃ T id, typeLookup (.type T) "__getitem__" = pure (some (.builtin id)) ∧ s.TypeIs v T ∧ wpAny (model X.prog X.w) X.A (getItem v (.ref sl)) (EP X pins σ Q) X.xe s := by
  obtain ⟨a, vs, rfl, f1, p1⟩ := look_tupP S r l
  cases (show v = Value.ref a from rx)
  obtain ⟨its, rv, ht, hz⟩ := I.tuple (hK ▸ SqT.mono S.same f1.sq)
  have n1 : its.toArray.size = xs.length := by rw [List.size_toArray, ← rv.length, p1.len]
  refine ⟨"tuple", _, PyProof.Rows.slot_tuple_getitem.lookup, ht.typeIs, ?_⟩
  by_cases hw : HT.sIx xs.length 0 lo = 0 ∧ HT.sIx xs.length xs.length hi = xs.length
  · have hc : cutD xs lo hi = xs := by
      unfold cutD
      rw [hw.1, hw.2]
      simp
    rw [hc] at o
    exact getItem_tuple_whole ht hs pl pu (by rw [n1]; exact hw) ⟨.ref a, H, I, rfl, hq _ _ _ (.d (.tup xs)) _ _ .refl S (by simp only [RepW, Rep]; exact ⟨a, vs, rfl, f1, p1⟩) o⟩
  · have hv : cutV vs lo hi = (vs.drop (HT.sIx xs.length 0 lo)).take (HT.sIx xs.length xs.length hi - HT.sIx xs.length 0 lo) := by unfold cutV; rw [← p1.len]
    have rc : Vals (cutV vs lo hi) ((its.drop (HT.sIx xs.length 0 lo)).take (HT.sIx xs.length xs.length hi - HT.sIx xs.length 0 lo)) := by
      rw [hv]; exact (rv.drop _).take _
    have I2 := tup_laid (tk := s.toks) I rc (Nat.le_trans (cutV_length vs lo hi) hz)
    obtain ⟨e3, S3⟩ := S.fixed (o := .frz (tupO ((its.drop (HT.sIx xs.length 0 lo)).take (HT.sIx xs.length xs.length hi - HT.sIx xs.length 0 lo))) (.tup (cutV vs lo hi))) (I.hok.fresh (Nat.le_refl s.heap.objs.size))
    refine HT.getItem_tuple_cut ht hs pl pu (by rw [n1]; exact hw) ?_ (by rw [List.size_toArray, ← rv.length]; exact hz)
    rw [n1]
    exact ⟨.ref s.heap.objs.size, _, I2, rfl, hq _ _ _ (.d (.tup (cutD xs lo hi))) _ _ e3 S3 (tup_rep upd_same rfl (Reps.mono e3.same _ _ p1.cut)) o⟩
theorem x_sl (hK : X.K = G.K) : SlR X (upSl G) := fun pins s σ H x v vl vu lo hi sl Q I rx hs pl pu q => by
  obtain ⟨F, ι, cs, w, Q0, S, r, o, hq⟩ := q
  unfold oSl at o
  split at o
  · rename_i z l
    obtain ⟨rfl, k⟩ := look_str S r l
    exact sl_str pins s σ H _ v vl vu lo hi sl Q I rx hs pl pu ⟨z, rfl, o.1, hq _ _ _ _ _ _ .refl S (rep_str (strOk_cut k)) o.2⟩
  · rename_i xs l
    exact x_slT hK I rx hs pl pu S r l o hq
  · rename_i xs l
    obtain ⟨a, vs, rfl, h1, p1⟩ := look_lst S r l
    refine sl_list pins s σ H _ v vl vu lo hi sl Q I rx hs pl pu ⟨a, vs, rfl, SqL.of h1, fun p hp => ?_⟩
    obtain ⟨e3, S3⟩ := S.owned (o := .lst (cutV vs lo hi)) (x := .lst (cutD xs lo hi)) hp fun ι' => ⟨S.dead hp, _, upd_same, p1.cut⟩
    exact hq _ _ _ (.c cs.length) _ _ e3 S3 ⟨p, by rw [← S.len]; simp [Pl.add], rfl⟩ o
  · cases o
theorem e_slice {e : Expr} {lo hi : Option Expr} {te : DT} {tl th : DP} {pos p2 : Pos} (hK : X.K = G.K) (he : DE X G Wx e te) (hl : DPo X G Wx lo tl) (hh : DPo X G Wx hi th) : DE X G Wx (.Subscript e (.Slice lo hi none p2) pos) (dSl te tl th) :=
  PE.imp (pe_slice (x_sl hK) he hl hh) fun σ H Q h => by
    obtain ⟨F, ι, env, cs, Q0, E0, S, R, t, hq, hE⟩ := h
    refine ⟨F, ι, env, cs, _, E0, S, R, t, fun F1 ι1 cs1 w v H1 e1 S1 r1 q1 => ?_, hE⟩
    refine ⟨F1, ι1, env, cs1, _, E0, S1, R.mono e1, q1, fun F2 ι2 cs2 l H2 e2 S2 q2 => ?_, fun F2 ι2 cs2 z cls od H2 e2 => hE F2 ι2 cs2 z cls od H2 (e1.trans e2)⟩
    refine ⟨F2, ι2, env, cs2, _, E0, S2, R.mono (e1.trans e2), q2, fun F3 ι3 cs3 l' H3 e3 S3 q3 => ?_, fun F3 ι3 cs3 z cls od H3 e3 => hE F3 ι3 cs3 z cls od H3 (e1.trans (e2.trans e3))⟩
    exact ⟨F3, ι3, cs3, w, Q0, S3, r1.mono (e2.trans e3), q3, fun F4 ι4 cs4 w' v' H4 e4 => hq F4 ι4 cs4 w' v' H4 (e1.trans (e2.trans (e3.trans e4)))⟩
end
abbrev OSet := W → W → W → Cs → (Cs → Prop) → Prop
def upSet (G : Gam) (o : OSet) : TSet := fun x i v H Q => ∃ F ι cs wx wi wv Q0, Sim G F ι cs H ∧ RepW G F ι wx x ∧ RepW G F ι wi i ∧ RepW G F ι wv v ∧ o wx wi wv cs Q0 ∧
  ∀ F' ι' cs' H', Ext F F' ι ι' → Sim G F' ι' cs' H' → Q0 cs' → Q H'
theorem PSet.imp {X : Cx} {t u : TSet} (h : PSet X t) (f : ∀ o i v H Q, u o i v H Q → t o i v H Q) : PSet X u := fun pins s σ H o i v ov iv w Q I r1 r2 r3 q => h pins s σ H o i v ov iv w Q I r1 r2 r3 (f _ _ _ _ _ q)
def oSetL : OSet := fun o i v cs Q => fixW v cs fun x cs1 => match o, look i cs1 with
  | .c n, some (.int k) => (match cs1[n]? with
    | some (.lst xs) => (match ixN xs.length k with
      | some j => Q (cs1.set n (.lst (xs.set j x)))
      | none => False)
    | _ => False)
  | _, _ => False
def dgSub (to ti : DT) (o : OSet) : DG := fun w env cs Q => to env cs (fun x cs1 => ti env cs1 (fun i cs2 => o x i w cs2 (Q env)) fun _ _ => False) fun _ _ => False
section
variable {X : Cx} {G : Gam} {Wx : WX} {F : Hp}
theorem Reps.set : ∀ {xs : List D} {vs : List V} {x : D} {v : V} (j : Nat), Reps G F xs vs → Rep G F x v → Reps G F (xs.set j x) (vs.set j v)
  | [], vs, x, v, j, h, r => by simp only [Reps] at h; subst h; simp [Reps]
  | y :: ys, vs, x, v, j, h, r => by
    simp only [Reps] at h
    obtain ⟨u, q, rfl, h1, h2⟩ := h
    cases j with
    | zero => simp only [List.set_cons_zero, Reps]; exact ⟨_, _, rfl, r, h2⟩
    | succ j => simp only [List.set_cons_succ, Reps]; exact ⟨_, _, rfl, h1, Reps.set j h2 r⟩
theorem st_list : PSet X (upSet G oSetL) := PSet.imp set_list fun o i v H Q q => by
  obtain ⟨F, ι, cs, wx, wi, wv, Q0, S, r1, r2, r3, o, hq⟩ := q
  obtain ⟨F1, cs1, x, e1, S1, rx, o⟩ := fixW_ok S r3 o
  split at o
  · rename_i n k l _
    have e2 := look_int S1 (r2.mono e1) l
    subst e2
    obtain ⟨a, ha, rfl⟩ := r1.mono e1
    split at o
    · rename_i xs lx
      split at o
      · rename_i j ej
        obtain ⟨a', h1, h2⟩ := S1.cell n _ lx
        rw [ha] at h1; cases h1
        obtain ⟨h3, vs, h4, h5⟩ := h2
        refine ⟨a, vs, k, j, rfl, rfl, h4, by rw [← h5.len]; exact ej, ?_⟩
        exact hq F1 ι _ _ e1 (S1.write (x := .lst (xs.set j x)) ha lx h3 ⟨h3, _, upd_same, h5.set j rx⟩) o
      · cases o
    · cases o
  · cases o
theorem g_sub {vs : List Nat} {o i : Expr} {to ti : DT} {os : OSet} {pos : Pos} (ho : DE X G WxF o to) (hi : DE X G WxF i ti) (hs : PSet X (upSet G os))
    (ha : ∀ v, assign (.Subscript o i pos) X.env v = (do
      let ov ← holding [v] (eval o X.env)
      let iv ← holding [v, ov] (eval i X.env)
      standAt pos
      holding [v, ov, iv] (setItem ov iv v)
      release [v, ov, iv] []) := by intro _; rfl) : DGt X G vs (.Subscript o i pos) (dgSub to ti os) :=
  PG.imp (pg_sub ho hi hs ha) fun v σ H Q h => by
    obtain ⟨F, ι, env, cs, w, Q0, S, R, r, t, hq⟩ := h
    refine ⟨F, ι, env, cs, _, _, S, R, t, fun F1 ι1 cs1 x xv H1 e1 S1 r1 q1 => ?_, fun _ _ _ _ _ _ _ _ _ _ z => z.elim⟩
    refine ⟨F1, ι1, env, cs1, _, _, S1, R.mono e1, q1, fun F2 ι2 cs2 i iv H2 e2 S2 r2 q2 => ?_, fun _ _ _ _ _ _ _ _ _ _ z => z.elim⟩
    refine ⟨F2, ι2, cs2, x, i, w, _, S2, r1.mono e2, r2, r.mono (e1.trans e2), q2, fun F3 ι3 cs3 H3 e3 S3 q3 => ?_⟩
    exact hq F3 ι3 cs3 env σ H3 (e1.trans (e2.trans e3)) S3 (R.mono (e1.trans (e2.trans e3))) rfl q3
end
end DL
namespace DL
open PySem PySem.Spec L2
abbrev OpM := W → List W → Cs → DQ → Prop
/-- of what methods are called here -/
def hasM : D → Bool
  | .str _ | .int _ | .tup _ | .lst _ | .scr _ | .dct _ => true
  | _ => false
def isT (T : String) (w : W) (cs : Cs) : Prop := match look w cs with
  | some x => hasM x = true ∧ tag x = T
  | none => False
/-- o.m(..), o of the built-in type T -/
def dBM (T : String) (o : OpM) (to : DT) (t : DA) : DT := fun env cs Q E => to env cs (fun w cs1 => isT T w cs1 ∧ t env cs1 (fun ws cs2 => o w ws cs2 Q) E) E
def upM (G : Gam) (o : OpM) : V → List V → Hp → VK → Prop := fun x xs H Q => ∃ F ι cs w ws Q0, Sim G F ι cs H ∧ RepW G F ι w x ∧ Paired (RepW G F ι) ws xs ∧ o w ws cs Q0 ∧
  ∀ F' ι' cs' w v H', Ext F F' ι ι' → Sim G F' ι' cs' H' → RepW G F' ι' w v → Q0 w cs' → Q v H'
theorem MtR.imp {X : Cx} {id : String} {r r' : V → List V → Hp → VK → Prop} (h : MtR X id r) (i : ∀ x xs H Q, r' x xs H Q → r x xs H Q) : MtR X id r' := fun pins s σ H x xs v us Q I rx rs q => h pins s σ H x xs v us Q I rx rs (i _ _ _ _ q)
section
variable {X : Cx} {G : Gam} {Wx : WX}
theorem isT_ok {F H : Hp} {ι : Pl} {cs : Cs} {pins : List (Addr × Obj)} {σ : L2.St} {s : Shared} {T : String} {w : W} {v : V} {u : Value} (I : Inv X pins σ H s) (hK : X.K = G.K) (S : Sim G F ι cs H) (r : RepW G F ι w v) (h : isT T w cs) (ru : RelV v u) :
    s.TypeIs u T ∧ ∀ a, u = .ref a → ∃ ob, s.heap.get? a = some ob ∧ ob.dict = none := by
  unfold isT at h
  split at h
  · rename_i x l
    obtain ⟨h1, rfl⟩ := h
    have t := look_top S r l
    cases x with
    | tup xs =>
      obtain ⟨a, vs, rfl, ⟨ob, hd, h1⟩, h2⟩ := t
      cases (show u = Value.ref a from ru)
      have hg : s.heap.get? a = some ob := by
        rcases h1 with h1 | ⟨_, _, h1, _⟩
        · exact (I.hok a _ h1).1
        · exact (hK ▸ I.kIn) a ob h1
      have hc : ob.cls = .type "tuple" := by
        rcases h1 with h1 | ⟨_, _, _, h1, _⟩
        · obtain ⟨_, _, its, _, ⟨o, e, c, _⟩⟩ := I.hok a _ h1
          rw [hg] at e; cases e
          exact c
        · exact h1
      exact ⟨⟨ob, hg, hc⟩, fun b e => by cases e; exact ⟨ob, hg, hd⟩⟩
    | lst xs =>
      obtain ⟨a, vs, rfl, h1, h2⟩ := t
      cases (show u = Value.ref a from ru)
      obtain ⟨its, rv, pl, _⟩ := I.list (SqL.of h1)
      refine ⟨pl.isList.typeIs, fun b e => ?_⟩
      cases e
      obtain ⟨o, n, e, c, hd, _⟩ := pl
      exact ⟨o, e, hd⟩
    | scr xs =>
      obtain ⟨a, rfl, h1⟩ := t
      cases (show u = Value.ref a from ru)
      obtain ⟨its, rv, pl, _⟩ := I.list (hK ▸ h1)
      refine ⟨pl.isList.typeIs, fun b e => ?_⟩
      cases e
      obtain ⟨o, n, e, c, hd, _⟩ := pl
      exact ⟨o, e, hd⟩
    | dct kvs =>
      obtain ⟨a, o, ks, ps, rfl, h1, h2, h3⟩ := t
      cases (show u = Value.ref a from ru)
      have hg := DcAt.get I hK h1
      exact ⟨⟨o, hg, h2.ex.1⟩, fun b e => by cases e; exact ⟨o, hg, h2.ex.2.1⟩⟩
    | str z =>
      have t : Rep G F (.str z) v := t
      simp only [Rep] at t
      obtain ⟨rfl, _⟩ := t
      obtain ⟨k, rfl⟩ := ru
      exact ⟨typeIs_str s z k, fun _ e => nomatch e⟩
    | int i =>
      have t : Rep G F (.int i) v := t
      simp only [Rep] at t
      subst t
      obtain ⟨k, rfl⟩ := ru
      exact ⟨typeIs_int s i k, fun _ e => nomatch e⟩
    | _ => cases h1
  · cases h
theorem bm_up {T : String} {o : OpM} {to : DT} {t : DA} {σ : L2.St} {H : Hp} {Q : VK} (h : upE G Wx (dBM T o to t) σ H Q) : upE G Wx to σ H fun x H1 => (∃ F ι cs w, Sim G F ι cs H1 ∧ RepW G F ι w x ∧ isT T w cs) ∧ upA G Wx t σ H1 fun xs H2 => upM G o x xs H2 Q := by
  obtain ⟨F, ι, env, cs, Q0, E0, S, R, t, hq, hE⟩ := h
  refine ⟨F, ι, env, cs, _, E0, S, R, t, fun F1 ι1 cs1 w v H1 e1 S1 r1 q1 => ⟨⟨F1, ι1, cs1, w, S1, r1, q1.1⟩, ?_⟩, hE⟩
  refine ⟨F1, ι1, env, cs1, _, E0, S1, R.mono e1, q1.2, fun F2 ι2 cs2 ws vs H2 e2 S2 r2 q2 => ?_, fun F2 ι2 cs2 z cls od H2 e2 => hE F2 ι2 cs2 z cls od H2 (e1.trans e2)⟩
  exact ⟨F2, ι2, cs2, w, ws, Q0, S2, r1.mono e2, r2, q2, fun F3 ι3 cs3 w' v' H3 e3 => hq F3 ι3 cs3 w' v' H3 (e1.trans (e2.trans e3))⟩
variable {o e : Expr} {es : List Expr} {to : DT} {t : DA} {name : Str} {apos cpos : Pos} {T id : String} {om : OpM}
theorem e_bm (pa : PlainAttrs T) (slot : Slot T name id) (hty : typeOf (.builtin id) = pure (.type "method_descriptor")) (hK : X.K = G.K) (hm : MtR X id (upM G om)) (ho : DE X G Wx o to) (ha : DAs X G Wx (e :: es) t)
    (hbase : attributeBase o name X.env (eval o X.env) = eval o X.env := by rfl)
    (hfew : ((backTo cpos (starEach (e :: es) X.env)).all (fun x => !x.1) && (backToKw cpos (keywordEach [] X.env)).all (fun x => x.1.isSome)
      && decide ((e :: es).length + ([] : List Keyword).length + (if ([] : List Keyword).isEmpty then 0 else 1) < 30)) = true := by rfl)
    (hline : (apos.endLine == cpos.line) = true := by rfl) (hs : starEach (e :: es) X.env = (false, eval e X.env) :: starEach es X.env := by rfl) (hplain : (backTo cpos (starEach es X.env)).any (·.1) = false := by rfl) :
    DE X G Wx (.Call (.Attribute o name apos) (e :: es) [] cpos) (dBM T om to t) := by
  refine ⟨fun pins s σ H Q I h => ?_⟩
  refine wpAny_Call_method_late hbase hfew hline rfl (thn (ho.run pins s σ H _ I (bm_up h)) fun v s1 ⟨x, H1, I1, r1, ⟨F, ι, cs, w, S, rw0, ty⟩, q1⟩ => ?_)
  obtain ⟨h1, h2⟩ := isT_ok I1 hK S rw0 ty r1
  refine ⟨T, id, pa, slot, hty, h1, h2, ?_⟩
  have hA := ha.run cpos pins s1 σ H1 _ I1 q1
  rw [hs] at hA ⊢
  refine Calls.callWith_builtin (by show (false || (backTo cpos (starEach es X.env)).any (·.1)) = false; rw [hplain] <;> rfl) (Calls.evalArgs_plain ?_)
  exact thn hA fun us s2 ⟨vs, H2, I2, r2, q2⟩ => hm pins s2 σ H2 x vs v us Q I2 r1 r2 q2
end
def oAppend : OpM := fun w ws cs Q => match w, ws with
  | .c i, [u] => fixW u cs fun x cs1 => (match cs1[i]? with
    | some (.lst xs) => xs.length < sizeLine ∧ Q (.d .non) (cs1.set i (.lst (xs ++ [x])))
    | _ => False)
  | _, _ => False
section
variable {X : Cx} {G : Gam} {F H : Hp} {ι : Pl} {cs : Cs}
theorem rep_non : RepW G F ι (.d .non) .non := by simp only [RepW, Rep]
theorem cell_lst (S : Sim G F ι cs H) {i : Nat} {v : V} (r : RepW G F ι (.c i) v) {xs : List D} (h : cs[i]? = some (.lst xs)) : ∃ a vs, v = .ref a ∧ ι.l[i]? = some a ∧ F a = none ∧ H a = some (.lst vs) ∧ Reps G F xs vs := by
  obtain ⟨a, ha, rfl⟩ := r
  obtain ⟨a', h1, h2, vs, h3, h4⟩ := S.cell i _ h
  rw [ha] at h1; cases h1
  exact ⟨a, vs, rfl, ha, h2, h3, h4⟩
theorem m_append : MtR X "list.append" (upM G oAppend) := MtR.imp mt_append fun x xs H Q q => by
  obtain ⟨F, ι, cs, w, ws, Q0, S, r1, r2, o, hq⟩ := q
  unfold oAppend at o
  split at o
  · rename_i i u
    obtain ⟨v, rfl, ru⟩ := pair1 r2
    obtain ⟨F1, cs1, x, e1, S1, rx, o⟩ := fixW_ok S ru o
    split at o
    · rename_i ys l
      obtain ⟨a, vs, rfl, h1, h2, h3, h4⟩ := cell_lst S1 (r1.mono e1) l
      refine ⟨a, vs, v, rfl, rfl, h3, by rw [← h4.len]; exact o.1, ?_⟩
      exact hq F1 ι _ _ _ _ e1 (S1.write (x := .lst (ys ++ [x])) h1 l h2 ⟨h2, _, upd_same, h4.append (Reps.one rx)⟩) rep_non o.2
    · cases o
  · cases o
end
/-- the texts of a list of texts -/
def txts : List D → Option (List Str)
  | [] => some []
  | .str b :: r => (txts r).map (b :: ·)
  | _ => none
def oJoin : OpM := fun w ws cs Q => match w, ws with
  | .d (.str a), [u] => (match look u cs with
    | some (.lst xs) => (match txts xs with
      | some ys => (ys.map (·.length)).sum + ys.length * a.length ≤ 16777216 ∧ Q (.d (.str (Str.join a ys))) cs
      | none => False)
    | some (.tup xs) => (match txts xs with
      | some ys => (ys.map (·.length)).sum + ys.length * a.length ≤ 16777216 ∧ Q (.d (.str (Str.join a ys))) cs
      | none => False)
    | _ => False)
  | _, _ => False
section
variable {X : Cx} {G : Gam} {F H : Hp} {ι : Pl} {cs : Cs}
theorem txts_rep : ∀ {xs : List D} {vs : List V} {ys : List Str}, Reps G F xs vs → txts xs = some ys → vs = ys.map V.str ∧ ∀ y ∈ ys, PyData.strOk y = true
  | [], vs, ys, h, e => by
    simp only [Reps] at h
    simp [txts] at e
    subst h e
    exact ⟨rfl, by simp⟩
  | x :: xs, vs, ys, h, e => by
    cases x with
    | str b =>
      simp only [Reps] at h
      obtain ⟨v, r, rfl, h1, h2⟩ := h
      simp only [txts] at e
      cases q : txts xs with
      | none => rw [q] at e; cases e
      | some zs =>
        rw [q] at e; cases e
        have h1 : Rep G F (.str b) v := h1
        simp only [Rep] at h1
        obtain ⟨e1, k⟩ := txts_rep h2 q
        refine ⟨by rw [h1.1, e1]; rfl, fun y hy => ?_⟩
        rcases List.mem_cons.mp hy with rfl | hy
        · exact h1.2
        · exact k y hy
    | _ => cases e
theorem m_join (hK : X.K = G.K) : MtR X "str.join" (upM G oJoin) := MtR.imp mt_join fun x xs H Q q => by
  obtain ⟨F, ι, cs, w, ws, Q0, S, r1, r2, o, hq⟩ := q
  unfold oJoin at o
  split at o
  · rename_i a u
    obtain ⟨v, rfl, ru⟩ := pair1 r2
    have r1 : Rep G F (.str a) x := r1
    simp only [Rep] at r1
    obtain ⟨rfl, ka⟩ := r1
    split at o
    · rename_i xs l
      obtain ⟨p, vs, rfl, h1, h2⟩ := look_lst S ru l
      split at o
      · rename_i ys e
        obtain ⟨rfl, k⟩ := txts_rep h2 e
        exact ⟨a, p, ys, rfl, rfl, .inl (SqL.of h1), o.1, by rw [TL.join_eq]; exact hq _ _ _ _ _ _ .refl S (rep_str (strOk_join ka ys k)) o.2⟩
      · cases o
    · rename_i xs l
      obtain ⟨p, vs, rfl, h1, _, h2⟩ := look_tup' S ru l
      split at o
      · rename_i ys e
        obtain ⟨rfl, k⟩ := txts_rep h2 e
        exact ⟨a, p, ys, rfl, rfl, .inr (hK ▸ h1), o.1, by rw [TL.join_eq]; exact hq _ _ _ _ _ _ .refl S (rep_str (strOk_join ka ys k)) o.2⟩
      · cases o
    · cases o
  · cases o
end
end DL
namespace DL
open PySem PySem.Spec L2
def newO : Obj := { cls := .type "dict", data := .dict #[] }
abbrev DPs := Nv → Cs → (List (W × W) → Cs → Prop) → DX → Prop
def dPairs : List (DT × DT) → DPs
  | [], _, cs, Q, _ => Q [] cs
  | (tk, tv) :: r, env, cs, Q, E => tk env cs (fun x cs1 => tv env cs1 (fun y cs2 => dPairs r env cs2 (fun ps cs3 => Q ((x, y) :: ps) cs3) E) E) E
def dDict0 : DT := fun _ cs Q _ => Q (.c cs.length) (cs ++ [.dct [] newO])
/-- keys: data of their own; values: handed over; what stands then has keys that are equal (True for 1, ..) -/
def dDict (ts : List (DT × DT)) : DT := fun env cs Q E => dPairs ts env (cs ++ [.dct [] newO]) (fun ps cs1 => fixAll (ps.map (·.1)) cs1 fun kds cs2 => fixAll (ps.map (·.2)) cs2 fun vds cs3 =>
  cs3[cs.length]? = some (.dct [] newO) ∧ ∃ ls : List Leaf, kds.map key = ls.map (fun l => some l.key) ∧ ls.Nodup ∧
    ∀ kd o, kd.map (fun p => key p.1) = ls.map (fun l => some l.key) → kd.map (·.2) = vds → Q (.c cs.length) (cs3.set cs.length (.dct kd o))) E
section
variable {X : Cx} {G : Gam} {Wx : WX} {pos : Pos}
theorem rawO_new {w : World} : RawO w [] [] newO := ⟨⟨rfl, rfl, rfl⟩, ⟨#[], 0, rfl, by simp [RawE]⟩, ⟨List.nodup_nil, .inl (by simp), by simp⟩, by simp⟩
theorem new_cell {F H : Hp} {ι : Pl} {cs : Cs} {p : Addr} (S : Sim G F ι cs H) (hp : H p = none) (hsm : (p == sysModules) = false) : Ext F F ι (ι.add p) ∧ Sim G F (ι.add p) (cs ++ [.dct [] newO]) (upd H p (dcx p newO)) :=
  S.owned hp fun ι' => ⟨S.dead hp, hsm, [], [], upd_same, rawO_new, by simp [RepKV]⟩
theorem dcx_laid {pins : List (Addr × Obj)} {s : Shared} {σ : L2.St} {H : Hp} (I : Inv X pins σ H s) : Inv X pins σ (upd H s.heap.objs.size (dcx s.heap.objs.size newO)) { s with heap := s.heap.push newO } :=
  I.laid (t' := s.toks) (fun _ _ q => Heap.get?_push_of_some _ q) (Nat.le_refl _) ⟨Heap.get?_push_size _ rfl, ⟨_, Heap.get?_push_size _ rfl⟩, fun h1 h2 q k => k _ q⟩
theorem new_ne {pins : List (Addr × Obj)} {s : Shared} {σ : L2.St} {H : Hp} (I : Inv X pins σ H s) : (s.heap.objs.size == sysModules) = false := by
  have := I.big
  exact beq_eq_false_iff_ne.mpr (Ne.symm (Nat.ne_of_lt this))
theorem e_dict0 : DE X G Wx (.Dict [] [] pos) dDict0 := ⟨fun pins s σ H Q I h => by
  obtain ⟨F, ι, env, cs, Q0, E0, S, R, t, hq, hE⟩ := h
  have hp := I.hok.fresh (Nat.le_refl s.heap.objs.size)
  obtain ⟨e1, S1⟩ := new_cell S hp (new_ne I)
  exact wpAny_Dict_empty ⟨.ref s.heap.objs.size, _, dcx_laid I, rfl, hq F _ _ (.c cs.length) _ _ e1 S1 ⟨_, by rw [← S.len]; simp [Pl.add], rfl⟩ t⟩⟩
theorem VV.snd : ∀ {ps : List (V × V)} {ws : List (Value × Value)}, VV ps ws → Vals (ps.map (·.2)) (ws.map (·.2))
  | _, _, .nil => .nil
  | _, _, .cons h t => .cons h.2 (VV.snd t)
end
end DL
namespace DL
open PySem PySem.Spec L2
def orOp (o o' : Op2) : Op2 := fun a b cs Q => o a b cs Q ∨ o' a b cs Q
def oInS (neg : Bool) : Op2 := fun a b cs Q => match look a cs, look b cs with
  | some (.str x), some (.str z) => (match x.cps.toList with
    | [c] => Q (.d (.bl (neg ^^ decide (c ∈ z.cps.toList)))) cs
    | _ => False)
  | _, _ => False
def dChain (o o' : Op2) (ta tb tc : DT) : DT := fun env cs Q E => ta env cs (fun x cs1 => tb env cs1 (fun y cs2 => o x y cs2 fun z cs3 => match z with
  | .d (.bl k) => (if k = true then tc env cs3 (fun w cs4 => o' y w cs4 Q) E else Q (.d (.bl false)) cs3)
  | _ => False) E) E
section
variable {X : Cx} {G : Gam} {Wx : WX} {a b c : Expr} {ta tb tc : DT} {op op' : CmpOp} {o o' : Op2} {pos : Pos}
theorem o_or {f : Value → Value → Sem Value} (h : OpR X f (upR G o)) (h' : OpR X f (upR G o')) : OpR X f (upR G (orOp o o')) := OpR.imp (OpR.or h h') fun x y H Q q => by
  obtain ⟨F, ι, cs, wx, wy, Q0, S, r1, r2, o, hq⟩ := q
  rcases o with o | o
  · exact .inl ⟨F, ι, cs, wx, wy, Q0, S, r1, r2, o, hq⟩
  · exact .inr ⟨F, ι, cs, wx, wy, Q0, S, r1, r2, o, hq⟩
theorem one_sign {x : Str} {c : Nat} (h : x.cps.toList = [c]) : x = ⟨#[c]⟩ := by
  cases x with
  | mk a =>
    have : a = [c].toArray := by rw [← h]
    rw [this]
theorem o_inS : OpR X (compareOp .In) (upR G (oInS false)) := OpR.imp op_in_sign fun x y H Q q => by
  obtain ⟨F, ι, cs, wx, wy, Q0, S, r1, r2, o, hq⟩ := q
  unfold oInS at o
  split at o
  · rename_i x z l1 l2
    obtain ⟨rfl, _⟩ := look_str S r1 l1
    obtain ⟨rfl, _⟩ := look_str S r2 l2
    split at o
    · rename_i c e
      exact ⟨c, z, by rw [one_sign e], rfl, hq _ _ _ _ _ _ .refl S rep_bl (by simpa using o)⟩
    · cases o
  · cases o
theorem o_notInS : OpR X (compareOp .NotIn) (upR G (oInS true)) := OpR.imp op_notIn_sign fun x y H Q q => by
  obtain ⟨F, ι, cs, wx, wy, Q0, S, r1, r2, o, hq⟩ := q
  unfold oInS at o
  split at o
  · rename_i x z l1 l2
    obtain ⟨rfl, _⟩ := look_str S r1 l1
    obtain ⟨rfl, _⟩ := look_str S r2 l2
    split at o
    · rename_i c e
      exact ⟨c, z, by rw [one_sign e], rfl, hq _ _ _ _ _ _ .refl S rep_bl (by simpa using o)⟩
    · cases o
  · cases o
theorem chain_up {σ : L2.St} {H : Hp} {Q : VK} (h : upE G Wx (dChain o o' ta tb tc) σ H Q) : tChain (upR G o) (upR G o') (upE G Wx ta) (upE G Wx tb) (upE G Wx tc) σ H Q := by
  obtain ⟨F, ι, env, cs, Q0, E0, S, R, t, hq, hE⟩ := h
  refine ⟨F, ι, env, cs, _, E0, S, R, t, fun F1 ι1 cs1 x v H1 e1 S1 r1 q1 => ?_, hE⟩
  refine ⟨F1, ι1, env, cs1, _, E0, S1, R.mono e1, q1, fun F2 ι2 cs2 y u H2 e2 S2 r2 q2 => ?_, fun F2 ι2 cs2 z cls od H2 e2 => hE F2 ι2 cs2 z cls od H2 (e1.trans e2)⟩
  refine ⟨F2, ι2, cs2, x, y, _, S2, r1.mono e2, r2, q2, fun F3 ι3 cs3 z w H3 e3 S3 r3 q3 => ?_⟩
  split at q3
  · rename_i k
    have r3 : Rep G F3 (.bl k) w := r3
    simp only [Rep] at r3
    refine ⟨k, r3, ?_⟩
    split
    · rename_i hk
      rw [if_pos hk] at q3
      refine ⟨F3, ι3, env, cs3, _, E0, S3, R.mono (e1.trans (e2.trans e3)), q3, fun F4 ι4 cs4 w4 v4 H4 e4 S4 r4 q4 => ?_, fun F4 ι4 cs4 z cls od H4 e4 => hE F4 ι4 cs4 z cls od H4 (e1.trans (e2.trans (e3.trans e4)))⟩
      exact ⟨F4, ι4, cs4, y, w4, Q0, S4, r2.mono (e3.trans e4), r4, q4, fun F5 ι5 cs5 w5 v5 H5 e5 => hq F5 ι5 cs5 w5 v5 H5 (e1.trans (e2.trans (e3.trans (e4.trans e5))))⟩
    · rename_i hk
      rw [if_neg hk] at q3
      exact hq F3 ι3 cs3 _ _ H3 (e1.trans (e2.trans e3)) S3 rep_bl q3
  · cases q3
theorem e_chain (ho : OpR X (compareOp op) (upR G o)) (ho' : OpR X (compareOp op') (upR G o')) (ha : DE X G Wx a ta) (hb : DE X G Wx b tb) (hc : DE X G Wx c tc)
    (hm : lastMarks [op, op'] [b, c] = false := by with_unfolding_all rfl) : DE X G Wx (.Compare a [op, op'] [b, c] pos) (dChain o o' ta tb tc) := PE.imp (pe_chain ho ho' ha hb hc hm) fun _ _ _ => chain_up
theorem t_chain (ho : OpR X (compareOp op) (upR G o)) (ho' : OpR X (compareOp op') (upR G o')) (ha : DE X G Wx a ta) (hb : DE X G Wx b tb) (hc : DE X G Wx c tc)
    (hm : lastMarks [op, op'] [b, c] = false := by with_unfolding_all rfl) : DTst X G Wx (.Compare a [op, op'] [b, c] pos) (dTest (dChain o o' ta tb tc)) := PT.imp (pt_chain ho ho' ha hb hc hm) fun σ H Q h => by
  have h1 := test_up h
  obtain ⟨F, ι, env, cs, Q0, E0, S, R, t, hq, he⟩ := h1
  exact chain_up ⟨F, ι, env, cs, Q0, E0, S, R, t, hq, he⟩
/-- a global datum: a whole number, a text -/
theorem e_gint {x : Str} {u : Value} {i : Int} (hg : Gl X x) (hm : X.mg x = some u) (hu : ∃ t, u = .int i t) (hd : (x == ("__debug__" : Str)) = false := by decide) : DE X G Wx (.Name x pos) (dC (.int i)) :=
  e_glob (v := .int i) hg hm hu (fun F => by simp only [Rep]) hd
theorem e_gstr {x : Str} {u : Value} {i : Str} (hg : Gl X x) (hm : X.mg x = some u) (hu : ∃ t, u = .str i t) (hk : PyData.strOk i = true) (hd : (x == ("__debug__" : Str)) = false := by decide) : DE X G Wx (.Name x pos) (dC (.str i)) :=
  e_glob (v := .str i) hg hm hu (fun F => by simp only [Rep]; exact ⟨True.intro, hk⟩) hd
/-- a built-in type as a value -/
theorem e_ty {x : Str} {T : String} (hg : Gl X x) (hm : X.mg x = none) (hv : bootBuiltins x = some (.type T)) (hn : x ≠ "__name__" := by decide) (hd : (x == ("__debug__" : Str)) = false := by decide) : DE X G Wx (.Name x pos) (dC (.oth (.ty T))) :=
  e_tC (pe_bltn (v := .ty T) hg hm hv rfl hn hd) fun F => by simp only [Rep]
theorem ev (i : Nat) {x : Str} (hN : X.N[i]? = some x := by rfl) (hv : Vis X.env.scope x := by first | exact Or.inl rfl | exact Or.inr (Or.inl rfl) | exact Or.inr (Or.inr rfl)) (hd : (x == ("__debug__" : Str)) = false := by decide)
    (hcd : (x == ("__classdict__" : Str)) = false := by decide) : DE X G Wx (.Name x pos) (dVar i) := e_var hN hv hd hcd
end
theorem bo_len : bootBuiltins "len" = some (.builtin "len") := by decide +kernel
theorem bo_abs : bootBuiltins "abs" = some (.builtin "abs") := by decide +kernel
theorem bo_max : bootBuiltins "max" = some (.builtin "max") := by decide +kernel
theorem bo_min : bootBuiltins "min" = some (.builtin "min") := by decide +kernel
theorem bo_divmod : bootBuiltins "divmod" = some (.builtin "divmod") := by decide +kernel
theorem bo_all : bootBuiltins "all" = some (.builtin "all") := by decide +kernel
theorem bo_repr : bootBuiltins "repr" = some (.builtin "repr") := by decide +kernel
theorem bo_isinstance : bootBuiltins "isinstance" = some (.builtin "isinstance") := by decide +kernel
theorem bo_str : bootBuiltins "str" = some (.type "str") := by decide +kernel
theorem bo_int : bootBuiltins "int" = some (.type "int") := by decide +kernel
theorem bo_bool : bootBuiltins "bool" = some (.type "bool") := by decide +kernel
theorem bo_list : bootBuiltins "list" = some (.type "list") := by decide +kernel
theorem bo_tuple : bootBuiltins "tuple" = some (.type "tuple") := by decide +kernel
theorem tkF {X : Cx} : Takes X WxF := fun u s' ⟨a, B, sI, pins, σ, H, cls, d, e, I, nb, up, sky, na, os, ag, w⟩ => w.elim
/-- keywords, no defaults: g puts the values into the parameters' order -/
theorem bindK {K : PySem.W.Frag} {G : Gam} {x qual : Str} {params : Arguments} {body : List Stmt} {scope : Scope} {f : Addr} {fd : FuncData} {ps : List Str} (F : FunD K x qual params body scope [] [] f fd) (n : Nat) (ks : List Str) (g : {α : Type} → List α → List α → List α)
    (hrel : ∀ {α β : Type} {P : α → β → Prop} {a c : List α} {b d : List β}, a.length = n → c.length = ks.length → Paired P a b → Paired P c d → Paired P (g a c) (g b d))
    (h : ∀ (kV doc pm : Value) (an : Option Addr) (cdv ct : Value) (us ws : List Value), us.length = n → ws.length = ks.length → bindArgs (PySem.W.fnOf x qual params body scope .none kV doc pm an cdv ct) ⟨us, ks.zip ws⟩ = pure (ps.zip (g us ws))) :
    BindD G fd ps n ks (fun us ws => g us ws) where
  to := fun s us zs X l1 l2 => by
    obtain ⟨oc, od, dV, kV, doc, pm, an, cdv, ct, osl, rfl, lk, hcd, hD, hK⟩ := F.ex
    rcases hD with ⟨_, rfl⟩ | ⟨e, _⟩
    · refine ⟨g us zs, .of_eq (h kV doc pm an cdv ct us zs l1 l2), fun F ι wp wk vp vk r1 r2 r3 r4 => ⟨g vp vk, ?_, ?_⟩⟩
      · have e1 := r1.length
        have e2 := r2.length
        have e3 := r3.length
        have e4 := r4.length
        exact hrel (by omega) (by omega) r1 r2
      · have e3 := r3.length
        have e4 := r4.length
        exact hrel (by omega) (by omega) r3 r4
    · exact absurd rfl e
end DL
namespace DL
open PySem PySem.Spec L2
def oEqD : Op2 := fun a b cs Q => match look a cs, look b cs with
  | some (.dct _), some (.str _) => Q (.d (.bl false)) cs
  | some (.tup [.dct _]), some (.tup [.str _]) => Q (.d (.bl false)) cs
  | _, _ => False
theorem dict_declines {P : Program} {w : World} {A : Around} {E : Value → Shared → Prop} {s : Shared} {a : Addr} {b : Str} {u : Tok} {Q : Value → Shared → Prop} (ht : s.TypeIs (.ref a) "dict") (h : Q .notImplemented s) :
    wpAny (model P w) A (call (.builtin "dict.__eq__") [.ref a, .str b u]) Q E s := by
  refine wpAny_call_entry PySem.F.slot_dict_eq ht PySem.F.entry_dict_eq ?_ (PySem.F.args_dict_eq_2 _ _)
  show wpAny _ _ (Builtin.Dict.dictSlotArgs "__eq__" ⟨[.ref a, .str b u], []⟩ >>= _) _ _ s
  refine wpAny_bind ?_
  unfold Builtin.Dict.dictSlotArgs
  refine wpAny_bind (wpAny_notOrdered_dict ht ?_)
  refine wpAny_pure ?_
  refine wpAny_bind (wpAny_isInstance (T := "str") (typeIs_str s b u) PySem.F.sub_str_dict ?_)
  simp only [Bool.not_false, if_true]
  exact wpAny_bind (wpAny_rule (wpAny_bind (wpAny_pure (wpAny_pure ⟨_, rfl, h⟩))))
theorem str_meets (b : Str) (u : Tok) (l : Addr) (o : Obj) : Meets (Builtin.«str.__eq__» ⟨[.str b u, .ref l], []⟩) (fun _ R s => s.heap.get? l = some o ∧ (o.cls = .type "dict" ∧ ∃ es n, o.data = .dict es n) ∧ R (.ok (.ret .notImplemented)) s) :=
  .of_wp fun prog w A R s h => by
    obtain ⟨hp, g, d, tk, os⟩ := s
    obtain ⟨cls, dd, data, sl⟩ := o
    obtain ⟨hl, ⟨hc, es, n, hd⟩, h⟩ := h
    simp only at hc hd
    subst hc hd
    wp_walk using wpAny_loadPart' hl, wpAny_load hl
    exact ⟨_, rfl, h⟩
theorem dict_not_str {P : Program} {w : World} {A : Around} {E : Value → Shared → Prop} {s : Shared} {a : Addr} {o : Obj} {b : Str} {u : Tok} {Q : Value → Shared → Prop} (ho : s.heap.get? a = some o) (hc : o.cls = .type "dict") (hd : ∃ es n, o.data = .dict es n) (hu : A.units < cLine) (h : Q (.bool false) s) :
    wpAny (model P w) A (compareOp .Eq (.ref a) (.str b u)) Q E s :=
  SeqAt.rc_eq_decline_or (k := false) ⟨o, ho, hc⟩ (typeIs_str s b u) (by decide) PySem.F.sub_str_dict PySem.F.slot_dict_eq PySem.F.slot_str_eq_refl
    (fun _ hq => dict_declines ⟨o, ho, hc⟩ hq)
    (fun _ hq => call_meets PySem.F.slot_str_eq_refl (typeIs_str s b u) PySem.F.entry_str_eq (PySem.F.args_str_eq_2 _ _) (str_meets b u a o) ⟨ho, ⟨hc, hd⟩, hq⟩)
    (fun _ hq => wpAny_of_eq (rfl : isSame (.ref a) (.str b u) = pure false) hq) (.inr hu) h
theorem eqAt_dict_str {A : Around} {s : Shared} {a : Addr} {o : Obj} {b : Str} {u : Tok} (ho : s.heap.get? a = some o) (hc : o.cls = .type "dict") (hd : ∃ es n, o.data = .dict es n) (hu : A.units < cLine) : SeqAt.EqAt A s (.ref a) (.str b u) false := fun prog w E Q h => by
  unfold eqBool
  refine wpAny_holding ?_
  refine wpAny_ite_split (fun hab => absurd (eq_of_beq hab) nofun) (fun _ => ?_)
  exact wpAny_bind (dict_not_str ho hc hd hu (wpAny_truthy_bool h))
section
variable {X : Cx} {G : Gam}
theorem o_eqD (hK : X.K = G.K) (hu : X.A.units + 64 < cLine) : OpR X (compareOp .Eq) (upR G oEqD) := by
  intro pins s σ H x y v u Q I rx ry h
  obtain ⟨F, ι, cs, wx, wy, Q0, S, r1, r2, o, hq⟩ := h
  unfold oEqD at o
  split at o
  · rename_i kvs z l1 l2
    obtain ⟨a, ob, ks, ps, rfl, h1, h2, h3⟩ := look_top S r1 l1
    obtain ⟨rfl, _⟩ := look_str S r2 l2
    cases (show v = Value.ref a from rx)
    obtain ⟨t, rfl⟩ := ry
    obtain ⟨es, n, hd, _⟩ := h2.dat
    exact dict_not_str (DcAt.get I hK h1) h2.ex.1 ⟨es, n, hd⟩ (by omega) (fin_same I (hq _ _ _ _ _ _ .refl S rep_bl o))
  · rename_i kvs z l1 l2
    obtain ⟨a, vs, rfl, f1, p1⟩ := look_tupP S r1 l1
    obtain ⟨b, us, rfl, f2, p2⟩ := look_tupP S r2 l2
    cases (show v = Value.ref a from rx)
    cases (show u = Value.ref b from ry)
    obtain ⟨its, v1, t1, _⟩ := I.tuple (hK ▸ SqT.mono S.same f1.sq)
    obtain ⟨its2, v2, t2, _⟩ := I.tuple (hK ▸ SqT.mono S.same f2.sq)
    simp only [Reps, Rep] at p1 p2
    obtain ⟨_, _, rfl, ⟨d, ob, ks, ps, rfl, h1, h2, h3⟩, rfl⟩ := p1
    obtain ⟨_, _, rfl, ⟨rfl, _⟩, rfl⟩ := p2
    obtain ⟨x0, rfl, e0⟩ := v1.one
    obtain ⟨y0, rfl, e1⟩ := v2.one
    cases (show x0 = Value.ref d from e0)
    obtain ⟨t, rfl⟩ := e1
    obtain ⟨es, n, hd, _⟩ := h2.dat
    refine SeqAt.RcAt.tuples (e := fun _ => false) t1 t2 (by omega) (fun j g1 g2 => ?_) _ _ _ _ (fin_same I (hq _ _ _ _ _ _ .refl S rep_bl (by simpa using o)))
    have : j = 0 := by simpa using g1
    subst this
    exact eqAt_dict_str (DcAt.get I hK (h1.mono S.same)) h2.ex.1 ⟨es, n, hd⟩ (by show X.A.units + 1 < cLine; omega)
  · cases o
def oEqE : Op2 := fun a b cs Q => match look a cs, look b cs with
  | some (.tup xs), some (.tup []) => Q (.d (.bl xs.isEmpty)) cs
  | _, _ => False
theorem o_eqE (hK : X.K = G.K) (hu : X.A.units + 64 < cLine) : OpR X (compareOp .Eq) (upR G oEqE) := by
  intro pins s σ H x y v u Q I rx ry h
  obtain ⟨F, ι, cs, wx, wy, Q0, S, r1, r2, o, hq⟩ := h
  unfold oEqE at o
  split at o
  · rename_i xs l1 l2
    obtain ⟨a, vs, rfl, f1, p1⟩ := look_tupP S r1 l1
    obtain ⟨b, us, rfl, f2, p2⟩ := look_tupP S r2 l2
    cases (show v = Value.ref a from rx)
    cases (show u = Value.ref b from ry)
    obtain ⟨its, v1, t1, _⟩ := I.tuple (hK ▸ SqT.mono S.same f1.sq)
    obtain ⟨its2, v2, t2, _⟩ := I.tuple (hK ▸ SqT.mono S.same f2.sq)
    have e2 : us = [] := by simpa [Reps] using p2
    subst e2
    cases v2
    refine SeqAt.RcAt.tuples (e := fun _ => true) t1 t2 (by omega) (fun j h1 h2 => absurd h2 (by simp)) _ _ _ _ (fin_same I (hq _ _ _ _ _ _ .refl S rep_bl ?_))
    have n1 : its.length = xs.length := by rw [← v1.length, p1.len]
    have e : (its.length == 0) = xs.isEmpty := by
      rw [n1]
      cases xs <;> rfl
    rw [← e] at o
    simpa using o
  · cases o
def oIsBl (neg : Bool) : Op2 := fun a b cs Q => match a, b with
  | .d (.bl x), .d (.bl y) => Q (.d (.bl (neg ^^ decide (x = y)))) cs
  | _, _ => False
theorem o_isBl : OpR X (compareOp .Is) (upR G (oIsBl false)) := OpR.imp op_isBl fun x y H Q q => by
  obtain ⟨F, ι, cs, wx, wy, Q0, S, r1, r2, o, hq⟩ := q
  unfold oIsBl at o
  split at o
  · rename_i p q
    have r1 : Rep G F (.bl p) x := r1
    have r2 : Rep G F (.bl q) y := r2
    simp only [Rep] at r1 r2
    exact ⟨p, q, r1, r2, hq _ _ _ _ _ _ .refl S rep_bl (by simpa using o)⟩
  · cases o
theorem o_notBl : OpR X (compareOp .IsNot) (upR G (oIsBl true)) := OpR.imp op_notBl fun x y H Q q => by
  obtain ⟨F, ι, cs, wx, wy, Q0, S, r1, r2, o, hq⟩ := q
  unfold oIsBl at o
  split at o
  · rename_i p q
    have r1 : Rep G F (.bl p) x := r1
    have r2 : Rep G F (.bl q) y := r2
    simp only [Rep] at r1 r2
    exact ⟨p, q, r1, r2, hq _ _ _ _ _ _ .refl S rep_bl (by simpa using o)⟩
  · cases o
def oCount : OpM := fun w ws cs Q => match ws with
  | [u] => (match look w cs, look u cs with
    | some (.tup xs), some y => isFls xs = true ∧ isFl y = true ∧ min (PyData.depthAll (pys xs)) (py y).depth ≤ 60 ∧ Q (.d (.int ((pys xs).countP fun z => PyData.eqv z (py y)))) cs
    | _, _ => False)
  | _ => False
theorem m_count (hK : X.K = G.K) (hu : X.A.units + 64 < cLine) : MtR X "tuple.count" (upM G oCount) := by
  intro pins s σ H x xs v us Q I rx rs q
  obtain ⟨F, ι, cs, w, ws, Q0, S, r1, r2, o, hq⟩ := q
  unfold oCount at o
  split at o
  · rename_i u
    obtain ⟨vu, rfl, ru⟩ := pair1 r2
    obtain ⟨uu, rfl, qu⟩ := rs.one
    split at o
    · rename_i ys y l1 l2
      obtain ⟨p1, p2, p3, o⟩ := o
      have t1 := look_top S r1 l1
      have t2 := look_top S ru l2
      obtain ⟨as, q1, _⟩ := Top.reads S.same I hK (.tup ys) _ _ t1 (isPy_of (.tup ys) (by simp only [isFl]; exact p1)) rx
      obtain ⟨bs, q2, _⟩ := Top.reads S.same I hK y _ _ t2 (isPy_of y p2) qu
      have c1 := top_tup_lay t1 p1
      simp only [py] at q1
      cases q1 with
      | tuple h1 h2 h3 h4 =>
        exact SeqAt.count_tuple_data ⟨_, h1, h2, _, h3⟩ h4 q2 (PyData.plainAll_of_canLay0 _ c1) (PyData.plain_of_canLay0 _ (Top.lay y _ t2 p2)) (by omega) ⟨.int _, H, I.tok _, ⟨_, rfl⟩, hq _ _ _ _ _ _ .refl S rep_int o⟩
    · cases o
  · cases o
def oInsert : OpM := fun w ws cs Q => match w, ws with
  | .c i, [.d (.int k), u] => fixW u cs fun x cs1 => (match cs1[i]? with
    | some (.lst xs) => xs.length < sizeLine ∧ 0 ≤ k ∧ k < 2 ^ 63 ∧ Q (.d .non) (cs1.set i (.lst (xs.take k.toNat ++ [x] ++ xs.drop k.toNat)))
    | _ => False)
  | _, _ => False
theorem m_insert : MtR X "list.insert" (upM G oInsert) := MtR.imp mt_insert fun x xs H Q q => by
  obtain ⟨F, ι, cs, w, ws, Q0, S, r1, r2, o, hq⟩ := q
  unfold oInsert at o
  split at o
  · rename_i i k u
    obtain ⟨vk, v, rfl, rk, ru⟩ := pair2 r2
    have rk : Rep G F (.int k) vk := rk
    simp only [Rep] at rk
    subst rk
    obtain ⟨F1, cs1, x, e1, S1, rx, o⟩ := fixW_ok S ru o
    split at o
    · rename_i ys l
      obtain ⟨a, vs, rfl, h1, h2, h3, h4⟩ := cell_lst S1 (r1.mono e1) l
      refine ⟨a, vs, k, v, rfl, rfl, h3, by rw [← h4.len]; exact o.1, o.2.1, o.2.2.1, ?_⟩
      exact hq F1 ι _ _ _ _ e1 (S1.write (x := .lst (ys.take k.toNat ++ [x] ++ ys.drop k.toNat)) h1 l h2 ⟨h2, _, upd_same, ((h4.take _).append (Reps.one rx)).append (h4.drop _)⟩) rep_non o.2.2.2
    · cases o
  · cases o
def oTupleOf : OpN := fun ws cs Q => match ws with
  | [w] => (match look w cs with
    | some (.lst xs) => Q (.d (.tup xs)) cs
    | some (.tup xs) => Q (.d (.tup xs)) cs
    | _ => False)
  | _ => False
def oListOf : OpN := fun ws cs Q => match ws with
  | [w] => (match look w cs with
    | some (.lst xs) => Q (.c cs.length) (cs ++ [.lst xs])
    | some (.tup xs) => Q (.c cs.length) (cs ++ [.lst xs])
    | _ => False)
  | _ => False
theorem c_tupleOf (hK : X.K = G.K) : CallR X (.type "tuple") (upRN G oTupleOf) := by
  intro pins s σ H xs us Q I r q
  obtain ⟨F, ι, cs, ws, Q0, S, rw0, o, hq⟩ := q
  unfold oTupleOf at o
  split at o
  · obtain ⟨v, rfl, r0⟩ := pair1 rw0
    obtain ⟨u, rfl, ru⟩ := r.one
    split at o
    · rename_i ys l
      obtain ⟨a, vs, rfl, h1, p1⟩ := look_lst S r0 l
      cases (show u = Value.ref a from ru)
      obtain ⟨its, rv, pl, hz⟩ := I.list (SqL.of h1)
      refine call_tuple_list pl.isList (fun h' hk => ?_) (by rw [List.size_toArray, ← rv.length]; exact hz)
      have I1 : Inv X pins σ H { s with heap := h' } := I.kept (t' := s.toks) hk
      have I2 := tup_laid (tk := s.toks) I1 rv hz
      obtain ⟨e3, S3⟩ := S.fixed (o := .frz (tupO its) (.tup vs)) (I1.hok.fresh (Nat.le_refl h'.objs.size))
      exact ⟨.ref h'.objs.size, _, I2, rfl, hq _ _ _ (.d (.tup ys)) _ _ e3 S3 (tup_rep upd_same rfl (Reps.mono e3.same _ _ p1)) o⟩
    · rename_i ys l
      obtain ⟨a, vs, rfl, f1, p1⟩ := look_tupP S r0 l
      cases (show u = Value.ref a from ru)
      obtain ⟨its, rv, pl, hz⟩ := I.tuple (hK ▸ SqT.mono S.same f1.sq)
      exact call_tuple_same (items := its.toArray) pl ⟨.ref a, H, I, rfl, hq _ _ _ (.d (.tup ys)) _ _ .refl S (by simp only [RepW, Rep]; exact ⟨a, vs, rfl, f1, p1⟩) o⟩
    · cases o
  · cases o
theorem c_listOf (hK : X.K = G.K) : CallR X (.type "list") (upRN G oListOf) := CallR.imp call_list_of fun xs H Q q => by
  obtain ⟨F, ι, cs, ws, Q0, S, r, o, hq⟩ := q
  unfold oListOf at o
  split at o
  · obtain ⟨v, rfl, r0⟩ := pair1 r
    split at o
    · rename_i ys l
      obtain ⟨a, vs, rfl, h1, p1⟩ := look_lst S r0 l
      refine ⟨a, vs, rfl, .inl (SqL.of h1), fun p hp => ?_⟩
      obtain ⟨e3, S3⟩ := S.owned (o := .lst vs) (x := .lst ys) hp fun ι' => ⟨S.dead hp, _, upd_same, p1⟩
      exact hq _ _ _ (.c cs.length) _ _ e3 S3 ⟨p, by rw [← S.len]; simp [Pl.add], rfl⟩ o
    · rename_i ys l
      obtain ⟨a, vs, rfl, h1, _, p1⟩ := look_tup' S r0 l
      refine ⟨a, vs, rfl, .inr (hK ▸ h1), fun p hp => ?_⟩
      obtain ⟨e3, S3⟩ := S.owned (o := .lst vs) (x := .lst ys) hp fun ι' => ⟨S.dead hp, _, upd_same, p1⟩
      exact hq _ _ _ (.c cs.length) _ _ e3 S3 ⟨p, by rw [← S.len]; simp [Pl.add], rfl⟩ o
    · cases o
  · cases o
/-- the module's name x is a tuple of these, without a dict of its own -/
def tupM (K : PySem.W.Frag) (x : Str) (vs : List V) : Bool := match K.lookup (He.ga K x) with
  | some ⟨.type c, none, .seq its _, _⟩ => decide (c = "tuple") && (decide (its.size ≤ sizeLine) && He.relAll vs its.toList)
  | _ => false
theorem tupM_ok {K : PySem.W.Frag} {x : Str} {vs : List V} (h : tupM K x vs = true) (F : Hp) : PTu K F (He.ga K x) vs := by
  unfold tupM at h
  cases q : K.lookup (He.ga K x) with
  | none =>
    rw [q] at h
    cases h
  | some o =>
    obtain ⟨oc, od, dt, osl⟩ := o
    rw [q] at h
    cases oc with
    | type c =>
      cases od with
      | none =>
        cases dt with
        | seq its n =>
          simp only [Bool.and_eq_true, decide_eq_true_eq] at h
          obtain ⟨h1, h2, h3⟩ := h
          exact ⟨_, rfl, .inr ⟨its, n, q, by rw [h1], rfl, h2, He.relAll_ok h3⟩⟩
        | _ => cases h
      | some d => cases dt <;> cases h
    | _ => cases od <;> cases dt <;> cases h
variable {Wx : WX} {pos : Pos}
/-- the name of such a tuple of texts -/
theorem e_gtup {x : Str} {ts : List Str} (hg : Gl X x) (hm : X.mg x = some (.ref (He.ga X.K x))) (hK : X.K = G.K) (hv : tupM X.K x (ts.map V.str) = true) (hk : ts.all PyData.strOk = true) (hd : (x == ("__debug__" : Str)) = false := by decide) :
    DE X G Wx (.Name x pos) (dC (.tup (ts.map D.str))) :=
  e_glob (v := .ref (He.ga X.K x)) hg hm rfl (fun F => by
    simp only [Rep]
    refine ⟨_, _, rfl, (by rw [← hK]; exact tupM_ok hv F), ?_⟩
    have hk := List.all_eq_true.mp hk
    clear hm hv
    induction ts with
    | nil => simp [Reps]
    | cons t r ih =>
      simp only [List.map_cons, Reps]
      exact ⟨_, _, rfl, by simp only [Rep]; exact ⟨True.intro, hk t List.mem_cons_self⟩, ih (List.all_eq_true.mpr fun z hz => hk z (List.mem_cons_of_mem _ hz)) fun z hz => hk z (List.mem_cons_of_mem _ hz)⟩) hd
end
def dPar3 (i j l : Nat) (t : DA) : DS := fun D env cs => t env cs (fun ws cs1 => match ws with
  | [u, v, w] => D.nx (((env.set i (some u)).set j (some v)).set l (some w)) cs1
  | _ => False) fun x cs1 => D.ex x env cs1
section
variable {X : Cx} {G : Gam} {Wx : WX} {pos : Pos}
theorem s_par3 {i j l : Nat} {x y z : Str} {a b c : Expr} {ta : DA} {px py pz pt : Pos} {kt k2 pt2} (hc : X.calm = true) (hN : X.N.Nodup) (hi : X.N[i]? = some x) (hj : X.N[j]? = some y) (hl : X.N[l]? = some z) (hij : i ≠ j) (hil : i ≠ l) (hjl : j ≠ l)
    (hx : X.env.scope.names.lookup x = some .local) (hy : X.env.scope.names.lookup y = some .local) (hz : X.env.scope.names.lookup z = some .local) (ha : DAs X G Wx [a, b, c] ta)
    (hw : swappedStores [.Tuple [.Name x px, .Name y py, .Name z pz] kt pt] (.Tuple [a, b, c] k2 pt2) X.env = pure (some [x, y, z])) (hs : swapsWithSole [.Tuple [.Name x px, .Name y py, .Name z pz] kt pt] (.Tuple [a, b, c] k2 pt2) pos.line X.env = pure false := by rfl) :
    DSt X G Wx (.Assign [.Tuple [.Name x px, .Name y py, .Name z pz] kt pt] (.Tuple [a, b, c] k2 pt2) pos) (dPar3 i j l ta) :=
  PS.imp (ps_par3 hc hN hi hj hl hij hil hjl hx hy hz ha hw hs) fun D σ H h => by
    obtain ⟨F, ι, env, cs, D0, S, R, t, h1, h2, h3, h4, h5⟩ := h
    refine ⟨F, ι, env, cs, _, _, S, R, t, fun F1 ι1 cs1 ws vs H1 e1 S1 r1 q1 => ?_, fun F1 ι1 cs1 x cls od H1 e1 S1 r1 q1 => h5 F1 ι1 cs1 x cls od env σ H1 e1 S1 (R.mono e1) r1 q1⟩
    cases r1 with
    | nil => cases q1
    | cons r1 t1 =>
      cases t1 with
      | nil => cases q1
      | cons r2 t2 =>
        cases t2 with
        | nil => cases q1
        | cons r3 t3 =>
          cases t3 with
          | nil => exact ⟨_, _, _, rfl, h1 F1 ι1 cs1 _ _ H1 e1 S1 ((((R.mono e1).set r1).set r2).set r3) q1⟩
          | cons _ _ => cases q1
end
end DL
namespace DL
open PySem PySem.Spec L2
theorem log2_le {n k : Nat} (h : n < 2 ^ k) : n.log2 ≤ k := by
  by_cases h0 : n = 0
  · subst h0; simp
  · have := (Nat.log2_lt h0).mpr h
    omega
theorem cmul_small {i j : Int} (h : i.natAbs < 2 ^ 250) (h' : j.natAbs < 2 ^ 250) : CMulW i j := by
  unfold CMulW
  have a := log2_le h
  have b := log2_le h'
  omega
theorem lt_big {n : Nat} (h : n < 1000000000000000000000000000000) : n < 2 ^ 250 := Nat.lt_trans h (by decide)
theorem cmul_30 {i j : Int} (h : i.natAbs < 1000000000000000000000000000000) (h' : j.natAbs < 1000000000000000000000000000000) : CMulW i j := cmul_small (lt_big h) (lt_big h')
theorem cdiv_ok {i j : Int} (h0 : 0 < j) (h : j.natAbs < 2 ^ 250) : CDivW i j := ⟨h0, by have := log2_le h; omega⟩
theorem cpow_ok {i j : Int} (h : (decide (0 ≤ j) && decide (j ≤ 1000000) && decide (i.natAbs < 2 ^ 64)) = true) : CPow i j := by
  simp only [Bool.and_eq_true, decide_eq_true_eq] at h
  exact ⟨h.1.1, h.1.2, h.2⟩
theorem atI_lt {α : Type} {xs : List α} {k : Int} (h0 : 0 ≤ k) (h1 : k < xs.length) : ∃ x, atI xs k = some x ∧ xs[k.toNat]? = some x := by
  have hk : k.toNat < xs.length := by omega
  refine ⟨xs[k.toNat], ?_, List.getElem?_eq_getElem hk⟩
  have := atI_nat (List.getElem?_eq_getElem hk)
  rwa [show ((k.toNat : Nat) : Int) = k by omega] at this
theorem retD_d {n : Nat} {x : D} {cs : Cs} {Q : DQ} : retD n (.d x) cs Q = Q (.d x) (dropTo n cs) := rfl
theorem dropTo_cut {cs g : Cs} (h : closed cs) : dropTo cs.length (cs ++ g) = cs := (dropTo_append rfl).trans h
theorem dropTo_set {cs : Cs} {i : Nat} {x : Cell} (h : closed cs) (hx : plainC x = true) : dropTo cs.length (cs.set i x) = cs.set i x := by
  have := closed_set (i := i) h hx
  unfold closed at this
  rwa [List.length_set] at this
theorem retD_new {cs : Cs} {xs : List D} {Q : DQ} (h : closed cs) : retD cs.length (.c cs.length) (cs ++ [.lst xs]) Q = Q (.c cs.length) (cs ++ [.lst xs]) := by
  unfold retD
  simp only [Nat.lt_irrefl, if_false, List.getElem?_concat_length]
  rw [dropTo_cut h]
theorem get_app {cs g : Cs} {i : Nat} {x : Cell} (h : cs[i]? = some x) : (cs ++ g)[i]? = some x := by
  rw [List.getElem?_append_left (List.getElem?_eq_some_iff.mp h).1]
  exact h
theorem set_app {cs g : Cs} {i : Nat} {x y : Cell} (h : cs[i]? = some x) : (cs ++ g).set i y = cs.set i y ++ g := List.set_append_left _ _ (List.getElem?_eq_some_iff.mp h).1
theorem get_set {cs : Cs} {i : Nat} {x y : Cell} (h : cs[i]? = some x) : (cs.set i y)[i]? = some y := List.getElem?_set_self (List.getElem?_eq_some_iff.mp h).1
theorem lcD_inv {g : DG} {tt : DB} {te : DT} {keep : Cs → Prop} {vs : List Nat} {env : Nv} {n : Nat} {Q : List D → Cs → Prop} (J : Cs → Prop) (R : W → Option D → Prop) (hk : ∀ cs, J cs → keep cs) :
    ∀ (items : List W) (acc : List D) (cs : Cs), J cs → acc.length + items.length ≤ sizeLine →
    (∀ x ∈ items, ∀ cs, J cs → ∀ (K : D → Cs → Prop) (K' : Cs → Prop), (∀ y cs4, R x (some y) → J (dropTo n cs4) → K y cs4) → (∀ cs2, R x none → J (dropTo n cs2) → K' cs2) →
      g x (wipeE env vs) cs fun env1 cs1 => tt env1 cs1 (fun b cs2 => if b = true then te env1 cs2 (fun w cs3 => fixW w cs3 K) noX else K' cs2) noX) →
    (∀ os cs', Paired R items os → J cs' → Q (acc ++ os.filterMap id) cs') → lcD g tt te keep vs env n Q items acc cs
  | [], acc, cs, hJ, _, _, hQ => ⟨hk cs hJ, by simpa using hQ [] cs .nil hJ⟩
  | x :: r, acc, cs, hJ, hl, hs, hQ => by
    simp only [List.length_cons] at hl
    refine ⟨hk cs hJ, hs x List.mem_cons_self cs hJ _ _ (fun y cs4 hR hJ' => ⟨by omega, ?_⟩) fun cs2 hR hJ' => ?_⟩
    · refine lcD_inv J R hk r (acc ++ [y]) _ hJ' (by simp; omega) (fun x hx => hs x (List.mem_cons_of_mem _ hx)) fun os cs' hp hJ2 => ?_
      have := hQ (some y :: os) cs' (.cons hR hp) hJ2
      simpa using this
    · refine lcD_inv J R hk r acc _ hJ' (by omega) (fun x hx => hs x (List.mem_cons_of_mem _ hx)) fun os cs' hp hJ2 => ?_
      have := hQ (none :: os) cs' (.cons hR hp) hJ2
      simpa using this
theorem paired_eq {α β : Type} {f : α → β} : ∀ {xs : List α} {ys : List β}, Paired (fun x y => y = f x) xs ys → ys = xs.map f
  | _, _, .nil => rfl
  | _, _, .cons h t => by rw [h, paired_eq t]; rfl
/-- no test, a value for each item -/
theorem lcD_map {g : DG} {te : DT} {keep : Cs → Prop} {vs : List Nat} {env : Nv} {n : Nat} {Q : List D → Cs → Prop} (J : Cs → Prop) (f : W → D) (hk : ∀ cs, J cs → keep cs)
    (items : List W) (cs : Cs) (hJ : J cs) (hl : items.length ≤ sizeLine)
    (hs : ∀ x ∈ items, ∀ cs, J cs → ∀ K : D → Cs → Prop, (∀ cs4, J (dropTo n cs4) → K (f x) cs4) → g x (wipeE env vs) cs fun env1 cs1 => te env1 cs1 (fun w cs3 => fixW w cs3 K) noX)
    (hQ : ∀ cs', J cs' → Q (items.map f) cs') : lcD g dYes te keep vs env n Q items [] cs := by
  refine lcD_inv J (fun x o => o = some (f x)) hk items [] cs hJ (by simpa using hl) (fun x hx cs hJ K K' h1 h2 => ?_) fun os cs' hp hJ' => ?_
  · have := hs x hx cs hJ K fun cs4 hJ4 => h1 (f x) cs4 rfl hJ4
    simpa [dYes] using this
  · have e := paired_eq (f := fun x => some (f x)) hp
    subst e
    have : (items.map fun x => some (f x)).filterMap id = items.map f := by
      induction items with
      | nil => rfl
      | cons a r ih => simp
    simpa [this] using hQ cs' hJ'
/-- no test, a value for each item, of a kind -/
theorem lcD_all {g : DG} {te : DT} {keep : Cs → Prop} {vs : List Nat} {env : Nv} {n : Nat} {Q : List D → Cs → Prop} (J : Cs → Prop) (R : W → D → Prop) (hk : ∀ cs, J cs → keep cs)
    (items : List W) (cs : Cs) (hJ : J cs) (hl : items.length ≤ sizeLine)
    (hs : ∀ x ∈ items, ∀ cs, J cs → ∀ K : D → Cs → Prop, (∀ y cs4, R x y → J (dropTo n cs4) → K y cs4) → g x (wipeE env vs) cs fun env1 cs1 => te env1 cs1 (fun w cs3 => fixW w cs3 K) noX)
    (hQ : ∀ ys cs', Paired R items ys → J cs' → Q ys cs') : lcD g dYes te keep vs env n Q items [] cs := by
  refine lcD_inv J (fun x o => ∃ y, o = some y ∧ R x y) hk items [] cs hJ (by simpa using hl) (fun x hx cs hJ K K' h1 h2 => ?_) fun os cs' hp hJ' => ?_
  · have := hs x hx cs hJ K fun y cs4 hR hJ4 => h1 y cs4 ⟨y, rfl, hR⟩ hJ4
    simpa [dYes] using this
  · have : ∀ {xs : List W} {os : List (Option D)}, Paired (fun x o => ∃ y, o = some y ∧ R x y) xs os → Paired R xs (os.filterMap id) := by
      intro xs os h
      induction h with
      | nil => exact .nil
      | cons h t ih =>
        obtain ⟨y, rfl, hR⟩ := h
        exact .cons hR ih
    simpa using hQ _ cs' (this hp) hJ'
theorem forD_inv {g : DG} {tb : DS} {keep : Cs → Prop} {D : DEnds} (J : Nat → Nv → Cs → Prop) (hk : ∀ i env cs, J i env cs → keep cs) : ∀ (items : List W) (i : Nat) (env : Nv) (cs : Cs), J i env cs →
    (∀ j x, items[j]? = some x → ∀ env cs, J (i + j) env cs → ∀ D' : DEnds, D'.rt = D.rt → D'.ex = D.ex → D'.bk = D.nx → (∀ env' cs', J (i + j + 1) env' cs' → D'.nx env' cs') → (∀ env' cs', J (i + j + 1) env' cs' → D'.ct env' cs') → g x env cs fun env1 cs1 => tb D' env1 cs1) →
    (∀ env cs, J (i + items.length) env cs → D.nx env cs) → forD g tb keep D items env cs
  | [], i, env, cs, hJ, _, hQ => ⟨hk i env cs hJ, hQ env cs (by simpa using hJ)⟩
  | x :: r, i, env, cs, hJ, hs, hQ => by
    refine ⟨hk i env cs hJ, hs 0 x rfl env cs (by simpa using hJ) _ rfl rfl rfl (fun env' cs' hJ' => ?_) fun env' cs' hJ' => ?_⟩ <;>
    · refine forD_inv J hk r (i + 1) env' cs' (by simpa using hJ') (fun j x hx env cs hJ2 D' h1 h2 h3 h4 h5 => ?_) fun env cs hJ2 => hQ env cs ?_
      · refine hs (j + 1) x (by simpa using hx) env cs (by rw [show i + (j + 1) = i + 1 + j by omega]; exact hJ2) D' h1 h2 h3 (fun e c h => h4 e c ?_) fun e c h => h5 e c ?_
        · rw [show i + 1 + j + 1 = i + (j + 1) + 1 by omega]; exact h
        · rw [show i + 1 + j + 1 = i + (j + 1) + 1 by omega]; exact h
      · rw [List.length_cons, show i + (r.length + 1) = i + 1 + r.length by omega]; exact hJ2
section
variable {α : Type} {xs : List α}
theorem at_of {k : Int} {n : Nat} (h : k = n) : atI xs k = xs[n]? := by
  subst h
  cases e : xs[n]? with
  | some x => exact atI_nat e
  | none =>
    have hl := List.getElem?_eq_none_iff.mp e
    unfold atI ixN
    rw [if_pos (by omega), if_neg (by omega)]
    rfl
@[simp] theorem at0 : atI xs 0 = xs[0]? := at_of (n := 0) rfl
@[simp] theorem at1 : atI xs 1 = xs[1]? := at_of (n := 1) rfl
@[simp] theorem at2 : atI xs 2 = xs[2]? := at_of (n := 2) rfl
@[simp] theorem at3 : atI xs 3 = xs[3]? := at_of (n := 3) rfl
@[simp] theorem at4 : atI xs 4 = xs[4]? := at_of (n := 4) rfl
@[simp] theorem at5 : atI xs 5 = xs[5]? := at_of (n := 5) rfl
theorem ix_of {l : Nat} {k : Int} {n : Nat} (h : k = n) : ixN l k = if n < l then some n else none := by
  subst h
  unfold ixN
  rw [if_pos (by omega)]
  by_cases h : n < l
  · rw [if_pos (by omega), if_pos h]; simp
  · rw [if_neg (by omega), if_neg h]
@[simp] theorem ix0 {l : Nat} : ixN l 0 = if 0 < l then some 0 else none := ix_of (n := 0) rfl
@[simp] theorem ix1 {l : Nat} : ixN l 1 = if 1 < l then some 1 else none := ix_of (n := 1) rfl
@[simp] theorem ix2 {l : Nat} : ixN l 2 = if 2 < l then some 2 else none := ix_of (n := 2) rfl
@[simp] theorem ix3 {l : Nat} : ixN l 3 = if 3 < l then some 3 else none := ix_of (n := 3) rfl
end
theorem bools_map {α : Type} (l : List α) (p : α → Bool) : bools (l.map fun c => D.bl (p c)) = some (l.map p) := by
  induction l with
  | nil => rfl
  | cons a r ih => simp [bools, ih]
theorem signs_map (x : Str) : signs x = x.cps.toList.map fun c => D.str ⟨#[c]⟩ := rfl
theorem signs_len (x : Str) : (signs x).length = x.length := by simp [signs, Str.length]
theorem isFls_strs (l : List Str) : isFls (l.map D.str) = true := by
  induction l with
  | nil => rfl
  | cons a r ih => simp [isFls, isFl, ih]
theorem eqv_nil (l : List D) : PyData.eqv (py (.lst l)) (py (.lst [])) = l.isEmpty := by
  cases l with
  | nil => simp [py, pys, PyData.eqv, PyData.eqvAll]
  | cons a r => simp [py, pys, PyData.eqv, PyData.eqvAll]
@[simp] theorem isTag_non : isTag .non = true := rfl
@[simp] theorem tag_non : tag .non = "NoneType" := rfl
@[simp] theorem hasM_non : hasM .non = false := rfl
@[simp] theorem isTag_bl {b : Bool} : isTag (.bl b) = true := rfl
@[simp] theorem tag_bl {b : Bool} : tag (.bl b) = "bool" := rfl
@[simp] theorem hasM_bl {b : Bool} : hasM (.bl b) = false := rfl
@[simp] theorem isTag_int {b : Int} : isTag (.int b) = true := rfl
@[simp] theorem tag_int {b : Int} : tag (.int b) = "int" := rfl
@[simp] theorem hasM_int {b : Int} : hasM (.int b) = true := rfl
@[simp] theorem isTag_str {b : Str} : isTag (.str b) = true := rfl
@[simp] theorem tag_str {b : Str} : tag (.str b) = "str" := rfl
@[simp] theorem hasM_str {b : Str} : hasM (.str b) = true := rfl
@[simp] theorem isTag_tup {b : List D} : isTag (.tup b) = true := rfl
@[simp] theorem tag_tup {b : List D} : tag (.tup b) = "tuple" := rfl
@[simp] theorem hasM_tup {b : List D} : hasM (.tup b) = true := rfl
@[simp] theorem isTag_lst {b : List D} : isTag (.lst b) = true := rfl
@[simp] theorem tag_lst {b : List D} : tag (.lst b) = "list" := rfl
@[simp] theorem hasM_lst {b : List D} : hasM (.lst b) = true := rfl
@[simp] theorem isTag_dct {b : List (D × D)} : isTag (.dct b) = true := rfl
@[simp] theorem tag_dct {b : List (D × D)} : tag (.dct b) = "dict" := rfl
@[simp] theorem hasM_dct {b : List (D × D)} : hasM (.dct b) = true := rfl
@[simp] theorem isTag_scr {b : List Int} : isTag (.scr b) = true := rfl
@[simp] theorem tag_scr {b : List Int} : tag (.scr b) = "list" := rfl
@[simp] theorem hasM_scr {b : List Int} : hasM (.scr b) = true := rfl
@[simp] theorem tags_str : "str" ∈ tags := by simp [tags]
@[simp] theorem tags_int : "int" ∈ tags := by simp [tags]
@[simp] theorem tags_bool : "bool" ∈ tags := by simp [tags]
@[simp] theorem tags_list : "list" ∈ tags := by simp [tags]
@[simp] theorem tags_tuple : "tuple" ∈ tags := by simp [tags]
@[simp] theorem tags_dict : "dict" ∈ tags := by simp [tags]
@[simp] theorem depth_str (x : Str) : (py (.str x)).depth = 0 := by simp [py, PyData.depth]
@[simp] theorem eqv_strs (x y : Str) : PyData.eqv (py (.str x)) (py (.str y)) = (x == y) := by simp [py, PyData.eqv]
@[simp] theorem depth_int (x : Int) : (py (.int x)).depth = 0 := by simp [py, PyData.depth]
@[simp] theorem eqv_ints (x y : Int) : PyData.eqv (py (.int x)) (py (.int y)) = (x == y) := by simp [py, PyData.eqv]
@[simp] theorem get_at {cs g : Cs} {j : Nat} : (cs ++ g)[cs.length + j]? = g[j]? := by
  rw [List.getElem?_append_right (by omega)]
  congr 1
  omega
@[simp] theorem get_at0 {cs g : Cs} : (cs ++ g)[cs.length]? = g[0]? := get_at (j := 0)
@[simp] theorem set_at {cs g : Cs} {j : Nat} {x : Cell} : (cs ++ g).set (cs.length + j) x = cs ++ g.set j x := by
  rw [List.set_append_right _ _ (by omega)]
  congr 2
  omega
@[simp] theorem set_at0 {cs g : Cs} {x : Cell} : (cs ++ g).set cs.length x = cs ++ g.set 0 x := set_at (j := 0)
theorem join_len : ∀ ys : List Str, (Str.join "" ys).length = (ys.map (·.length)).sum
  | [] => rfl
  | [x] => by simp [Str.join]
  | x :: y :: r => by
    show (x ++ Str.ofString "" ++ Str.join "" (y :: r)).length = _
    rw [strLen_append, strLen_append, join_len (y :: r)]
    simp
    rfl
theorem join_mem : ∀ (ys : List Str), ∀ c ∈ (Str.join "" ys).cps.toList, ∃ y ∈ ys, c ∈ y.cps.toList
  | [], c, h => by cases h
  | [x], c, h => ⟨x, List.mem_cons_self, h⟩
  | x :: y :: r, c, h => by
    have h : c ∈ (x.cps ++ (Str.ofString "").cps ++ (Str.join "" (y :: r)).cps).toList := h
    simp only [Array.toList_append, List.mem_append] at h
    rcases h with (h | h) | h
    · exact ⟨x, List.mem_cons_self, h⟩
    · exact absurd h (by simp [show (Str.ofString "").cps = #[] from rfl])
    · obtain ⟨z, hz, hc⟩ := join_mem (y :: r) c h
      exact ⟨z, List.mem_cons_of_mem _ hz, hc⟩
theorem txts_strs (l : List Str) : txts (l.map D.str) = some l := by
  induction l with
  | nil => rfl
  | cons a r ih => simp [txts, ih]
theorem sum_ones : ∀ {l : List Str}, (∀ z ∈ l, z.length = 1) → (l.map (·.length)).sum = l.length
  | [], _ => rfl
  | a :: r, h => by
    simp only [List.map_cons, List.sum_cons, List.length_cons]
    rw [h a List.mem_cons_self, sum_ones fun z hz => h z (List.mem_cons_of_mem _ hz)]
    omega
def lookC : Option Cell → Option D
  | some (.lst xs) => some (.lst xs)
  | some (.dct kvs _) => some (.dct kvs)
  | some (.frz x) => some x
  | _ => none
theorem look_d {x : D} {cs : Cs} : look (.d x) cs = some x := rfl
theorem look_c {i : Nat} {cs : Cs} : look (.c i) cs = lookC cs[i]? := rfl
theorem lookC_lst {xs : List D} : lookC (some (.lst xs)) = some (.lst xs) := rfl
theorem lookC_dct {xs : List (D × D)} {o : Obj} : lookC (some (.dct xs o)) = some (.dct xs) := rfl
theorem lookC_frz {x : D} : lookC (some (.frz x)) = some x := rfl
def itM {α : Type} (o : Option α) (P : α → Prop) : Prop := ∃ x, o = some x ∧ P x
theorem itM_some {α : Type} {x : α} {P : α → Prop} : itM (some x) P = P x := by simp [itM]
def ixV (a b : Option D) (cs : Cs) (Q : DQ) : Prop := match b with
  | some (.int i) => (match a with
    | some (.lst xs) => itM (atI xs i) fun x => Q (.d x) cs
    | some (.tup xs) => itM (atI xs i) fun x => Q (.d x) cs
    | some (.scr xs) => itM (atI xs i) fun x => Q (.d (.int x)) cs
    | some (.str z) => z.length ≤ sizeLine ∧ itM (atI z.cps.toList i) fun c => Q (.d (.str ⟨#[c]⟩)) cs
    | _ => False)
  | _ => False
theorem oIx_v {a b : W} {cs : Cs} {Q : DQ} : oIx a b cs Q = ixV (look a cs) (look b cs) cs Q := by
  unfold oIx ixV
  cases look b cs with
  | none => rfl
  | some y =>
    cases y with
    | int i =>
      cases look a cs with
      | none => rfl
      | some x =>
        cases x with
        | lst xs => cases h : atI xs i <;> simp [h, itM]
        | tup xs => cases h : atI xs i <;> simp [h, itM]
        | scr xs => cases h : atI xs i <;> simp [h, itM]
        | str z => cases h : atI z.cps.toList i <;> simp [h, itM]
        | _ => rfl
    | _ => rfl
section
variable {xs ys : List D} {kvs : List (D × D)} {ns : List Int} {i j : Int} {z y : Str} {cs : Cs} {Q : DQ}
theorem ixV_lst : ixV (some (.lst xs)) (some (.int i)) cs Q = itM (atI xs i) fun x => Q (.d x) cs := rfl
theorem ixV_tup : ixV (some (.tup xs)) (some (.int i)) cs Q = itM (atI xs i) fun x => Q (.d x) cs := rfl
theorem ixV_scr : ixV (some (.scr ns)) (some (.int i)) cs Q = itM (atI ns i) fun x => Q (.d (.int x)) cs := rfl
theorem ixV_str : ixV (some (.str z)) (some (.int i)) cs Q = (z.length ≤ sizeLine ∧ itM (atI z.cps.toList i) fun c => Q (.d (.str ⟨#[c]⟩)) cs) := rfl
def addV (a b : Option D) (cs : Cs) (Q : DQ) : Prop := match a, b with
  | some (.int i), some (.int j) => Q (.d (.int (i + j))) cs
  | some (.str x), some (.str y) => x.length + y.length ≤ sizeLine ∧ Q (.d (.str (x ++ y))) cs
  | some (.tup xs), some (.tup ys) => xs.length + ys.length ≤ sizeLine ∧ Q (.d (.tup (xs ++ ys))) cs
  | some (.lst xs), some (.lst ys) => xs.length + ys.length ≤ sizeLine ∧ Q (.c cs.length) (cs ++ [.lst (xs ++ ys)])
  | _, _ => False
theorem oAdd_v {a b : W} : oAdd a b cs Q = addV (look a cs) (look b cs) cs Q := rfl
theorem addV_int : addV (some (.int i)) (some (.int j)) cs Q = Q (.d (.int (i + j))) cs := rfl
theorem addV_str : addV (some (.str z)) (some (.str y)) cs Q = (z.length + y.length ≤ sizeLine ∧ Q (.d (.str (z ++ y))) cs) := rfl
theorem addV_tup : addV (some (.tup xs)) (some (.tup ys)) cs Q = (xs.length + ys.length ≤ sizeLine ∧ Q (.d (.tup (xs ++ ys))) cs) := rfl
theorem addV_lst : addV (some (.lst xs)) (some (.lst ys)) cs Q = (xs.length + ys.length ≤ sizeLine ∧ Q (.c cs.length) (cs ++ [.lst (xs ++ ys)])) := rfl
def mulV (a b : Option D) (cs : Cs) (Q : DQ) : Prop := match a, b with
  | some (.int i), some (.int j) => CMulW i j ∧ Q (.d (.int (i * j))) cs
  | some (.lst xs), some (.int k) => -(2 ^ 63) ≤ k ∧ k < 2 ^ 63 ∧ xs.length * k.toNat ≤ sizeLine ∧ Q (.c cs.length) (cs ++ [.lst (List.replicate k.toNat xs).flatten])
  | _, _ => False
theorem oMul_v {a b : W} : oMul a b cs Q = mulV (look a cs) (look b cs) cs Q := rfl
theorem mulV_int : mulV (some (.int i)) (some (.int j)) cs Q = (CMulW i j ∧ Q (.d (.int (i * j))) cs) := rfl
theorem mulV_lst : mulV (some (.lst xs)) (some (.int j)) cs Q = (-(2 ^ 63) ≤ j ∧ j < 2 ^ 63 ∧ xs.length * j.toNat ≤ sizeLine ∧ Q (.c cs.length) (cs ++ [.lst (List.replicate j.toNat xs).flatten])) := rfl
def lenV (a : Option D) (cs : Cs) (Q : DQ) : Prop := match a with
  | some (.str x) => x.length ≤ sizeLine ∧ Q (.d (.int x.length)) cs
  | some (.lst xs) => Q (.d (.int xs.length)) cs
  | some (.tup xs) => Q (.d (.int xs.length)) cs
  | some (.scr xs) => Q (.d (.int xs.length)) cs
  | _ => False
theorem oLen_v {a : W} : oLen [a] cs Q = lenV (look a cs) cs Q := rfl
theorem lenV_str : lenV (some (.str z)) cs Q = (z.length ≤ sizeLine ∧ Q (.d (.int z.length)) cs) := rfl
theorem lenV_lst : lenV (some (.lst xs)) cs Q = Q (.d (.int xs.length)) cs := rfl
theorem lenV_tup : lenV (some (.tup xs)) cs Q = Q (.d (.int xs.length)) cs := rfl
theorem lenV_scr : lenV (some (.scr ns)) cs Q = Q (.d (.int ns.length)) cs := rfl
def slV (a : Option D) (lo hi : Option Int) (cs : Cs) (Q : DQ) : Prop := match a with
  | some (.str z) => z.length ≤ sizeLine ∧ Q (.d (.str (cutS z lo hi))) cs
  | some (.tup xs) => Q (.d (.tup (cutD xs lo hi))) cs
  | some (.lst xs) => Q (.c cs.length) (cs ++ [.lst (cutD xs lo hi)])
  | _ => False
variable {lo hi : Option Int}
theorem oSl_v {a : W} : oSl a lo hi cs Q = slV (look a cs) lo hi cs Q := rfl
theorem slV_str : slV (some (.str z)) lo hi cs Q = (z.length ≤ sizeLine ∧ Q (.d (.str (cutS z lo hi))) cs) := rfl
theorem slV_tup : slV (some (.tup xs)) lo hi cs Q = Q (.d (.tup (cutD xs lo hi))) cs := rfl
theorem slV_lst : slV (some (.lst xs)) lo hi cs Q = Q (.c cs.length) (cs ++ [.lst (cutD xs lo hi)]) := rfl
def inV (neg : Bool) (a b : Option D) (cs : Cs) (Q : DQ) : Prop := match a, b with
  | some x, some (.lst ys) => isFl x = true ∧ isFls ys = true ∧ min (PyData.depthAll (pys ys)) (py x).depth ≤ 60 ∧ Q (.d (.bl (neg ^^ ((pys ys).any fun y => PyData.eqv y (py x))))) cs
  | some x, some (.tup ys) => isFl x = true ∧ isFls ys = true ∧ min (PyData.depthAll (pys ys)) (py x).depth ≤ 60 ∧ Q (.d (.bl (neg ^^ ((pys ys).any fun y => PyData.eqv y (py x))))) cs
  | some (.str x), some (.str z) => (match x.cps.toList with
    | [c] => Q (.d (.bl (neg ^^ decide (c ∈ z.cps.toList)))) cs
    | _ => False)
  | _, _ => False
theorem oIn_v {neg : Bool} {a b : W} : orOp (oIn neg) (oInS neg) a b cs Q = inV neg (look a cs) (look b cs) cs Q := by
  unfold orOp oIn oInS inV
  cases look a cs with
  | none => simp
  | some x =>
    cases look b cs with
    | none => cases x <;> simp
    | some y => cases y <;> cases x <;> (try simp) <;> (try exact Iff.rfl)
variable {neg : Bool} {x : D}
theorem inV_lst : inV neg (some x) (some (.lst ys)) cs Q = (isFl x = true ∧ isFls ys = true ∧ min (PyData.depthAll (pys ys)) (py x).depth ≤ 60 ∧ Q (.d (.bl (neg ^^ ((pys ys).any fun y => PyData.eqv y (py x))))) cs) := by cases x <;> rfl
theorem inV_tup : inV neg (some x) (some (.tup ys)) cs Q = (isFl x = true ∧ isFls ys = true ∧ min (PyData.depthAll (pys ys)) (py x).depth ≤ 60 ∧ Q (.d (.bl (neg ^^ ((pys ys).any fun y => PyData.eqv y (py x))))) cs) := by cases x <;> rfl
theorem inV_sign {c : Nat} : inV neg (some (.str ⟨#[c]⟩)) (some (.str z)) cs Q = Q (.d (.bl (neg ^^ decide (c ∈ z.cps.toList)))) cs := rfl
def seqV (w : W) (a : Option D) (cs : Cs) (Q : List W → (Cs → Prop) → Cs → Prop) : Prop := match a with
  | some (.lst xs) => Q (xs.map .d) (fun cs' => look w cs' = some (.lst xs)) cs
  | some (.tup xs) => Q (xs.map .d) (fun _ => True) cs
  | some (.str x) => Q ((signs x).map .d) (fun _ => True) cs
  | _ => False
theorem diSeq_v {t : DT} {env : Nv} {Q : List W → (Cs → Prop) → Cs → Prop} {E : DX} : diSeq t env cs Q E = t env cs (fun w cs1 => seqV w (look w cs1) cs1 Q) E := rfl
variable {w : W} {Q2 : List W → (Cs → Prop) → Cs → Prop}
theorem seqV_lst : seqV w (some (.lst xs)) cs Q2 = Q2 (xs.map .d) (fun cs' => look w cs' = some (.lst xs)) cs := rfl
theorem seqV_tup : seqV w (some (.tup xs)) cs Q2 = Q2 (xs.map .d) (fun _ => True) cs := rfl
theorem seqV_str : seqV w (some (.str z)) cs Q2 = Q2 ((signs z).map .d) (fun _ => True) cs := rfl
def fixV (i : Nat) (a : Option Cell) (cs : Cs) (Q : D → Cs → Prop) : Prop := match a with
  | some (.frz x) => Q x cs
  | some (.lst xs) => Q (.lst xs) (cs.set i (.frz (.lst xs)))
  | some (.dct kvs _) => Q (.dct kvs) (cs.set i (.frz (.dct kvs)))
  | _ => False
variable {Q3 : D → Cs → Prop} {n : Nat} {o : Obj}
theorem fixW_d {x : D} : fixW (.d x) cs Q3 = Q3 x cs := rfl
theorem fixW_c : fixW (.c n) cs Q3 = fixV n cs[n]? cs Q3 := rfl
theorem fixV_frz {x : D} : fixV n (some (.frz x)) cs Q3 = Q3 x cs := rfl
theorem fixV_lst : fixV n (some (.lst xs)) cs Q3 = Q3 (.lst xs) (cs.set n (.frz (.lst xs))) := rfl
theorem fixV_dct : fixV n (some (.dct kvs o)) cs Q3 = Q3 (.dct kvs) (cs.set n (.frz (.dct kvs))) := rfl
theorem fixAll_nil {Q4 : List D → Cs → Prop} : fixAll [] cs Q4 = Q4 [] cs := rfl
theorem fixAll_cons {ws : List W} {Q4 : List D → Cs → Prop} : fixAll (w :: ws) cs Q4 = fixW w cs fun x cs1 => fixAll ws cs1 fun xs cs2 => Q4 (x :: xs) cs2 := rfl
end
theorem closed_drop {cs : Cs} {x : Cell} (h : closed cs) (hx : plainC x = true) : dropTo (cs.length + 1) (cs ++ [x]) = cs ++ [x] := by
  have := closed_app h hx
  unfold closed at this
  rwa [List.length_append] at this
section
variable {xs ys : List D} {kvs : List (D × D)} {z : Str} {cs : Cs} {Q : DQ} {x y : D}
def toV (a : Option D) (Q : List D → Prop) : Prop := match a with
  | some (.lst xs) => Q xs
  | some (.tup xs) => Q xs
  | _ => False
theorem oTupleOf_v {a : W} : oTupleOf [a] cs Q = toV (look a cs) fun xs => Q (.d (.tup xs)) cs := rfl
theorem oListOf_v {a : W} : oListOf [a] cs Q = toV (look a cs) fun xs => Q (.c cs.length) (cs ++ [.lst xs]) := rfl
variable {P : List D → Prop}
theorem toV_lst : toV (some (.lst xs)) P = P xs := rfl
theorem toV_tup : toV (some (.tup xs)) P = P xs := rfl
def lstV (a : Option Cell) (Q : List D → Prop) : Prop := match a with
  | some (.lst xs) => Q xs
  | _ => False
theorem lstV_lst : lstV (some (.lst xs)) P = P xs := rfl
variable {n : Nat} {u : W} {k : Int}
theorem oAppend_v : oAppend (.c n) [u] cs Q = fixW u cs fun x cs1 => lstV cs1[n]? fun xs => xs.length < sizeLine ∧ Q (.d .non) (cs1.set n (.lst (xs ++ [x]))) := rfl
theorem oInsert_v : oInsert (.c n) [.d (.int k), u] cs Q = fixW u cs fun x cs1 => lstV cs1[n]? fun xs => xs.length < sizeLine ∧ 0 ≤ k ∧ k < 2 ^ 63 ∧ Q (.d .non) (cs1.set n (.lst (xs.take k.toNat ++ [x] ++ xs.drop k.toNat))) := rfl
end
end DL
namespace DL
open PySem PySem.Spec L2
def pot (a b : Int) : Cell := .lst [.int a, .int b]
def potAt (i : Nat) (cs : Cs) : Prop := ∃ a b, cs[i]? = some (pot a b) ∧ 0 ≤ b ∧ b < 2147483648
def spPot : DSpec := fun ws cs Q E => ∃ ns k, ws = [.d (.scr ns), .d (.int k)] ∧ 0 ≤ k ∧ k < 100 ∧ ∀ a b, 0 ≤ b → b < 2147483648 → Q (.c cs.length) (cs ++ [pot a b])
def spDraw : DSpec := fun ws cs Q E => ∃ i m, ws = [.c i, .d (.int m)] ∧ potAt i cs ∧ 0 < m ∧ m < 2 ^ 250 ∧ ∀ r a b, 0 ≤ r → r < m → 0 ≤ b → b < 2147483648 → Q (.d (.int r)) (cs.set i (pot a b))
abbrev NPot : List Str := ["_law_script", "_law_k", "_law_cell"]
def tPot : DS :=
  dSeq (dAsg (dIf (dTest (dOp2 oLt (dVar 1) (dOpN oLen (dCons (dVar 0) (dNil))))) (dOp2 oIx (dVar 0) (dVar 1)) (dC (.int 0))) (dgName 2))
  (dRet (dLst (dCons (dOpN (oInt2 fun i j => .int (if j > i then j else i)) (dCons (dC (.int 0)) (dCons (dOp2 oSub (dOpN (oInt1 fun i => .int (if i < 0 then -i else i)) (dCons (dVar 2) (dNil))) (dOp2 oPow (dC (.int 10)) (dC (.int 18)))) (dNil)))) (dCons (dOp2 oMod (dOp2 oAdd (dOp2 oAdd (dOp2 oMul (dOp2 oMod (dOpN (oInt1 fun i => .int (if i < 0 then -i else i)) (dCons (dVar 2) (dNil))) (dC (.int 2147483587))) (dC (.int 48271))) (dOp2 oMul (dC (.int 60013)) (dVar 1))) (dC (.int 29))) (dC (.int 2147483647))) (dNil)))))
abbrev NDraw : List Str := ["_law_pot_here", "_law_many", "_law_digit"]
def tDraw : DS :=
  dSeq (dIfS (dTest (dOp2 oGt (dOp2 oIx (dVar 0) (dC (.int 0))) (dC (.int 0)))) (dSeq (dAsg (dOpN oDivmod (dCons (dOp2 oIx (dVar 0) (dC (.int 0))) (dCons (dVar 1) (dNil)))) (dgTup 2 (dgCons (dgSub (dVar 0) (dC (.int 0)) oSetL) (dgCons (dgName 2) (dgNil)))))
  (dRet (dVar 2))) (dNext))
  (dSeq (dAsg (dOp2 oMod (dOp2 oAdd (dOp2 oMul (dOp2 oIx (dVar 0) (dC (.int 1))) (dC (.int 39373))) (dC (.int 12227))) (dC (.int 2147483629))) (dgSub (dVar 0) (dC (.int 1)) oSetL))
  (dRet (dOp2 oMod (dOp2 oFDiv (dOp2 oMod (dOp2 oMul (dOp2 oIx (dVar 0) (dC (.int 1))) (dOp2 oIx (dVar 0) (dC (.int 1)))) (dC (.int 2147483563))) (dC (.int 13))) (dVar 1))))
theorem pot_app {cs g : Cs} {i : Nat} (h : potAt i cs) : potAt i (cs ++ g) := let ⟨a, b, h0, h1, h2⟩ := h; ⟨a, b, get_app h0, h1, h2⟩
theorem draw_ok {i : Nat} {m : Int} {cs : Cs} {Q : DQ} {E : DX} (h : potAt i cs) (h1 : 0 < m) (h2 : m < 2 ^ 250) (hq : ∀ r a b, 0 ≤ r → r < m → 0 ≤ b → b < 2147483648 → Q (.d (.int r)) (cs.set i (pot a b))) : spDraw [.c i, .d (.int m)] cs Q E := ⟨i, m, rfl, h, h1, h2, hq⟩
theorem p_pot : ∀ ws cs Q E, closed cs → spPot ws cs Q E → tPot (endsD cs.length Q E) (startE NPot ws) cs := by
  rintro ws cs Q E hc ⟨ns, k, rfl, h0, h1, hq⟩
  have fin : ∀ x : Int, ((60013 * k + 29) % 2147483647 < 2147483648 ∧ 0 ≤ (60013 * k + 29) % 2147483647) ∧ CMulW (x % 2147483587) 48271 ∧ CMulW 60013 k ∧ CPow 10 18 := fun x =>
    ⟨by omega, cmul_30 (by omega) (by omega), cmul_30 (by omega) (by omega), cpow_ok (by decide)⟩
  simp [dSeq, dIfS, dAsg, dIf, dTest, dOp2, dOp1, dOpN, dVar, dC, dCons, dNil, dgName, dRet, dRetN, dDrop, dNext, dLst, dTup, startE, endsD, oI, oInt1, oInt2, oNeg, oIs, oDivmod, dAnd, dOr, dNot, dAndV, dOrV, dNotV, dgSub, dgTup, dgCons, dgNil, oSetL, dPar, dPar3, dFor, diRange1, diRange2, dLc, dCall, dBM, isT, dSl, dP, dNoP, oEq, dChain, oRepr, oIsi, oBools, retD_d, isTy, dDict0, dDict, dPairs, isFl, isFls, isPy, isPys, isPyKV, look_d, look_c, lookC_lst, lookC_dct, lookC_frz, itM_some, oIx_v, ixV_lst, ixV_tup, ixV_scr, ixV_str, oAdd_v, addV_int, addV_str, addV_tup, addV_lst, oMul_v, mulV_int, mulV_lst, oLen_v, lenV_str, lenV_lst, lenV_tup, lenV_scr, oSl_v, slV_str, slV_tup, slV_lst, oIn_v, inV_lst, inV_tup, inV_sign, diSeq_v, seqV_lst, seqV_tup, seqV_str, fixW_d, fixW_c, fixV_frz, fixV_lst, fixV_dct, fixAll_nil, fixAll_cons, tPot]
  split
  · rename_i hlt
    obtain ⟨x, e, _⟩ := atI_lt h0 hlt
    simp only [e, itM_some]
    obtain ⟨_, f2, f3, f4⟩ := fin (if x < 0 then -x else x)
    refine ⟨f4, f2, f3, ?_⟩
    simp only [retD_new hc, List.length_cons, List.length_nil]
    exact ⟨by decide, hq _ _ (by omega) (by omega)⟩
  · obtain ⟨f1, f2, f3, f4⟩ := fin 0
    refine ⟨f4, cmul_30 (by decide) (by decide), f3, ?_⟩
    simp only [retD_new hc, List.length_cons, List.length_nil]
    exact ⟨by decide, hq _ _ f1.2 f1.1⟩
theorem p_draw : ∀ ws cs Q E, closed cs → spDraw ws cs Q E → tDraw (endsD cs.length Q E) (startE NDraw ws) cs := by
  rintro ws cs Q E hc ⟨i, m, rfl, ⟨a, b, hi, b0, b1⟩, h0, h1, hq⟩
  have hs : ∀ xs, (cs.set i (.lst xs))[i]? = some (.lst xs) := fun xs => get_set hi
  have hd : ∀ xs, dropTo cs.length (cs.set i (.lst xs)) = cs.set i (.lst xs) := fun xs => dropTo_set hc rfl
  simp [dSeq, dIfS, dAsg, dIf, dTest, dOp2, dOp1, dOpN, dVar, dC, dCons, dNil, dgName, dRet, dRetN, dDrop, dNext, dLst, dTup, startE, endsD, oI, oInt1, oInt2, oNeg, oIs, oDivmod, dAnd, dOr, dNot, dAndV, dOrV, dNotV, dgSub, dgTup, dgCons, dgNil, oSetL, dPar, dPar3, dFor, diRange1, diRange2, dLc, dCall, dBM, isT, dSl, dP, dNoP, oEq, dChain, oRepr, oIsi, oBools, retD_d, isTy, dDict0, dDict, dPairs, isFl, isFls, isPy, isPys, isPyKV, look_d, look_c, lookC_lst, lookC_dct, lookC_frz, itM_some, oIx_v, ixV_lst, ixV_tup, ixV_scr, ixV_str, oAdd_v, addV_int, addV_str, addV_tup, addV_lst, oMul_v, mulV_int, mulV_lst, oLen_v, lenV_str, lenV_lst, lenV_tup, lenV_scr, oSl_v, slV_str, slV_tup, slV_lst, oIn_v, inV_lst, inV_tup, inV_sign, diSeq_v, seqV_lst, seqV_tup, seqV_str, fixW_d, fixW_c, fixV_frz, fixV_lst, fixV_dct, fixAll_nil, fixAll_cons, tDraw, hi, pot, hs, hd]
  split
  · exact ⟨cdiv_ok h0 (by omega), hq _ _ _ (Int.emod_nonneg _ (by omega)) (Int.emod_lt_of_pos _ h0) b0 b1⟩
  · exact ⟨cmul_30 (by omega) (by omega), cmul_30 (by omega) (by omega), cdiv_ok (by decide) (by decide), h0, hq _ _ _ (Int.emod_nonneg _ (by omega)) (Int.emod_lt_of_pos _ h0) (by omega) (by omega)⟩
/-- the cells as they were, but for the pot -/
structure St (cs : Cs) (i : Nat) (B : Cs) : Prop where
  cl : closed B
  ex : ∃ a b, 0 ≤ b ∧ b < 2147483648 ∧ B = cs.set i (pot a b)
  at_ : ∃ x, cs[i]? = some x
theorem St.init {cs : Cs} {i : Nat} (hc : closed cs) (h : potAt i cs) : St cs i cs := by
  obtain ⟨a, b, h0, h1, h2⟩ := h
  obtain ⟨hl, e⟩ := List.getElem?_eq_some_iff.mp h0
  exact ⟨hc, ⟨a, b, h1, h2, by rw [← e, List.set_getElem_self]⟩, ⟨_, h0⟩⟩
theorem St.next {cs B : Cs} {i : Nat} {a b : Int} (S : St cs i B) (h1 : 0 ≤ b) (h2 : b < 2147483648) : St cs i (B.set i (pot a b)) := by
  obtain ⟨a', b', _, _, e⟩ := S.ex
  exact ⟨closed_set S.cl rfl, ⟨a, b, h1, h2, by rw [e, List.set_set]⟩, S.at_⟩
theorem St.len {cs B : Cs} {i : Nat} (S : St cs i B) : B.length = cs.length := by
  obtain ⟨a, b, _, _, e⟩ := S.ex
  rw [e, List.length_set]
theorem St.pot {cs B : Cs} {i : Nat} (S : St cs i B) : potAt i B := by
  obtain ⟨a, b, h1, h2, e⟩ := S.ex
  obtain ⟨x, hx⟩ := S.at_
  exact ⟨a, b, by rw [e]; exact get_set hx, h1, h2⟩
theorem St.fin {cs B g : Cs} {i : Nat} {P : Cs → Prop} (S : St cs i B) (h : ∀ a b, 0 ≤ b → b < 2147483648 → P (cs.set i (DL.pot a b))) : P (dropTo cs.length (B ++ g)) := by
  rw [← S.len, dropTo_cut S.cl]
  obtain ⟨a, b, h1, h2, e⟩ := S.ex
  rw [e]
  exact h a b h1 h2
theorem St.fin0 {cs B : Cs} {i : Nat} {P : Cs → Prop} (S : St cs i B) (h : ∀ a b, 0 ≤ b → b < 2147483648 → P (cs.set i (DL.pot a b))) : P (dropTo cs.length B) := by
  have := S.fin (g := []) (P := P) h
  simpa using this
theorem pot_set {B g : Cs} {i : Nat} {p : Cell} (h : potAt i B) : (B ++ g).set i p = B.set i p ++ g := let ⟨a, b, h0, _⟩ := h; set_app h0
theorem draw_st {cs B g : Cs} {i : Nat} {m : Int} {Q : DQ} {E : DX} (S : St cs i B) (h1 : 0 < m) (h2 : m < 2 ^ 250) (h : ∀ r B', 0 ≤ r → r < m → St cs i B' → Q (.d (.int r)) (B' ++ g)) : spDraw [.c i, .d (.int m)] (B ++ g) Q E := by
  refine draw_ok (pot_app S.pot) h1 h2 fun r a b r0 r1 b0 b1 => ?_
  rw [pot_set S.pot]
  exact h r _ r0 r1 (S.next b0 b1)
theorem draw_st0 {cs B : Cs} {i : Nat} {m : Int} {Q : DQ} {E : DX} (S : St cs i B) (h1 : 0 < m) (h2 : m < 2 ^ 250) (h : ∀ r B', 0 ≤ r → r < m → St cs i B' → Q (.d (.int r)) B') : spDraw [.c i, .d (.int m)] B Q E :=
  draw_ok S.pot h1 h2 fun r a b r0 r1 b0 b1 => h r _ r0 r1 (S.next b0 b1)
theorem mem_at {α : Type} {xs : List α} {k : Int} {n : Int} (h0 : 0 ≤ k) (h1 : k < n) (hn : (xs.length : Int) = n) : ∃ x, atI xs k = some x ∧ x ∈ xs := by
  obtain ⟨x, e, e2⟩ := atI_lt (xs := xs) h0 (by omega)
  exact ⟨x, e, List.mem_of_getElem? e2⟩
end DL
namespace DL
open PySem PySem.Spec L2
section
variable {P : Program} {w : World} {K : PySem.W.Frag} {a : Addr} {ob : Obj} {xs : List V}
/-- the script is tracked, unless it is the text's own -/
def scrH (K : PySem.W.Frag) (a : Addr) (ob : Obj) (xs : List V) : Hp := fun b => if b = a ∧ K.lookup a = none then some (.frz ob (.lst xs)) else none
theorem scrH_some {b : Addr} {u : HO} (h : scrH K a ob xs b = some u) : b = a ∧ K.lookup a = none ∧ u = .frz ob (.lst xs) := by
  unfold scrH at h
  split at h
  · rename_i c
    exact ⟨c.1, c.2, (Option.some.inj h).symm⟩
  · cases h
theorem scrH_none {b : Addr} (h : b = a → K.lookup a = none → False) : scrH K a ob xs b = none := if_neg fun c => h c.1 c.2
theorem end_call {mg mb : Str → Option Value} {G : Gam} {k : Nat} {f : Addr} {fd : FuncData} {x : Str} {sp : DSpec} {s : Shared} {vs : List Value} {ns : List Int} (hK : G.K = K)
    (inK : K.In s.heap) (nsG : s.heap.Ns mainGlobals mg) (nsB : s.heap.Ns builtinsNs mb) (boot : ∀ x : Str, x ≠ "__name__" → mb x = bootBuiltins x) (lim : s.heap.NoLimit) (gens : s.gens = #[])
    (scr : s.heap.get? a = some { cls := .type "list", data := .seq vs.toArray }) (intsA : PyProof.Rows.IntsAre vs ns) (few : ns.length ≤ sizeLine) (room : Room k callerA)
    (fn : ∀ base : Heap, K.In base → base.Ns mainGlobals mg → FnD P w K mg base G k f fd [x] sp) (bind : ∀ (s : Shared) (u : Value), BindsTo s fd ⟨[u], []⟩ [(x, u)])
    (law : sp [.d (.scr ns)] [] (fun w _ => w = .d (.bl true)) fun _ _ => False) :
    codeAny (model P w) callerA (.call (.ref f) ⟨[.ref a], []⟩) (fun r s' => r = .ok (.ret (.bool true)) ∧ OldK s.heap s'.heap ∧ s'.os = s.os ∧ PyProof.Rows.AllBare s'.gens) s := by
  generalize hob : ({ cls := .type "list", data := .seq vs.toArray } : Obj) = ob at scr
  have intsA' := vals_ints intsA
  have nlen := intsA.length
  generalize hH : scrH K a ob (ns.map V.int) = H
  have some_ : ∀ {b u}, H b = some u → b = a ∧ K.lookup a = none ∧ u = .frz ob (.lst (ns.map V.int)) := fun {b u} e => scrH_some (hH ▸ e)
  have free : ∀ {b o}, s.heap.get? b = some o → (b = a → K.lookup a ≠ none ∨ o ≠ ob) → (hidT s.heap H).get? b = some o := fun {b o} e n => hidT_get e (by
    subst hH
    refine scrH_none fun e1 e2 => ?_
    subst e1
    rcases n rfl with n | n
    · exact n e2
    · rw [scr] at e; cases e; exact n rfl)
  have dict_ : ∀ {b : Addr} {m : Str → Option Value}, s.heap.Ns b m → (hidT s.heap H).Ns b m := fun {b m} h => by
    obtain ⟨o, es, ep, e, d, r⟩ := h
    refine ⟨o, es, ep, free e fun _ => .inr fun z => ?_, d, r⟩
    rw [z, ← hob] at d
    cases d
  have inB : K.In (hidT s.heap H) := fun b o e => free (inK b o e) fun z => .inl (by rw [← z, e]; simp)
  have modB : Mod K mg (hidT s.heap H) := by
    obtain ⟨mc, l1, l2⟩ := lim
    exact ⟨inB, dict_ nsG, ⟨mb, dict_ nsB, boot⟩, ⟨mc, dict_ l1, l2⟩⟩
  have hokH : HOk P w H s.heap := fun b u e => by
    obtain ⟨rfl, _, rfl⟩ := some_ e
    refine ⟨scr, by rw [List.length_map]; exact few, vs, 0, intsA', ?_⟩
    rw [scr, ← hob]
  have env0 : Env0 P w K mg (hidT s.heap H) callerA [] s H :=
    Env0.mk rfl modB (fun b o e => of_hidT e) (Nat.le_of_eq (hidT_size s.heap H)) trivial (fun b hb => absurd (show b ∈ ([] : List Addr) from hb) (by simp)) hokH (.of_eq gens)
  have seqA : SqL G.K H a (ns.map V.int) := by
    rw [hK]
    cases e : K.lookup a with
    | none => exact .inl (.inr ⟨ob, by subst hH; exact if_pos ⟨rfl, e⟩⟩)
    | some o =>
      have e2 := inK a o e
      rw [scr] at e2; cases e2
      subst hob
      exact .inr ⟨_, vs.toArray, 0, e, rfl, rfl, rfl, by rw [List.size_toArray, nlen]; exact few, intsA'⟩
  have sim : Sim G H ⟨[], fun _ => none⟩ [] H := ⟨Same.refl _, rfl, NdF.nil, fun i x e => by simp at e, (fun b u e => by cases e), fun b e => absurd rfl e⟩
  have rep : Paired (RepW G H ⟨[], fun _ => none⟩) [.d (.scr ns)] [V.ref a] := .cons (by simp only [RepW, Rep]; exact ⟨a, rfl, seqA⟩) .nil
  refine codeAny_mono ((fn _ inB (dict_ nsG)).run callerA [] s H ⟨[.ref a], []⟩ [.ref a] [.ref a] H ⟨[], fun _ => none⟩ [] [.d (.scr ns)] _ _ (fun v _ => v = .bl true) (fun _ _ _ => False) rfl room env0 (bind s (.ref a)) (.cons rfl .nil) sim rep law
    (fun F' ι' cs' w v H' _ _ r q => by subst q; simpa only [RepW, Rep] using r) fun _ _ _ _ _ _ _ _ _ _ q => q) fun r s' h => ?_
  match r, h with
  | .error e, h =>
    obtain ⟨_, _, _, _, _, _, _, _, _, _, _, _, z⟩ := h
    exact z.elim
  | .ok .next, h => exact h.elim
  | .ok .brk, h => exact h.elim
  | .ok .cont, h => exact h.elim
  | .ok (.ret u), h =>
    obtain ⟨v, H', os, bare, un, hok', rv, q⟩ := h
    have q : v = .bl true := q
    subst q
    have rv : u = Value.bool true := rv
    subst rv
    refine ⟨rfl, OldK.of_keep fun b o e => ?_, os, bare⟩
    cases hb : H b with
    | none => exact un.keep b o e hb (fun z => by cases z) (fun z => by cases z)
    | some u =>
      obtain ⟨rfl, _, rfl⟩ := some_ hb
      have := (hok' b _ (un.frzs b ob _ hb)).1
      rw [scr] at e; cases e
      exact this
end
/-- the walk's end: from the facts of the head to the row -/
theorem end_of {l : PySem.W.OpenLaw} {n k : Nat} {q : Program} {loose : List Str} {XP : (Str → Option Value) → Heap → Prop} {YP : World → Heap → Prop} {d : DefRec} {x : Str}
    (most : l.most = some n) (small : n ≤ sizeLine) (plain : d.params.defaults = []) (room : Room k callerA)
    (fn : ∀ (w : World) (mg : Str → Option Value) (f : Addr) (h : Heap), YP w h → h.Ns mainGlobals mg → mg d.name = some (.ref f) →
      ∃ (G : Gam) (fd : FuncData) (sp : DSpec), G.K.In h ∧ (∀ (s : Shared) (u : Value), BindsTo s fd ⟨[u], []⟩ [(x, u)]) ∧
        (∀ ns : List Int, ns.length ≤ n → sp [.d (.scr ns)] [] (fun w _ => w = .d (.bl true)) fun _ _ => False) ∧
        ∀ base : Heap, G.K.In base → base.Ns mainGlobals mg → FnD l.prog w G.K mg base G k f fd [x] sp) :
    PySem.W.WalkO q loose XP YP l.row.toRowW d [] (fun f vs => PySem.call f vs) :=
  Att.attach_call most plain fun w s₀ s₁ mg mb fa o pm cd doc a vs ns G Y ho hd hcd hmg hobj hints hlen hg => by
    obtain ⟨Γ, fd, sp, inK, bind, law, fn⟩ := fn w mg fa _ Y G.T.g hmg
    exact end_call rfl inK G.T.g G.T.b G.T.builtins G.T.nolimit hg hobj hints (Nat.le_trans hlen small) room fn bind (law ns hlen)
def asM (g : Addr → Option Obj) (n : Nat) : List Addr := sysModules :: He.asD g n
abbrev AlM : Type := He.AlD × Bool
def obsM (n : Nat) (fa : List He.Fa) (fn : List He.DefD) (ck : PySem.W.Frag → Bool) (g : Addr → Option Obj) : AlM := (He.obsD fa fn (He.frG g (asM g n)), ((He.frG g (asM g n)).lookup sysModules).isSome && ck (He.frG g (asM g n)))
def hookM (n : Nat) (fa : List He.Fa) (fn : List He.DefD) (ck : PySem.W.Frag → Bool) : PySem.W.Hook where
  α := AlM
  obs := fun s => obsM n fa fn ck s.heap.get?
  val := fun _ => (He.valD fn, true)
  says := fun _ h => ∃ K : PySem.W.Frag, K.In h ∧ He.SaysD fa fn K ∧ ((K.lookup sysModules).isSome && ck K) = true
  of := fun _ _ e => ⟨_, He.frG_in, congrArg Prod.fst e, congrArg Prod.snd e⟩
  keeps := fun _ _ _ ⟨K, hK, c, d⟩ k => ⟨K, PySem.W.Frag.In.keeps hK k, c, d⟩
theorem obsM_eq {n : Nat} {fa : List He.Fa} {fn : List He.DefD} {ck : PySem.W.Frag → Bool} {g : Addr → Option Obj} {s : Shared} (h : ∀ a, g a = s.heap.get? a) : obsM n fa fn ck g = (hookM n fa fn ck).obs s := by
  have e : g = s.heap.get? := funext h
  rw [e] <;> rfl
theorem sys_in {K : PySem.W.Frag} {base : Heap} {b : Bool} (c : ((K.lookup sysModules).isSome && b) = true) (h : K.In base) : (base.get? sysModules).isSome = true := by
  obtain ⟨o, e⟩ := Option.isSome_iff_exists.mp (Bool.and_eq_true_iff.mp c).1
  rw [h _ _ e]
  rfl
end DL
namespace K31
open PySem PySem.Spec L2 DL
def lets : Str := "abcdefghijklmnopqrstuvwxyz"
def nm : D → Bool
  | .str x => decide (1 ≤ x.length ∧ x.length ≤ 8) && x.cps.toList.all fun c => decide (c ∈ lets.cps.toList)
  | _ => false
def isIdx (x : D) (n : Int) : Bool := match x with
  | .int i => decide (0 ≤ i ∧ i < n)
  | _ => false
def isArg (n : Int) (x : D) : Bool := nm x || isIdx x n
def isArgs (x : D) (n : Int) : Bool := match x with
  | .tup xs => decide (1 ≤ xs.length ∧ xs.length ≤ 3) && xs.all (isArg n)
  | _ => false
/-- the step `next` -/
def isNx (x : D) : Bool := match x with
  | .tup [.str z] => z == Str.ofString "next"
  | _ => false
def isWord (x : D) (z : Str) : Bool := match x with
  | .str y => y == z
  | _ => false
def isStep (n : Int) (x : D) : Bool := match x with
  | .tup [a] => isWord a "next"
  | .tup [a, b] => isWord a "say" && nm b
  | .tup [a, b, c] => isWord a "call" && nm b && isArgs c n
  | _ => false
def isBody (n : Int) (x : D) : Bool := match x with
  | .tup xs => xs.all (isStep n) && decide ((xs.filter isNx).length ≤ 1)
  | _ => false
mutual
/-- data as this law makes them: small, the only dict is the empty one -/
def okd : Nat → D → Bool
  | _, .non | _, .bl _ | _, .int _ => true
  | _, .str z => decide (z.length ≤ 1000)
  | k + 1, .tup xs | k + 1, .lst xs => okds k xs
  | _ + 1, .dct [] => true
  | _, _ => false
def okds : Nat → List D → Bool
  | _, [] => true
  | k, x :: xs => okd k x && okds k xs
end
/-- what may stand where a step stands: where it is compared as a whole, it holds no dict -/
def okStep (x : D) : Prop := okd 4 x = true ∧ (∀ xs, x = .tup xs → xs.length ≠ 2 → xs.length ≠ 3 → isFls xs = true ∨ ∃ kvs, xs = [.dct kvs]) ∧ ∀ a r, x = .tup (a :: r) → isFl a = true ∨ ∃ kvs, a = .dct kvs
def okBody (x : D) : Prop := okd 5 x = true ∧ (∀ xs, x = .tup xs → xs.length ≤ 100 ∧ ∀ y ∈ xs, okStep y) ∧ (py x).showable = true ∧ (py x).shown.length ≤ sizeLine
def wordOk (x : Str) : Prop := nm (.str x) = true ∧ PyData.strOk x = true
def sp__law_pot : DSpec := spPot
def sp__law_draw : DSpec := spDraw
def sp__law_name : DSpec := fun ws cs Q E => ∃ i, ws = [.c i] ∧ potAt i cs ∧ ∀ x a b, wordOk x → 0 ≤ b → b < 2147483648 → Q (.d (.str x)) (cs.set i (pot a b))
/-- a good step for n parameters -/
def goodStep (n : Int) (x : D) : Prop := okStep x ∧ isStep n x = true ∧ isFl x = true ∧ (py x).showable = true ∧ (py x).shown.length ≤ 100000
def sp__law_step : DSpec := fun ws cs Q E => ∃ i n, ws = [.c i, .d (.int n)] ∧ potAt i cs ∧ 1 ≤ n ∧ n ≤ 3 ∧ ∀ x a b, goodStep n x → 0 ≤ b → b < 2147483648 → Q (.d x) (cs.set i (pot a b))
def oddOk (x : D) : Prop := okd 2 x = true ∧ (py x).showable = true ∧ (py x).shown.length ≤ 1000 ∧ (isFl x = true ∨ ∃ kvs, x = .dct kvs)
def sp__law_odd_argument : DSpec := fun ws cs Q E => ∃ i n, ws = [.c i, .d (.int n)] ∧ potAt i cs ∧ 1 ≤ n ∧ n ≤ 3 ∧ ∀ x a b, oddOk x → 0 ≤ b → b < 2147483648 → Q (.d x) (cs.set i (pot a b))
def stepLike (x : D) : Prop := okStep x ∧ (py x).showable = true ∧ (py x).shown.length ≤ 400000
/-- a value that is taken for a body -/
def bodyLike (x : D) : Prop := ∀ xs, x = .tup xs → xs.length ≤ 100 ∧ ∀ y ∈ xs, okStep y
def sp__law_odd_step : DSpec := fun ws cs Q E => ∃ i n, ws = [.c i, .d (.int n)] ∧ potAt i cs ∧ 1 ≤ n ∧ n ≤ 3 ∧ ∀ x a b, stepLike x → bodyLike x → 0 ≤ b → b < 2147483648 → Q (.d x) (cs.set i (pot a b))
def sp__law_changed : DSpec := fun ws cs Q E => ∃ i j n xs, ws = [.c i, .c j, .d (.int n)] ∧ i ≠ j ∧ potAt i cs ∧ cs[j]? = some (.lst xs) ∧ xs.length ≤ 10 ∧ (∀ x ∈ xs, goodStep n x) ∧ 1 ≤ n ∧ n ≤ 3 ∧
  (∀ x a b, okBody x → 0 ≤ b → b < 2147483648 → Q (.d x) (cs.set i (pot a b))) ∧ ∀ ys a b, okBody (.lst ys) → 0 ≤ b → b < 2147483648 → Q (.c cs.length) (cs.set i (pot a b) ++ [.lst ys])
def sp_is_index : DSpec := fun ws cs Q E => ∃ x n, ws = [.d x, .d (.int n)] ∧ isTag x = true ∧ Q (.d (.bl (isIdx x n))) cs
def sp_is_name : DSpec := fun ws cs Q E => ∃ x, ws = [.d x] ∧ isTag x = true ∧ (∀ z, x = .str z → z.length ≤ sizeLine) ∧ Q (.d (.bl (nm x))) cs
def sp__law_is_word : DSpec := sp_is_name
def sp_are_arguments : DSpec := fun ws cs Q E => ∃ x n, ws = [.d x, .d (.int n)] ∧ okd 3 x = true ∧ Q (.d (.bl (isArgs x n))) cs
def sp__law_is_argument : DSpec := fun ws cs Q E => ∃ x n, ws = [.d x, .d (.int n)] ∧ isTag x = true ∧ (∀ z, x = .str z → z.length ≤ sizeLine) ∧ Q (.d (.bl (isArg n x))) cs
def sp_is_step : DSpec := fun ws cs Q E => ∃ x n, ws = [.d x, .d (.int n)] ∧ okStep x ∧ Q (.d (.bl (isStep n x))) cs
def sp__law_is_step : DSpec := sp_is_step
/-- the value at hand: a datum, or a list that is still owned -/
def val (w : W) (x : D) (cs : Cs) : Prop := look w cs = some x ∧ (w = .d x ∨ ∃ ys, x = .lst ys)
def sp_is_body : DSpec := fun ws cs Q E => ∃ w x n, ws = [w, .d (.int n)] ∧ val w x cs ∧ isTag x = true ∧ (∀ xs, x = .tup xs → xs.length ≤ 100 ∧ ∀ y ∈ xs, okStep y) ∧ Q (.d (.bl (isBody n x))) cs
def sp__law_is_body : DSpec := sp_is_body
def sp__law_right : DSpec := fun ws cs Q E => ∃ w x n, ws = [w, .d (.int n)] ∧ val w x cs ∧ okBody x ∧ Q (.d (.bl true)) cs
def sl__law_cell_right : DSpec := fun ws cs Q E => ∃ a b, ws = [.c 0] ∧ cs = [pot a b] ∧ 0 ≤ b ∧ b < 2147483648 ∧ ∀ a' b', Q (.d (.bl true)) [pot a' b']
def sp__law_cell_right : DSpec := loc sl__law_cell_right
def sp_law : DSpec := fun ws cs Q E => ∃ ns, ws = [.d (.scr ns)] ∧ cs = [] ∧ ns.length ≤ 63 ∧ ∀ cs', Q (.d (.bl true)) cs'
end K31
namespace K31
open PySem PySem.Spec L2 DL
def gw_is_body_0_count_value {α : Type} : List α → List α → List α
  | [], [w0, w1] => [w1, w0]
  | _, _ => []
abbrev N__law_draw : List Str := ["_law_pot_here", "_law_many", "_law_digit"]
/-- _law_draw(_law_pot_here, _law_many): slots 0=_law_pot_here 1=_law_many 2=_law_digit -/
def t__law_draw : DS :=
  dSeq (dIfS (dTest (dOp2 oGt (dOp2 oIx (dVar 0) (dC (.int 0))) (dC (.int 0)))) (dSeq (dAsg (dOpN oDivmod (dCons (dOp2 oIx (dVar 0) (dC (.int 0))) (dCons (dVar 1) (dNil)))) (dgTup 2 (dgCons (dgSub (dVar 0) (dC (.int 0)) oSetL) (dgCons (dgName 2) (dgNil)))))
  (dRet (dVar 2))) (dNext))
  (dSeq (dAsg (dOp2 oMod (dOp2 oAdd (dOp2 oMul (dOp2 oIx (dVar 0) (dC (.int 1))) (dC (.int 39373))) (dC (.int 12227))) (dC (.int 2147483629))) (dgSub (dVar 0) (dC (.int 1)) oSetL))
  (dRet (dOp2 oMod (dOp2 oFDiv (dOp2 oMod (dOp2 oMul (dOp2 oIx (dVar 0) (dC (.int 1))) (dOp2 oIx (dVar 0) (dC (.int 1)))) (dC (.int 2147483563))) (dC (.int 13))) (dVar 1))))
abbrev N__law_odd_argument : List Str := ["_law_pot_here", "_law_amount", "_law_options"]
/-- _law_odd_argument(_law_pot_here, _law_amount): slots 0=_law_pot_here 1=_law_amount 2=_law_options -/
def t__law_odd_argument : DS :=
  dSeq (dAsg (dLst (dCons (dC .non) (dCons (dC (.bl true)) (dCons (dC (.bl false)) (dCons (dOp1 oNeg (dC (.int 1))) (dCons (dVar 1) (dCons (dOp2 oPow (dC (.int 10)) (dC (.int 30))) (dCons (dC (.str "")) (dCons (dC (.str "A")) (dCons (dC (.str "nineletters")) (dCons (dC (.str "a b")) (dCons (dTup (dNil)) (dCons (dLst (dNil)) (dCons (dDict0) (dCons (dTup (dCons (dC (.int 0)) (dNil))) (dCons (dC (.str "0")) (dNil))))))))))))))))) (dgName 2))
  (dRet (dOp2 oIx (dVar 2) (dCall sp__law_draw 2 0 (fun us _ => us) (dCons (dVar 0) (dCons (dOpN oLen (dCons (dVar 2) (dNil))) (dNil))) dNil)))
abbrev N__law_odd_step : List Str := ["_law_pot_here", "_law_amount", "_law_odd", "_law_options"]
/-- _law_odd_step(_law_pot_here, _law_amount): slots 0=_law_pot_here 1=_law_amount 2=_law_odd 3=_law_options -/
def t__law_odd_step : DS :=
  dSeq (dAsg (dCall sp__law_odd_argument 2 0 (fun us _ => us) (dCons (dVar 0) (dCons (dVar 1) (dNil))) dNil) (dgName 2))
  (dSeq (dAsg (dLst (dCons (dC .non) (dCons (dC (.int 0)) (dCons (dC (.str "next")) (dCons (dC (.str "say")) (dCons (dTup (dNil)) (dCons (dLst (dNil)) (dCons (dDict0) (dCons (dTup (dCons (dC (.str "next")) (dCons (dC (.str "a")) (dNil)))) (dCons (dLst (dCons (dC (.str "next")) (dNil))) (dCons (dTup (dCons (dC (.str "say")) (dNil))) (dCons (dTup (dCons (dC (.str "say")) (dCons (dVar 2) (dNil)))) (dCons (dTup (dCons (dC (.str "Say")) (dCons (dC (.str "a")) (dNil)))) (dNil)))))))))))))) (dgName 3))
  (dSeq (dAsg (dOp2 oAdd (dVar 3) (dLst (dCons (dTup (dCons (dC (.str "say")) (dCons (dC (.str "a")) (dCons (dC (.str "b")) (dNil))))) (dCons (dTup (dCons (dC (.str "call")) (dCons (dC (.str "f")) (dNil)))) (dCons (dTup (dCons (dC (.str "call")) (dCons (dC (.str "f")) (dCons (dTup (dNil)) (dNil))))) (dCons (dTup (dCons (dC (.str "call")) (dCons (dC (.str "f")) (dCons (dLst (dCons (dC (.int 0)) (dNil))) (dNil))))) (dCons (dTup (dCons (dC (.str "call")) (dCons (dVar 2) (dCons (dTup (dCons (dC (.int 0)) (dNil))) (dNil))))) (dNil)))))))) (dgName 3))
  (dSeq (dAsg (dOp2 oAdd (dVar 3) (dLst (dCons (dTup (dCons (dC (.str "call")) (dCons (dC (.str "f")) (dCons (dTup (dCons (dVar 2) (dNil))) (dNil))))) (dCons (dTup (dCons (dC (.str "call")) (dCons (dC (.str "f")) (dCons (dTup (dCons (dC (.str "a")) (dCons (dVar 2) (dNil)))) (dNil))))) (dCons (dTup (dCons (dC (.str "call")) (dCons (dC (.str "f")) (dCons (dTup (dCons (dC (.int 0)) (dCons (dC (.str "a")) (dCons (dC (.int 0)) (dCons (dC (.str "a")) (dNil)))))) (dNil))))) (dCons (dTup (dCons (dC (.str "a")) (dCons (dC (.str "a")) (dNil)))) (dNil))))))) (dgName 3))
  (dSeq (dAsg (dOp2 oAdd (dVar 3) (dLst (dCons (dTup (dCons (dC (.str "call")) (dCons (dC (.str "f")) (dCons (dTup (dCons (dC (.int 0)) (dNil))) (dCons (dTup (dNil)) (dNil)))))) (dCons (dTup (dCons (dC (.str "call")) (dCons (dC (.str "f")) (dCons (dVar 2) (dNil))))) (dCons (dTup (dCons (dVar 2) (dCons (dC (.str "a")) (dNil)))) (dCons (dTup (dCons (dC (.str "next")) (dCons (dTup (dNil)) (dNil)))) (dCons (dTup (dCons (dC (.str "Next")) (dNil))) (dCons (dTup (dCons (dC (.str "call")) (dNil))) (dNil))))))))) (dgName 3))
  (dRet (dOp2 oIx (dVar 3) (dCall sp__law_draw 2 0 (fun us _ => us) (dCons (dVar 0) (dCons (dOpN oLen (dCons (dVar 3) (dNil))) (dNil))) dNil)))))))
def t__law_changed_7 : DS := dRet (dOpN oTupleOf (dCons (dVar 3) (dNil)))
def t__law_changed_6 : DS := dSeq (dIfS (dTest (dOp2 (oEq false) (dVar 4) (dC (.int 5)))) (dRet (dVar 3)) (dNext)) t__law_changed_7
def t__law_changed_5 : DS := dSeq (dIfS (dAnd (dTest (dOp2 (oEq false) (dVar 4) (dC (.int 4)))) (dTest (dOp2 (oEq true) (dVar 1) (dLst (dNil))))) (dDrop (dBM "list" oInsert (dVar 3) (dCons (dVar 5) (dCons (dOp2 oIx (dVar 3) (dOpN (oInt2 fun i j => .int (if j < i then j else i)) (dCons (dVar 5) (dCons (dOp2 oSub (dOpN oLen (dCons (dVar 1) (dNil))) (dC (.int 1))) (dNil))))) (dNil))))) (dNext)) t__law_changed_6
def t__law_changed_4 : DS := dSeq (dIfS (dAnd (dTest (dOp2 (oEq false) (dVar 4) (dC (.int 3)))) (dTest (dOp2 (oEq true) (dVar 1) (dLst (dNil))))) (dAsg (dOpN oListOf (dCons (dOp2 oIx (dVar 3) (dOpN (oInt2 fun i j => .int (if j < i then j else i)) (dCons (dVar 5) (dCons (dOp2 oSub (dOpN oLen (dCons (dVar 1) (dNil))) (dC (.int 1))) (dNil))))) (dNil))) (dgSub (dVar 3) (dOpN (oInt2 fun i j => .int (if j < i then j else i)) (dCons (dVar 5) (dCons (dOp2 oSub (dOpN oLen (dCons (dVar 1) (dNil))) (dC (.int 1))) (dNil)))) oSetL)) (dNext)) t__law_changed_5
def t__law_changed_3 : DS := dSeq (dIfS (dAnd (dTest (dOp2 (oEq false) (dVar 4) (dC (.int 2)))) (dTest (dOp2 (oEq true) (dVar 1) (dLst (dNil))))) (dAsg (dCall sp__law_odd_step 2 0 (fun us _ => us) (dCons (dVar 0) (dCons (dVar 2) (dNil))) dNil) (dgSub (dVar 3) (dOpN (oInt2 fun i j => .int (if j < i then j else i)) (dCons (dVar 5) (dCons (dOp2 oSub (dOpN oLen (dCons (dVar 1) (dNil))) (dC (.int 1))) (dNil)))) oSetL)) (dNext)) t__law_changed_4
def t__law_changed_2 : DS := dSeq (dIfS (dTest (dOp2 (oEq false) (dVar 4) (dC (.int 1)))) (dDrop (dBM "list" oInsert (dVar 3) (dCons (dVar 5) (dCons (dTup (dCons (dC (.str "next")) (dNil))) (dNil))))) (dNext)) t__law_changed_3
def t__law_changed_1 : DS := dSeq (dIfS (dTest (dOp2 (oEq false) (dVar 4) (dC (.int 0)))) (dDrop (dBM "list" oInsert (dVar 3) (dCons (dVar 5) (dCons (dCall sp__law_odd_step 2 0 (fun us _ => us) (dCons (dVar 0) (dCons (dVar 2) (dNil))) dNil) (dNil))))) (dNext)) t__law_changed_2
abbrev N__law_changed : List Str := ["_law_pot_here", "_law_steps", "_law_amount", "_law_found", "_law_way", "_law_place"]
/-- _law_changed(_law_pot_here, _law_steps, _law_amount): slots 0=_law_pot_here 1=_law_steps 2=_law_amount 3=_law_found 4=_law_way 5=_law_place -/
def t__law_changed : DS :=
  dSeq (dPar3 3 4 5 (dCons (dOpN oListOf (dCons (dVar 1) (dNil))) (dCons (dCall sp__law_draw 2 0 (fun us _ => us) (dCons (dVar 0) (dCons (dC (.int 7)) (dNil))) dNil) (dCons (dCall sp__law_draw 2 0 (fun us _ => us) (dCons (dVar 0) (dCons (dOp2 oAdd (dOpN oLen (dCons (dVar 1) (dNil))) (dC (.int 1))) (dNil))) dNil) (dNil))))) t__law_changed_1
abbrev N__law_is_word : List Str := ["_law_thing", "_law_letter"]
/-- _law_is_word(_law_thing): slots 0=_law_thing 1=_law_letter -/
def t__law_is_word : DS :=
  dSeq (dIfS (dOr (dNot (dTest (dOpN oIsi (dCons (dVar 0) (dCons (dC (.oth (.ty "str"))) (dNil)))))) (dNot (dTest (dChain oLt oLt (dC (.int 0)) (dOpN oLen (dCons (dVar 0) (dNil))) (dC (.int 9)))))) (dRet (dC (.bl false))) (dNext))
  (dRet (dOpN (oBools fun bs => bs.all id) (dCons (dLc (diSeq (dVar 0)) (dgName 1) (dYes) (dOp2 (orOp (oIn false) (oInS false)) (dVar 1) (dC (.str "abcdefghijklmnopqrstuvwxyz"))) [1]) (dNil))))
abbrev N__law_is_argument : List Str := ["_law_thing", "_law_amount"]
/-- _law_is_argument(_law_thing, _law_amount): slots 0=_law_thing 1=_law_amount -/
def t__law_is_argument : DS :=
  dSeq (dIfS (dTest (dOpN oIsi (dCons (dVar 0) (dCons (dC (.oth (.ty "bool"))) (dNil))))) (dRet (dC (.bl false))) (dNext))
  (dRet (dOrV (dCall sp__law_is_word 1 0 (fun us _ => us) (dCons (dVar 0) (dNil)) dNil) (dAndV (dOpN oIsi (dCons (dVar 0) (dCons (dC (.oth (.ty "int"))) (dNil)))) (dChain oLe oLt (dC (.int 0)) (dVar 0) (dVar 1)))))
abbrev N__law_is_step : List Str := ["_law_thing", "_law_amount", "_law_one"]
/-- _law_is_step(_law_thing, _law_amount): slots 0=_law_thing 1=_law_amount 2=_law_one -/
def t__law_is_step : DS :=
  dSeq (dIfS (dOr (dNot (dTest (dOpN oIsi (dCons (dVar 0) (dCons (dC (.oth (.ty "tuple"))) (dNil)))))) (dOr (dTest (dOp2 oEqE (dVar 0) (dTup (dNil)))) (dNot (dTest (dOpN oIsi (dCons (dOp2 oIx (dVar 0) (dC (.int 0))) (dCons (dC (.oth (.ty "str"))) (dNil)))))))) (dRet (dC (.bl false))) (dNext))
  (dSeq (dIfS (dTest (dOp2 (oEq false) (dOp2 oIx (dVar 0) (dC (.int 0))) (dC (.str "next")))) (dRet (dOp2 (oEq false) (dOpN oLen (dCons (dVar 0) (dNil))) (dC (.int 1)))) (dNext))
  (dSeq (dIfS (dTest (dOp2 (oEq false) (dOp2 oIx (dVar 0) (dC (.int 0))) (dC (.str "say")))) (dRet (dAndV (dOp2 (oEq false) (dOpN oLen (dCons (dVar 0) (dNil))) (dC (.int 2))) (dCall sp__law_is_word 1 0 (fun us _ => us) (dCons (dOp2 oIx (dVar 0) (dC (.int 1))) (dNil)) dNil))) (dNext))
  (dSeq (dIfS (dOr (dTest (dOp2 (oEq true) (dOp2 oIx (dVar 0) (dC (.int 0))) (dC (.str "call")))) (dOr (dTest (dOp2 (oEq true) (dOpN oLen (dCons (dVar 0) (dNil))) (dC (.int 3)))) (dOr (dNot (dTest (dCall sp__law_is_word 1 0 (fun us _ => us) (dCons (dOp2 oIx (dVar 0) (dC (.int 1))) (dNil)) dNil))) (dNot (dTest (dOpN oIsi (dCons (dOp2 oIx (dVar 0) (dC (.int 2))) (dCons (dC (.oth (.ty "tuple"))) (dNil))))))))) (dRet (dC (.bl false))) (dNext))
  (dRet (dAndV (dChain oLt oLt (dC (.int 0)) (dOpN oLen (dCons (dOp2 oIx (dVar 0) (dC (.int 2))) (dNil))) (dC (.int 4))) (dOpN (oBools fun bs => bs.all id) (dCons (dLc (diSeq (dOp2 oIx (dVar 0) (dC (.int 2)))) (dgName 2) (dYes) (dCall sp__law_is_argument 2 0 (fun us _ => us) (dCons (dVar 2) (dCons (dVar 1) (dNil))) dNil) [2]) (dNil))))))))
abbrev N__law_is_body : List Str := ["_law_thing", "_law_amount", "_law_nexts", "_law_step_here"]
/-- _law_is_body(_law_thing, _law_amount): slots 0=_law_thing 1=_law_amount 2=_law_nexts 3=_law_step_here -/
def t__law_is_body : DS :=
  dSeq (dIfS (dNot (dTest (dOpN oIsi (dCons (dVar 0) (dCons (dC (.oth (.ty "tuple"))) (dNil)))))) (dRet (dC (.bl false))) (dNext))
  (dSeq (dAsg (dLc (diSeq (dVar 0)) (dgName 3) (dAnd (dTest (dOpN oIsi (dCons (dVar 3) (dCons (dC (.oth (.ty "tuple"))) (dNil))))) (dTest (dOp2 (oEq false) (dOpN oLen (dCons (dVar 3) (dNil))) (dC (.int 1))))) (dVar 3) [3]) (dgName 2))
  (dRet (dAndV (dOpN (oBools fun bs => bs.all id) (dCons (dLc (diSeq (dVar 0)) (dgName 3) (dYes) (dCall sp__law_is_step 2 0 (fun us _ => us) (dCons (dVar 3) (dCons (dVar 1) (dNil))) dNil) [3]) (dNil))) (dOp2 oLt (dOpN oLen (dCons (dVar 2) (dNil))) (dC (.int 2))))))
abbrev N_is_index : List Str := ["value", "count"]
/-- is_index(value, count): slots 0=value 1=count -/
def t_is_index : DS :=
  dRet (dAndV (dOpN oIsi (dCons (dVar 0) (dCons (dC (.oth (.ty "int"))) (dNil)))) (dAndV (dNotV (dOpN oIsi (dCons (dVar 0) (dCons (dC (.oth (.ty "bool"))) (dNil))))) (dChain oLe oLt (dC (.int 0)) (dVar 0) (dVar 1))))
abbrev N_is_name : List Str := ["value", "character"]
/-- is_name(value): slots 0=value 1=character -/
def t_is_name : DS :=
  dSeq (dIfS (dOr (dNot (dTest (dOpN oIsi (dCons (dVar 0) (dCons (dC (.oth (.ty "str"))) (dNil)))))) (dNot (dTest (dChain oLe oLe (dC (.int 1)) (dOpN oLen (dCons (dVar 0) (dNil))) (dC (.int 8)))))) (dRet (dC (.bl false))) (dNext))
  (dRet (dOpN (oBools fun bs => bs.all id) (dCons (dLc (diSeq (dVar 0)) (dgName 1) (dYes) (dOp2 (orOp (oIn false) (oInS false)) (dVar 1) (dC (.str "abcdefghijklmnopqrstuvwxyz"))) [1]) (dNil))))
abbrev N_are_arguments : List Str := ["value", "count", "item"]
/-- are_arguments(value, count): slots 0=value 1=count 2=item -/
def t_are_arguments : DS :=
  dSeq (dIfS (dOr (dNot (dTest (dOpN oIsi (dCons (dVar 0) (dCons (dC (.oth (.ty "tuple"))) (dNil)))))) (dNot (dTest (dChain oLe oLe (dC (.int 1)) (dOpN oLen (dCons (dVar 0) (dNil))) (dC (.int 3)))))) (dRet (dC (.bl false))) (dNext))
  (dRet (dOpN (oBools fun bs => bs.all id) (dCons (dLc (diSeq (dVar 0)) (dgName 2) (dYes) (dOrV (dCall sp_is_name 1 0 (fun us _ => us) (dCons (dVar 2) (dNil)) dNil) (dCall sp_is_index 2 0 (fun us _ => us) (dCons (dVar 2) (dCons (dVar 1) (dNil))) dNil)) [2]) (dNil))))
abbrev N_is_step : List Str := ["value", "count"]
/-- is_step(value, count): slots 0=value 1=count -/
def t_is_step : DS :=
  dSeq (dIfS (dNot (dTest (dOpN oIsi (dCons (dVar 0) (dCons (dC (.oth (.ty "tuple"))) (dNil)))))) (dRet (dC (.bl false))) (dNext))
  (dSeq (dIfS (dTest (dOp2 (orOp (oEq false) oEqD) (dOpN oLen (dCons (dVar 0) (dNil))) (dC (.int 2)))) (dRet (dAndV (dOp2 (orOp (oEq false) oEqD) (dOp2 oIx (dVar 0) (dC (.int 0))) (dC (.str "say"))) (dCall sp_is_name 1 0 (fun us _ => us) (dCons (dOp2 oIx (dVar 0) (dC (.int 1))) (dNil)) dNil))) (dNext))
  (dSeq (dIfS (dTest (dOp2 (orOp (oEq false) oEqD) (dOpN oLen (dCons (dVar 0) (dNil))) (dC (.int 3)))) (dRet (dAndV (dOp2 (orOp (oEq false) oEqD) (dOp2 oIx (dVar 0) (dC (.int 0))) (dC (.str "call"))) (dAndV (dCall sp_is_name 1 0 (fun us _ => us) (dCons (dOp2 oIx (dVar 0) (dC (.int 1))) (dNil)) dNil) (dCall sp_are_arguments 2 0 (fun us _ => us) (dCons (dOp2 oIx (dVar 0) (dC (.int 2))) (dCons (dVar 1) (dNil))) dNil)))) (dNext))
  (dRet (dOp2 (orOp (oEq false) oEqD) (dVar 0) (dC (.tup (List.map D.str ["next"])))))))
abbrev N_is_body : List Str := ["value", "count", "step"]
/-- is_body(value, count): slots 0=value 1=count 2=step -/
def t_is_body : DS :=
  dSeq (dIfS (dOr (dNot (dTest (dOpN oIsi (dCons (dVar 0) (dCons (dC (.oth (.ty "tuple"))) (dNil)))))) (dNot (dTest (dOpN (oBools fun bs => bs.all id) (dCons (dLc (diSeq (dVar 0)) (dgName 2) (dYes) (dCall sp_is_step 2 0 (fun us _ => us) (dCons (dVar 2) (dCons (dVar 1) (dNil))) dNil) [2]) (dNil)))))) (dRet (dC (.bl false))) (dNext))
  (dRet (dOp2 oLe (dBM "tuple" oCount (dVar 0) (dCons (dC (.tup (List.map D.str ["next"]))) (dNil))) (dC (.int 1))))
abbrev N__law_right : List Str := ["_law_thing", "_law_amount", "_law_shown", "_law_due", "_law_told", "_law_one"]
/-- _law_right(_law_thing, _law_amount): slots 0=_law_thing 1=_law_amount 2=_law_shown 3=_law_due 4=_law_told 5=_law_one -/
def t__law_right : DS :=
  dSeq (dPar 2 3 (dCons (dOpN oRepr (dCons (dVar 0) (dNil))) (dCons (dOpN oRepr (dCons (dCall sp__law_is_body 2 0 (fun us _ => us) (dCons (dVar 0) (dCons (dVar 1) (dNil))) dNil) (dNil))) (dNil))))
  (dSeq (dAsg (dLst (dCons (dCall sp_is_body 2 0 (fun us _ => us) (dCons (dVar 0) (dCons (dVar 1) (dNil))) dNil) (dCons (dCall sp_is_body 0 2 gw_is_body_0_count_value dNil (dCons (dVar 1) (dCons (dVar 0) (dNil)))) (dNil)))) (dgName 4))
  (dRet (dAndV (dOp2 (oEq false) (dLc (diSeq (dVar 4)) (dgName 5) (dYes) (dOpN oRepr (dCons (dVar 5) (dNil))) [5]) (dLst (dCons (dVar 3) (dCons (dVar 3) (dNil))))) (dOp2 (oEq false) (dOpN oRepr (dCons (dVar 0) (dNil))) (dVar 2)))))
abbrev N__law_name : List Str := ["_law_pot_here", "_law_letters", "_law_turn"]
/-- _law_name(_law_pot_here): slots 0=_law_pot_here 1=_law_letters 2=_law_turn -/
def t__law_name : DS :=
  dSeq (dAsg (dC (.str "abcdefghijklmnopqrstuvwxyz")) (dgName 1))
  (dRet (dBM "str" oJoin (dC (.str "")) (dCons (dLc (diRange1 (dCons (dOp2 oIx (dLst (dCons (dC (.int 1)) (dCons (dC (.int 2)) (dCons (dC (.int 8)) (dNil))))) (dCall sp__law_draw 2 0 (fun us _ => us) (dCons (dVar 0) (dCons (dC (.int 3)) (dNil))) dNil)) (dNil))) (dgName 2) (dYes) (dOp2 oIx (dVar 1) (dCall sp__law_draw 2 0 (fun us _ => us) (dCons (dVar 0) (dCons (dC (.int 26)) (dNil))) dNil)) [2]) (dNil))))
abbrev N__law_step : List Str := ["_law_pot_here", "_law_amount", "_law_way", "_law_arguments", "_law_turn"]
/-- _law_step(_law_pot_here, _law_amount): slots 0=_law_pot_here 1=_law_amount 2=_law_way 3=_law_arguments 4=_law_turn -/
def t__law_step : DS :=
  dSeq (dAsg (dCall sp__law_draw 2 0 (fun us _ => us) (dCons (dVar 0) (dCons (dC (.int 4)) (dNil))) dNil) (dgName 2))
  (dSeq (dIfS (dTest (dOp2 (oEq false) (dVar 2) (dC (.int 0)))) (dRet (dTup (dCons (dC (.str "next")) (dNil)))) (dNext))
  (dSeq (dIfS (dTest (dOp2 (oEq false) (dVar 2) (dC (.int 1)))) (dRet (dTup (dCons (dC (.str "say")) (dCons (dCall sp__law_name 1 0 (fun us _ => us) (dCons (dVar 0) (dNil)) dNil) (dNil))))) (dNext))
  (dSeq (dAsg (dLst (dNil)) (dgName 3))
  (dSeq (dFor (diRange1 (dCons (dOp2 oAdd (dC (.int 1)) (dCall sp__law_draw 2 0 (fun us _ => us) (dCons (dVar 0) (dCons (dC (.int 3)) (dNil))) dNil)) (dNil))) (dgName 4) (dDrop (dBM "list" oAppend (dVar 3) (dCons (dIf (dTest (dOp2 (oEq false) (dCall sp__law_draw 2 0 (fun us _ => us) (dCons (dVar 0) (dCons (dC (.int 2)) (dNil))) dNil) (dC (.int 0)))) (dCall sp__law_name 1 0 (fun us _ => us) (dCons (dVar 0) (dNil)) dNil) (dCall sp__law_draw 2 0 (fun us _ => us) (dCons (dVar 0) (dCons (dVar 1) (dNil))) dNil)) (dNil)))))
  (dRet (dTup (dCons (dC (.str "call")) (dCons (dCall sp__law_name 1 0 (fun us _ => us) (dCons (dVar 0) (dNil)) dNil) (dCons (dOpN oTupleOf (dCons (dVar 3) (dNil))) (dNil))))))))))
def t__law_cell_right_2 : DS := dRet (dAndV (dOp2 (oIsBl false) (dCall sp_is_body 2 0 (fun us _ => us) (dCons (dTup (dNil)) (dCons (dVar 1) (dNil))) dNil) (dC (.bl true))) (dOp2 (oIsBl false) (dCall sp_is_body 2 0 (fun us _ => us) (dCons (dLst (dNil)) (dCons (dVar 1) (dNil))) dNil) (dC (.bl false))))
def t__law_cell_right_1 : DS := dSeq (dFor (diRange1 (dCons (dC (.int 20)) (dNil))) (dgName 2) (gcS (dSeq (dAsg (dLc (diRange1 (dCons (dCall sp__law_draw 2 0 (fun us _ => us) (dCons (dVar 0) (dCons (dC (.int 6)) (dNil))) dNil) (dNil))) (dgName 4) (dYes) (dCall sp__law_step 2 0 (fun us _ => us) (dCons (dVar 0) (dCons (dVar 1) (dNil))) dNil) [4]) (dgName 3))
  (dSeq (dAsg (dLc (diEnum (dCons (dVar 3) (dNil))) (dgTup 2 (dgCons (dgName 6) (dgCons (dgName 4) (dgNil)))) (dOr (dTest (dOp2 (oEq true) (dVar 4) (dTup (dCons (dC (.str "next")) (dNil))))) (dTest (dOp2 (orOp (oIn true) (oInS true)) (dTup (dCons (dC (.str "next")) (dNil))) (dSl (dVar 3) (dNoP) (dP (dVar 6)))))) (dVar 4) [6, 4]) (dgName 5))
  (dSeq (dIfS (dOr (dTest (dOp2 (oIsBl true) (dCall sp_is_body 2 0 (fun us _ => us) (dCons (dOpN oTupleOf (dCons (dVar 5) (dNil))) (dCons (dVar 1) (dNil))) dNil) (dC (.bl true)))) (dNot (dTest (dCall sp__law_right 2 0 (fun us _ => us) (dCons (dOpN oTupleOf (dCons (dVar 3) (dNil))) (dCons (dVar 1) (dNil))) dNil)))) (dRet (dC (.bl false))) (dNext))
  (dSeq (dAsg (dCall sp__law_changed 3 0 (fun us _ => us) (dCons (dVar 0) (dCons (dVar 5) (dCons (dVar 1) (dNil)))) dNil) (dgName 7))
  (dSeq (dIfS (dNot (dTest (dOpN (oBools fun bs => bs.all id) (dCons (dLc (diSeq (dLst (dCons (dVar 1) (dCons (dC (.int 1)) (dCons (dC (.int 2)) (dCons (dC (.int 3)) (dNil))))))) (dgName 8) (dYes) (dCall sp__law_right 2 0 (fun us _ => us) (dCons (dVar 7) (dCons (dVar 8) (dNil))) dNil) [8]) (dNil))))) (dRet (dC (.bl false))) (dNext))
  (dIfS (dNot (dTest (dCall sp__law_right 2 0 (fun us _ => us) (dCons (dCall sp__law_odd_step 2 0 (fun us _ => us) (dCons (dVar 0) (dCons (dVar 1) (dNil))) dNil) (dCons (dVar 1) (dNil))) dNil))) (dRet (dC (.bl false))) (dNext))))))))) t__law_cell_right_2
abbrev N__law_cell_right : List Str := ["_law_pot_here", "_law_amount", "_law_turn", "_law_steps", "_law_step_here", "_law_plain", "_law_place", "_law_changed_here", "_law_each"]
/-- _law_cell_right(_law_pot_here): slots 0=_law_pot_here 1=_law_amount 2=_law_turn 3=_law_steps 4=_law_step_here 5=_law_plain 6=_law_place 7=_law_changed_here 8=_law_each -/
def t__law_cell_right : DS :=
  dSeq (dAsg (dOp2 oAdd (dC (.int 1)) (dCall sp__law_draw 2 0 (fun us _ => us) (dCons (dVar 0) (dCons (dC (.int 3)) (dNil))) dNil)) (dgName 1)) t__law_cell_right_1
abbrev N__law_pot : List Str := ["_law_script", "_law_k", "_law_cell"]
/-- _law_pot(_law_script, _law_k): slots 0=_law_script 1=_law_k 2=_law_cell -/
def t__law_pot : DS :=
  dSeq (dAsg (dIf (dTest (dOp2 oLt (dVar 1) (dOpN oLen (dCons (dVar 0) (dNil))))) (dOp2 oIx (dVar 0) (dVar 1)) (dC (.int 0))) (dgName 2))
  (dRet (dLst (dCons (dOpN (oInt2 fun i j => .int (if j > i then j else i)) (dCons (dC (.int 0)) (dCons (dOp2 oSub (dOpN (oInt1 fun i => .int (if i < 0 then -i else i)) (dCons (dVar 2) (dNil))) (dOp2 oPow (dC (.int 10)) (dC (.int 18)))) (dNil)))) (dCons (dOp2 oMod (dOp2 oAdd (dOp2 oAdd (dOp2 oMul (dOp2 oMod (dOpN (oInt1 fun i => .int (if i < 0 then -i else i)) (dCons (dVar 2) (dNil))) (dC (.int 2147483587))) (dC (.int 48271))) (dOp2 oMul (dC (.int 60013)) (dVar 1))) (dC (.int 29))) (dC (.int 2147483647))) (dNil)))))
abbrev N_law : List Str := ["_law_script", "_law_k"]
/-- law(_law_script): slots 0=_law_script 1=_law_k -/
def t_law : DS :=
  dSeq (dFor (diRange1 (dCons (dOpN (oInt2 fun i j => .int (if j > i then j else i)) (dCons (dC (.int 1)) (dCons (dOpN (oInt2 fun i j => .int (if j < i then j else i)) (dCons (dC (.int 4)) (dCons (dOpN oLen (dCons (dVar 0) (dNil))) (dNil)))) (dNil)))) (dNil))) (dgName 1) (gcS (dIfS (dNot (dTest (dCall sp__law_cell_right 1 0 (fun us _ => us) (dCons (dCall sp__law_pot 2 0 (fun us _ => us) (dCons (dVar 0) (dCons (dVar 1) (dNil))) dNil) (dNil)) dNil))) (dRet (dC (.bl false))) (dNext))))
  (dRet (dC (.bl true)))
end K31
namespace K31
open PySem PySem.Spec L2 DL
theorem p__law_pot : ∀ ws cs Q E, closed cs → sp__law_pot ws cs Q E → t__law_pot (endsD cs.length Q E) (startE N__law_pot ws) cs := p_pot
theorem p__law_draw : ∀ ws cs Q E, closed cs → sp__law_draw ws cs Q E → t__law_draw (endsD cs.length Q E) (startE N__law_draw ws) cs := p_draw
theorem letsq : Str.ofString "abcdefghijklmnopqrstuvwxyz" = lets := rfl
theorem p_is_index : ∀ ws cs Q E, closed cs → sp_is_index ws cs Q E → t_is_index (endsD cs.length Q E) (startE N_is_index ws) cs := by
  rintro ws cs Q E hc ⟨x, n, rfl, hx, hq⟩
  have hd := dropTo_self hc
  cases x with
  | obj _ _ => simp [isTag] at hx
  | oth _ => simp [isTag] at hx
  | int i =>
    simp [dSeq, dIfS, dAsg, dIf, dTest, dOp2, dOp1, dOpN, dVar, dC, dCons, dNil, dgName, dRet, dRetN, dDrop, dNext, dLst, dTup, startE, endsD, oI, oInt1, oInt2, oNeg, oIs, oDivmod, dAnd, dOr, dNot, dAndV, dOrV, dNotV, dgSub, dgTup, dgCons, dgNil, oSetL, dPar, dPar3, dFor, diRange1, diRange2, dLc, dCall, dBM, isT, dSl, dP, dNoP, oEq, dChain, oRepr, oIsi, oBools, retD_d, isTy, dDict0, dDict, dPairs, isFl, isFls, isPy, isPys, isPyKV, look_d, look_c, lookC_lst, lookC_dct, lookC_frz, itM_some, oIx_v, ixV_lst, ixV_tup, ixV_scr, ixV_str, oAdd_v, addV_int, addV_str, addV_tup, addV_lst, oMul_v, mulV_int, mulV_lst, oLen_v, lenV_str, lenV_lst, lenV_tup, lenV_scr, oSl_v, slV_str, slV_tup, slV_lst, oIn_v, inV_lst, inV_tup, inV_sign, diSeq_v, seqV_lst, seqV_tup, seqV_str, fixW_d, fixW_c, fixV_frz, fixV_lst, fixV_dct, fixAll_nil, fixAll_cons, t_is_index, hd]
    split
    · rename_i h0
      simpa [isIdx, h0] using hq
    · rename_i h0
      simpa [isIdx, h0] using hq
  | _ =>
    simp [dSeq, dIfS, dAsg, dIf, dTest, dOp2, dOp1, dOpN, dVar, dC, dCons, dNil, dgName, dRet, dRetN, dDrop, dNext, dLst, dTup, startE, endsD, oI, oInt1, oInt2, oNeg, oIs, oDivmod, dAnd, dOr, dNot, dAndV, dOrV, dNotV, dgSub, dgTup, dgCons, dgNil, oSetL, dPar, dPar3, dFor, diRange1, diRange2, dLc, dCall, dBM, isT, dSl, dP, dNoP, oEq, dChain, oRepr, oIsi, oBools, retD_d, isTy, dDict0, dDict, dPairs, isFl, isFls, isPy, isPys, isPyKV, look_d, look_c, lookC_lst, lookC_dct, lookC_frz, itM_some, oIx_v, ixV_lst, ixV_tup, ixV_scr, ixV_str, oAdd_v, addV_int, addV_str, addV_tup, addV_lst, oMul_v, mulV_int, mulV_lst, oLen_v, lenV_str, lenV_lst, lenV_tup, lenV_scr, oSl_v, slV_str, slV_tup, slV_lst, oIn_v, inV_lst, inV_tup, inV_sign, diSeq_v, seqV_lst, seqV_tup, seqV_str, fixW_d, fixW_c, fixV_frz, fixV_lst, fixV_dct, fixAll_nil, fixAll_cons, t_is_index, hd]
    simpa [isIdx] using hq
/-- all signs of a text judged -/
theorem lc_word {x : Str} {cs : Cs} {Q : List D → Cs → Prop} {env : Nv} {o : Op2} (hc : closed cs) (hx : x.length ≤ sizeLine) (he : env = [some (.d (.str x)), none])
    (hQ : Q (x.cps.toList.map fun c => .bl (decide (c ∈ lets.cps.toList))) cs) :
    lcD (dgName 1) dYes (dOp2 (orOp (oIn false) (oInS false)) (dVar 1) (dC (D.str (Str.ofString "abcdefghijklmnopqrstuvwxyz")))) (fun _ => True) [1] env cs.length Q (List.map W.d (signs x)) [] cs := by
  subst he
  refine lcD_map (fun c => c = cs) (fun w => match w with
    | .d (.str z) => (match z.cps.toList with
      | [c] => .bl (decide (c ∈ lets.cps.toList))
      | _ => .non)
    | _ => .non) (fun _ _ => True.intro) _ cs rfl (by simp [signs_len]; exact hx) (fun w hw c0 hcs K hK => ?_) fun cs' hcs => ?_
  · subst hcs
    simp [signs_map] at hw
    obtain ⟨c, hm, rfl⟩ := hw
    have := hK c0 (dropTo_self hc)
    simp [dSeq, dIfS, dAsg, dIf, dTest, dOp2, dOp1, dOpN, dVar, dC, dCons, dNil, dgName, dRet, dRetN, dDrop, dNext, dLst, dTup, startE, endsD, oI, oInt1, oInt2, oNeg, oIs, oDivmod, dAnd, dOr, dNot, dAndV, dOrV, dNotV, dgSub, dgTup, dgCons, dgNil, oSetL, dPar, dPar3, dFor, diRange1, diRange2, dLc, dCall, dBM, isT, dSl, dP, dNoP, oEq, dChain, oRepr, oIsi, oBools, retD_d, isTy, dDict0, dDict, dPairs, isFl, isFls, isPy, isPys, isPyKV, look_d, look_c, lookC_lst, lookC_dct, lookC_frz, itM_some, oIx_v, ixV_lst, ixV_tup, ixV_scr, ixV_str, oAdd_v, addV_int, addV_str, addV_tup, addV_lst, oMul_v, mulV_int, mulV_lst, oLen_v, lenV_str, lenV_lst, lenV_tup, lenV_scr, oSl_v, slV_str, slV_tup, slV_lst, oIn_v, inV_lst, inV_tup, inV_sign, diSeq_v, seqV_lst, seqV_tup, seqV_str, fixW_d, fixW_c, fixV_frz, fixV_lst, fixV_dct, fixAll_nil, fixAll_cons, wipeE, letsq]
    simpa using this
  · subst hcs
    simpa [signs_map, Function.comp_def] using hQ
theorem nm_in {x : Str} (h : 1 ≤ x.length ∧ x.length ≤ 8) : nm (.str x) = (x.cps.toList.map fun c => decide (c ∈ lets.cps.toList)).all id := by
  simp [nm, h.1, h.2, List.all_map, Function.comp_def]
theorem nm_out {x : Str} (h : ¬ (1 ≤ x.length ∧ x.length ≤ 8)) : nm (.str x) = false := by
  simp only [nm, decide_eq_false h, Bool.false_and]
theorem p_is_name : ∀ ws cs Q E, closed cs → sp_is_name ws cs Q E → t_is_name (endsD cs.length Q E) (startE N_is_name ws) cs := by
  rintro ws cs Q E hc ⟨y, rfl, hy, hl, hq⟩
  cases y with
  | str x =>
    have hx := hl x rfl
    simp [dSeq, dIfS, dAsg, dIf, dTest, dOp2, dOp1, dOpN, dVar, dC, dCons, dNil, dgName, dRet, dRetN, dDrop, dNext, dLst, dTup, startE, endsD, oI, oInt1, oInt2, oNeg, oIs, oDivmod, dAnd, dOr, dNot, dAndV, dOrV, dNotV, dgSub, dgTup, dgCons, dgNil, oSetL, dPar, dPar3, dFor, diRange1, diRange2, dLc, dCall, dBM, isT, dSl, dP, dNoP, oEq, dChain, oRepr, oIsi, oBools, retD_d, isTy, dDict0, dDict, dPairs, isFl, isFls, isPy, isPys, isPyKV, look_d, look_c, lookC_lst, lookC_dct, lookC_frz, itM_some, oIx_v, ixV_lst, ixV_tup, ixV_scr, ixV_str, oAdd_v, addV_int, addV_str, addV_tup, addV_lst, oMul_v, mulV_int, mulV_lst, oLen_v, lenV_str, lenV_lst, lenV_tup, lenV_scr, oSl_v, slV_str, slV_tup, slV_lst, oIn_v, inV_lst, inV_tup, inV_sign, diSeq_v, seqV_lst, seqV_tup, seqV_str, fixW_d, fixW_c, fixV_frz, fixV_lst, fixV_dct, fixAll_nil, fixAll_cons, t_is_name, dropTo_self hc]
    refine ⟨hx, ?_⟩
    split
    · split
      · refine lc_word (o := oIs false) hc hx rfl ?_
        simp only [bools_map, dropTo_cut hc]
        rw [← nm_in (by omega)]
        exact hq
      · rw [nm_out (by omega)] at hq; exact hq
    · rw [nm_out (by omega)] at hq; exact hq
  | obj _ _ => simp [isTag] at hy
  | oth _ => simp [isTag] at hy
  | _ =>
    simp [dSeq, dIfS, dAsg, dIf, dTest, dOp2, dOp1, dOpN, dVar, dC, dCons, dNil, dgName, dRet, dRetN, dDrop, dNext, dLst, dTup, startE, endsD, oI, oInt1, oInt2, oNeg, oIs, oDivmod, dAnd, dOr, dNot, dAndV, dOrV, dNotV, dgSub, dgTup, dgCons, dgNil, oSetL, dPar, dPar3, dFor, diRange1, diRange2, dLc, dCall, dBM, isT, dSl, dP, dNoP, oEq, dChain, oRepr, oIsi, oBools, retD_d, isTy, dDict0, dDict, dPairs, isFl, isFls, isPy, isPys, isPyKV, look_d, look_c, lookC_lst, lookC_dct, lookC_frz, itM_some, oIx_v, ixV_lst, ixV_tup, ixV_scr, ixV_str, oAdd_v, addV_int, addV_str, addV_tup, addV_lst, oMul_v, mulV_int, mulV_lst, oLen_v, lenV_str, lenV_lst, lenV_tup, lenV_scr, oSl_v, slV_str, slV_tup, slV_lst, oIn_v, inV_lst, inV_tup, inV_sign, diSeq_v, seqV_lst, seqV_tup, seqV_str, fixW_d, fixW_c, fixV_frz, fixV_lst, fixV_dct, fixAll_nil, fixAll_cons, t_is_name, dropTo_self hc]
    simpa [nm] using hq
theorem p__law_is_word : ∀ ws cs Q E, closed cs → sp__law_is_word ws cs Q E → t__law_is_word (endsD cs.length Q E) (startE N__law_is_word ws) cs := by
  rintro ws cs Q E hc ⟨y, rfl, hy, hl, hq⟩
  cases y with
  | str x =>
    have hx := hl x rfl
    simp [dSeq, dIfS, dAsg, dIf, dTest, dOp2, dOp1, dOpN, dVar, dC, dCons, dNil, dgName, dRet, dRetN, dDrop, dNext, dLst, dTup, startE, endsD, oI, oInt1, oInt2, oNeg, oIs, oDivmod, dAnd, dOr, dNot, dAndV, dOrV, dNotV, dgSub, dgTup, dgCons, dgNil, oSetL, dPar, dPar3, dFor, diRange1, diRange2, dLc, dCall, dBM, isT, dSl, dP, dNoP, oEq, dChain, oRepr, oIsi, oBools, retD_d, isTy, dDict0, dDict, dPairs, isFl, isFls, isPy, isPys, isPyKV, look_d, look_c, lookC_lst, lookC_dct, lookC_frz, itM_some, oIx_v, ixV_lst, ixV_tup, ixV_scr, ixV_str, oAdd_v, addV_int, addV_str, addV_tup, addV_lst, oMul_v, mulV_int, mulV_lst, oLen_v, lenV_str, lenV_lst, lenV_tup, lenV_scr, oSl_v, slV_str, slV_tup, slV_lst, oIn_v, inV_lst, inV_tup, inV_sign, diSeq_v, seqV_lst, seqV_tup, seqV_str, fixW_d, fixW_c, fixV_frz, fixV_lst, fixV_dct, fixAll_nil, fixAll_cons, t__law_is_word, dropTo_self hc]
    refine ⟨hx, ?_⟩
    split
    · split
      · refine lc_word (o := oIs false) hc hx rfl ?_
        simp only [bools_map, dropTo_cut hc]
        rw [← nm_in (by omega)]
        exact hq
      · rw [nm_out (by omega)] at hq; exact hq
    · rw [nm_out (by omega)] at hq; exact hq
  | obj _ _ => simp [isTag] at hy
  | oth _ => simp [isTag] at hy
  | _ =>
    simp [dSeq, dIfS, dAsg, dIf, dTest, dOp2, dOp1, dOpN, dVar, dC, dCons, dNil, dgName, dRet, dRetN, dDrop, dNext, dLst, dTup, startE, endsD, oI, oInt1, oInt2, oNeg, oIs, oDivmod, dAnd, dOr, dNot, dAndV, dOrV, dNotV, dgSub, dgTup, dgCons, dgNil, oSetL, dPar, dPar3, dFor, diRange1, diRange2, dLc, dCall, dBM, isT, dSl, dP, dNoP, oEq, dChain, oRepr, oIsi, oBools, retD_d, isTy, dDict0, dDict, dPairs, isFl, isFls, isPy, isPys, isPyKV, look_d, look_c, lookC_lst, lookC_dct, lookC_frz, itM_some, oIx_v, ixV_lst, ixV_tup, ixV_scr, ixV_str, oAdd_v, addV_int, addV_str, addV_tup, addV_lst, oMul_v, mulV_int, mulV_lst, oLen_v, lenV_str, lenV_lst, lenV_tup, lenV_scr, oSl_v, slV_str, slV_tup, slV_lst, oIn_v, inV_lst, inV_tup, inV_sign, diSeq_v, seqV_lst, seqV_tup, seqV_str, fixW_d, fixW_c, fixV_frz, fixV_lst, fixV_dct, fixAll_nil, fixAll_cons, t__law_is_word, dropTo_self hc]
    simpa [nm] using hq
theorem okd_tag : ∀ {k : Nat} {x : D}, okd k x = true → isTag x = true
  | k, .obj _ _, h => by cases k <;> simp [okd] at h
  | k, .oth _, h => by cases k <;> simp [okd] at h
  | k, .scr _, h => rfl
  | k, .non, h | k, .bl _, h | k, .int _, h | k, .str _, h | k, .tup _, h | k, .lst _, h | k, .dct _, h => rfl
theorem okd_str {k : Nat} {z : Str} (h : okd k (.str z) = true) : z.length ≤ sizeLine := by
  have h : z.length ≤ 1000 := by cases k <;> simpa [okd] using h
  exact Nat.le_trans h (by decide)
theorem okd_len {k : Nat} {x : D} (h : okd k x = true) : ∀ z, x = .str z → z.length ≤ sizeLine := fun z e => by
  subst e
  exact okd_str h
theorem okds_mem : ∀ {k : Nat} {xs : List D}, okds k xs = true → ∀ x ∈ xs, okd k x = true
  | k, [], _, x, h => by cases h
  | k, y :: ys, h, x, hx => by
    simp only [okds, Bool.and_eq_true] at h
    rcases List.mem_cons.mp hx with rfl | hx
    · exact h.1
    · exact okds_mem h.2 x hx
theorem okd_mem {k : Nat} {xs : List D} (h : okd (k + 1) (.tup xs) = true) : ∀ x ∈ xs, okd k x = true := okds_mem (by simpa [okd] using h)
theorem p_are_arguments : ∀ ws cs Q E, closed cs → sp_are_arguments ws cs Q E → t_are_arguments (endsD cs.length Q E) (startE N_are_arguments ws) cs := by
  rintro ws cs Q E hc ⟨x, n, rfl, hx, hq⟩
  have hd := dropTo_self hc
  have ht := okd_tag hx
  cases x with
  | obj _ _ => simp [isTag] at ht
  | oth _ => simp [isTag] at ht
  | tup xs =>
    simp [dSeq, dIfS, dAsg, dIf, dTest, dOp2, dOp1, dOpN, dVar, dC, dCons, dNil, dgName, dRet, dRetN, dDrop, dNext, dLst, dTup, startE, endsD, oI, oInt1, oInt2, oNeg, oIs, oDivmod, dAnd, dOr, dNot, dAndV, dOrV, dNotV, dgSub, dgTup, dgCons, dgNil, oSetL, dPar, dPar3, dFor, diRange1, diRange2, dLc, dCall, dBM, isT, dSl, dP, dNoP, oEq, dChain, oRepr, oIsi, oBools, retD_d, isTy, dDict0, dDict, dPairs, isFl, isFls, isPy, isPys, isPyKV, look_d, look_c, lookC_lst, lookC_dct, lookC_frz, itM_some, oIx_v, ixV_lst, ixV_tup, ixV_scr, ixV_str, oAdd_v, addV_int, addV_str, addV_tup, addV_lst, oMul_v, mulV_int, mulV_lst, oLen_v, lenV_str, lenV_lst, lenV_tup, lenV_scr, oSl_v, slV_str, slV_tup, slV_lst, oIn_v, inV_lst, inV_tup, inV_sign, diSeq_v, seqV_lst, seqV_tup, seqV_str, fixW_d, fixW_c, fixV_frz, fixV_lst, fixV_dct, fixAll_nil, fixAll_cons, t_are_arguments, hd]
    split
    · rename_i l1
      split
      · rename_i l3
        have sz : 3 ≤ sizeLine := by decide
        refine lcD_map (fun c => c = cs) (fun w => match w with
          | .d x => .bl (isArg n x)
          | _ => .non) (fun _ _ => True.intro) _ cs rfl (by simp; omega) (fun w hw c0 hcs K hK => ?_) fun cs' hcs => ?_
        · subst hcs
          simp at hw
          obtain ⟨y, hy, rfl⟩ := hw
          have ky := okd_mem hx y hy
          have := hK c0 (dropTo_self hc)
          simp [dSeq, dIfS, dAsg, dIf, dTest, dOp2, dOp1, dOpN, dVar, dC, dCons, dNil, dgName, dRet, dRetN, dDrop, dNext, dLst, dTup, startE, endsD, oI, oInt1, oInt2, oNeg, oIs, oDivmod, dAnd, dOr, dNot, dAndV, dOrV, dNotV, dgSub, dgTup, dgCons, dgNil, oSetL, dPar, dPar3, dFor, diRange1, diRange2, dLc, dCall, dBM, isT, dSl, dP, dNoP, oEq, dChain, oRepr, oIsi, oBools, retD_d, isTy, dDict0, dDict, dPairs, isFl, isFls, isPy, isPys, isPyKV, look_d, look_c, lookC_lst, lookC_dct, lookC_frz, itM_some, oIx_v, ixV_lst, ixV_tup, ixV_scr, ixV_str, oAdd_v, addV_int, addV_str, addV_tup, addV_lst, oMul_v, mulV_int, mulV_lst, oLen_v, lenV_str, lenV_lst, lenV_tup, lenV_scr, oSl_v, slV_str, slV_tup, slV_lst, oIn_v, inV_lst, inV_tup, inV_sign, diSeq_v, seqV_lst, seqV_tup, seqV_str, fixW_d, fixW_c, fixV_frz, fixV_lst, fixV_dct, fixAll_nil, fixAll_cons, wipeE]
          refine ⟨y, rfl, okd_tag ky, okd_len ky, ?_⟩
          simp
          split
          · rename_i h1
            simpa [isArg, h1] using this
          · rename_i h1
            refine ⟨y, n, rfl, okd_tag ky, ?_⟩
            simpa [isArg, h1, fixW_d] using this
        · subst hcs
          simp [Function.comp_def, bools_map, dropTo_cut hc]
          have e : isArgs (.tup xs) n = xs.all (isArg n) := by
            simp only [isArgs]
            rw [decide_eq_true (by omega)]
            rfl
          rw [e] at hq
          simpa [List.all_map, Function.comp_def] using hq
      · have e : isArgs (.tup xs) n = false := by
          simp only [isArgs]
          rw [decide_eq_false (by omega)]
          rfl
        rw [e] at hq; exact hq
    · have e : isArgs (.tup xs) n = false := by
        simp only [isArgs]
        rw [decide_eq_false (by omega)]
        rfl
      rw [e] at hq; exact hq
  | _ =>
    simp [dSeq, dIfS, dAsg, dIf, dTest, dOp2, dOp1, dOpN, dVar, dC, dCons, dNil, dgName, dRet, dRetN, dDrop, dNext, dLst, dTup, startE, endsD, oI, oInt1, oInt2, oNeg, oIs, oDivmod, dAnd, dOr, dNot, dAndV, dOrV, dNotV, dgSub, dgTup, dgCons, dgNil, oSetL, dPar, dPar3, dFor, diRange1, diRange2, dLc, dCall, dBM, isT, dSl, dP, dNoP, oEq, dChain, oRepr, oIsi, oBools, retD_d, isTy, dDict0, dDict, dPairs, isFl, isFls, isPy, isPys, isPyKV, look_d, look_c, lookC_lst, lookC_dct, lookC_frz, itM_some, oIx_v, ixV_lst, ixV_tup, ixV_scr, ixV_str, oAdd_v, addV_int, addV_str, addV_tup, addV_lst, oMul_v, mulV_int, mulV_lst, oLen_v, lenV_str, lenV_lst, lenV_tup, lenV_scr, oSl_v, slV_str, slV_tup, slV_lst, oIn_v, inV_lst, inV_tup, inV_sign, diSeq_v, seqV_lst, seqV_tup, seqV_str, fixW_d, fixW_c, fixV_frz, fixV_lst, fixV_dct, fixAll_nil, fixAll_cons, t_are_arguments, hd]
    simpa [isArgs] using hq
theorem eqv_word (x : D) (z : Str) : PyData.eqv (py x) (py (.str z)) = isWord x z := by
  cases x <;> simp [py, PyData.eqv, isWord]
theorem eq_int {i j : Int} {cs : Cs} {Q : DQ} (h : Q (.d (.bl (i == j))) cs) : orOp (oEq false) oEqD (.d (.int i)) (.d (.int j)) cs Q := by
  refine .inl ⟨rfl, rfl, by simp, ?_⟩
  simpa using h
theorem eq_word {x : D} {z : Str} {cs : Cs} {Q : DQ} (hx : isFl x = true ∨ ∃ kvs, x = .dct kvs) (h : Q (.d (.bl (isWord x z))) cs) : orOp (oEq false) oEqD (.d x) (.d (.str z)) cs Q := by
  rcases hx with hx | ⟨kvs, rfl⟩
  · refine .inl ⟨hx, rfl, by simp, ?_⟩
    rw [eqv_word]
    simpa using h
  · exact .inr h
theorem isFl_of {xs : List D} (h : isFls xs = true) : isFl (.tup xs) = true := by simpa [isFl] using h
def nextOne : List D → Bool
  | [a] => isWord a "next"
  | _ => false
theorem eqv_next (xs : List D) : PyData.eqv (py (.tup xs)) (py (.tup [.str "next"])) = nextOne xs := by
  match xs with
  | [] => simp [py, pys, PyData.eqv, PyData.eqvAll, nextOne]
  | [a] =>
    simp only [py, pys, PyData.eqv, PyData.eqvAll, Bool.and_true, nextOne]
    exact eqv_word a "next"
  | a :: b :: r => simp [py, pys, PyData.eqv, PyData.eqvAll, nextOne]
theorem depth_next : (py (.tup [.str (Str.ofString "next")])).depth = 1 := by simp [py, pys, PyData.depth, PyData.depthAll]
theorem word_other {xs : List D} {n : Int} {cs : Cs} {Q : DQ} (h2 : xs.length ≠ 2) (h3 : xs.length ≠ 3) (hf : isFls xs = true ∨ ∃ kvs, xs = [.dct kvs]) (hq : Q (.d (.bl (isStep n (.tup xs)))) cs) :
    orOp (oEq false) oEqD (W.d (D.tup xs)) (W.d (D.tup [D.str (Str.ofString "next")])) cs Q := by
  have e : isStep n (.tup xs) = nextOne xs := by
    clear hq hf
    rcases xs with _ | ⟨a, _ | ⟨b, _ | ⟨c, _ | ⟨d, r⟩⟩⟩⟩
    · rfl
    · rfl
    · exact absurd rfl h2
    · exact absurd rfl h3
    · rfl
  rcases hf with hf | ⟨kvs, rfl⟩
  case inr => exact .inr hq
  rw [e, ← eqv_next] at hq
  refine .inl ⟨isFl_of hf, rfl, by rw [depth_next]; omega, ?_⟩
  simpa using hq
theorem p_is_step : ∀ ws cs Q E, closed cs → sp_is_step ws cs Q E → t_is_step (endsD cs.length Q E) (startE N_is_step ws) cs := by
  rintro ws cs Q E hc ⟨x, n, rfl, ⟨hx, hf, hv⟩, hq⟩
  have hd := dropTo_self hc
  have ht := okd_tag hx
  cases x with
  | obj _ _ => simp [isTag] at ht
  | oth _ => simp [isTag] at ht
  | tup xs =>
    have hf := hf xs rfl
    have hm := okd_mem hx
    have hQ : (fun w cs_1 => retD (List.length cs) w cs_1 Q) (.d (.bl (isStep n (.tup xs)))) cs := by
      show Q _ (dropTo cs.length cs)
      rw [hd]; exact hq
    simp [dSeq, dIfS, dAsg, dIf, dTest, dOp2, dOp1, dOpN, dVar, dC, dCons, dNil, dgName, dRet, dRetN, dDrop, dNext, dLst, dTup, startE, endsD, oI, oInt1, oInt2, oNeg, oIs, oDivmod, dAnd, dOr, dNot, dAndV, dOrV, dNotV, dgSub, dgTup, dgCons, dgNil, oSetL, dPar, dPar3, dFor, diRange1, diRange2, dLc, dCall, dBM, isT, dSl, dP, dNoP, oEq, dChain, oRepr, oIsi, oBools, retD_d, isTy, dDict0, dDict, dPairs, isFl, isFls, isPy, isPys, isPyKV, look_d, look_c, lookC_lst, lookC_dct, lookC_frz, itM_some, oIx_v, ixV_lst, ixV_tup, ixV_scr, ixV_str, oAdd_v, addV_int, addV_str, addV_tup, addV_lst, oMul_v, mulV_int, mulV_lst, oLen_v, lenV_str, lenV_lst, lenV_tup, lenV_scr, oSl_v, slV_str, slV_tup, slV_lst, oIn_v, inV_lst, inV_tup, inV_sign, diSeq_v, seqV_lst, seqV_tup, seqV_str, fixW_d, fixW_c, fixV_frz, fixV_lst, fixV_dct, fixAll_nil, fixAll_cons, t_is_step, hd]
    refine eq_int ?_
    by_cases h2 : xs.length = 2
    · have e2 : (((xs.length : Nat) : Int) == 2) = true := by
        rw [beq_iff_eq]; omega
      rw [e2]
      show itM xs[0]? _
      obtain ⟨a, b, rfl⟩ : ∃ a b, xs = [a, b] := by
        rcases xs with _ | ⟨a, _ | ⟨b, _ | ⟨c, r⟩⟩⟩ <;> simp at h2
        exact ⟨a, b, rfl⟩
      have kb := hm b (by simp)
      refine ⟨a, rfl, eq_word (hv a [b] rfl) ?_⟩
      cases hw : isWord a "say" with
      | false =>
        have : isStep n (.tup [a, b]) = false := by simp [isStep, hw]
        rw [this] at hq
        show Q _ (dropTo cs.length cs)
        rw [hd]; exact hq
      | true =>
        have : isStep n (.tup [a, b]) = nm b := by simp [isStep, hw]
        rw [this] at hQ
        exact ⟨_, rfl, b, rfl, okd_tag kb, okd_len kb, hQ⟩
    · have e2 : (((xs.length : Nat) : Int) == 2) = false := by
        rw [beq_eq_false_iff_ne]; omega
      rw [e2]
      show orOp (oEq false) oEqD (W.d (D.int xs.length)) (W.d (D.int 3)) cs _
      refine eq_int ?_
      by_cases h3 : xs.length = 3
      · have e3 : (((xs.length : Nat) : Int) == 3) = true := by
          rw [beq_iff_eq]; omega
        rw [e3]
        show itM xs[0]? _
        obtain ⟨a, b, c, rfl⟩ : ∃ a b c, xs = [a, b, c] := by
          rcases xs with _ | ⟨a, _ | ⟨b, _ | ⟨c, _ | ⟨d, r⟩⟩⟩⟩ <;> simp at h3
          exact ⟨a, b, c, rfl⟩
        have kb := hm b (by simp)
        have kc := hm c (by simp)
        refine ⟨a, rfl, eq_word (hv a [b, c] rfl) ?_⟩
        cases hw : isWord a "call" with
        | false =>
          have : isStep n (.tup [a, b, c]) = false := by simp [isStep, hw]
          rw [this] at hq
          show Q _ (dropTo cs.length cs)
          rw [hd]; exact hq
        | true =>
          refine ⟨_, rfl, b, rfl, okd_tag kb, okd_len kb, ?_⟩
          cases hn : nm b with
          | false =>
            have : isStep n (.tup [a, b, c]) = false := by simp [isStep, hw, hn]
            rw [this] at hq
            show Q _ (dropTo cs.length cs)
            rw [hd]; exact hq
          | true =>
            have : isStep n (.tup [a, b, c]) = isArgs c n := by simp [isStep, hw, hn]
            rw [this] at hQ
            exact ⟨_, rfl, c, n, rfl, kc, hQ⟩
      · have e3 : (((xs.length : Nat) : Int) == 3) = false := by
          rw [beq_eq_false_iff_ne]; omega
        rw [e3]
        exact word_other h2 h3 (hf h2 h3) hQ
  | _ =>
    simp [dSeq, dIfS, dAsg, dIf, dTest, dOp2, dOp1, dOpN, dVar, dC, dCons, dNil, dgName, dRet, dRetN, dDrop, dNext, dLst, dTup, startE, endsD, oI, oInt1, oInt2, oNeg, oIs, oDivmod, dAnd, dOr, dNot, dAndV, dOrV, dNotV, dgSub, dgTup, dgCons, dgNil, oSetL, dPar, dPar3, dFor, diRange1, diRange2, dLc, dCall, dBM, isT, dSl, dP, dNoP, oEq, dChain, oRepr, oIsi, oBools, retD_d, isTy, dDict0, dDict, dPairs, isFl, isFls, isPy, isPys, isPyKV, look_d, look_c, lookC_lst, lookC_dct, lookC_frz, itM_some, oIx_v, ixV_lst, ixV_tup, ixV_scr, ixV_str, oAdd_v, addV_int, addV_str, addV_tup, addV_lst, oMul_v, mulV_int, mulV_lst, oLen_v, lenV_str, lenV_lst, lenV_tup, lenV_scr, oSl_v, slV_str, slV_tup, slV_lst, oIn_v, inV_lst, inV_tup, inV_sign, diSeq_v, seqV_lst, seqV_tup, seqV_str, fixW_d, fixW_c, fixV_frz, fixV_lst, fixV_dct, fixAll_nil, fixAll_cons, t_is_step, hd]
    simpa [isStep] using hq
theorem pys_map (xs : List D) : pys xs = xs.map py := by
  induction xs with
  | nil => rfl
  | cons a r ih => simp [pys, ih]
theorem eqv_nx (y : D) : PyData.eqv (py y) (py (.tup [.str "next"])) = isNx y := by
  cases y with
  | tup zs =>
    rw [eqv_next]
    match zs with
    | [] => rfl
    | [a] => cases a <;> rfl
    | a :: b :: r => cases a <;> rfl
  | _ => simp [py, pys, PyData.eqv, isNx]
theorem count_nx (xs : List D) : (pys xs).countP (fun z => PyData.eqv z (py (.tup [.str (Str.ofString "next")]))) = (xs.filter isNx).length := by
  rw [pys_map, List.countP_map, List.countP_eq_length_filter]
  congr 2
  funext y
  exact eqv_nx y
theorem word_fl {a : D} {z : Str} (h : isWord a z = true) : isFl a = true ∧ (py a).depth = 0 := by
  cases a <;> simp [isWord] at h <;> simp [isFl, py, PyData.depth]
theorem nm_fl {a : D} (h : nm a = true) : isFl a = true ∧ (py a).depth = 0 := by
  cases a <;> simp [nm] at h <;> simp [isFl, py, PyData.depth]
theorem arg_fl {n : Int} {a : D} (h : isArg n a = true) : isFl a = true ∧ (py a).depth = 0 := by
  cases a <;> simp [isArg, nm, isIdx] at h <;> simp [isFl, py, PyData.depth]
theorem args_fl {n : Int} : ∀ {xs : List D}, (∀ x ∈ xs, isArg n x = true) → isFls xs = true ∧ PyData.depthAll (pys xs) = 0
  | [], _ => ⟨rfl, rfl⟩
  | x :: xs, h => by
    obtain ⟨a, b⟩ := arg_fl (h x List.mem_cons_self)
    obtain ⟨c, d⟩ := args_fl fun y hy => h y (List.mem_cons_of_mem _ hy)
    simp [isFls, pys, PyData.depthAll, a, b, c, d]
theorem step_fl {n : Int} {y : D} (h : isStep n y = true) : isFl y = true ∧ (py y).depth ≤ 2 := by
  cases y with
  | tup zs =>
    rcases zs with _ | ⟨a, _ | ⟨b, _ | ⟨c, _ | ⟨d, r⟩⟩⟩⟩
    · simp [isStep] at h
    · have h : isWord a "next" = true := h
      obtain ⟨e, f⟩ := word_fl h
      simp [isFl, isFls, py, pys, PyData.depth, PyData.depthAll, e, f]
    · have h : (isWord a "say" && nm b) = true := h
      simp only [Bool.and_eq_true] at h
      obtain ⟨e, f⟩ := word_fl h.1
      obtain ⟨e2, f2⟩ := nm_fl h.2
      simp [isFl, isFls, py, pys, PyData.depth, PyData.depthAll, e, f, e2, f2]
    · have h : (isWord a "call" && nm b && isArgs c n) = true := h
      simp only [Bool.and_eq_true] at h
      obtain ⟨e, f⟩ := word_fl h.1.1
      obtain ⟨e2, f2⟩ := nm_fl h.1.2
      have h3 := h.2
      cases c with
      | tup ws =>
        simp only [isArgs, Bool.and_eq_true, List.all_eq_true] at h3
        obtain ⟨e3, f3⟩ := args_fl h3.2
        simp [isFl, isFls, py, pys, PyData.depth, PyData.depthAll, e, f, e2, f2, e3, f3]
      | _ => simp [isArgs] at h3
    · simp [isStep] at h
  | _ => simp [isStep] at h
theorem steps_fl {n : Int} : ∀ {xs : List D}, xs.all (isStep n) = true → isFls xs = true ∧ PyData.depthAll (pys xs) ≤ 2
  | [], _ => ⟨rfl, by simp [pys, PyData.depthAll]⟩
  | x :: xs, h => by
    simp only [List.all_cons, Bool.and_eq_true] at h
    obtain ⟨a, b⟩ := step_fl h.1
    obtain ⟨c, d⟩ := steps_fl h.2
    simp only [isFls, pys, PyData.depthAll, a, c, Bool.and_self, true_and]
    omega
theorem p_is_body : ∀ ws cs Q E, closed cs → sp_is_body ws cs Q E → t_is_body (endsD cs.length Q E) (startE N_is_body ws) cs := by
  rintro ws cs Q E hc ⟨w, x, n, rfl, ⟨hw, hv⟩, hx, hb, hq⟩
  have hd := dropTo_self hc
  by_cases hl : ∃ ys, x = .lst ys
  · obtain ⟨ys, rfl⟩ := hl
    simp [dSeq, dIfS, dAsg, dIf, dTest, dOp2, dOp1, dOpN, dVar, dC, dCons, dNil, dgName, dRet, dRetN, dDrop, dNext, dLst, dTup, startE, endsD, oI, oInt1, oInt2, oNeg, oIs, oDivmod, dAnd, dOr, dNot, dAndV, dOrV, dNotV, dgSub, dgTup, dgCons, dgNil, oSetL, dPar, dPar3, dFor, diRange1, diRange2, dLc, dCall, dBM, isT, dSl, dP, dNoP, oEq, dChain, oRepr, oIsi, oBools, retD_d, isTy, dDict0, dDict, dPairs, isFl, isFls, isPy, isPys, isPyKV, look_d, look_c, lookC_lst, lookC_dct, lookC_frz, itM_some, oIx_v, ixV_lst, ixV_tup, ixV_scr, ixV_str, oAdd_v, addV_int, addV_str, addV_tup, addV_lst, oMul_v, mulV_int, mulV_lst, oLen_v, lenV_str, lenV_lst, lenV_tup, lenV_scr, oSl_v, slV_str, slV_tup, slV_lst, oIn_v, inV_lst, inV_tup, inV_sign, diSeq_v, seqV_lst, seqV_tup, seqV_str, fixW_d, fixW_c, fixV_frz, fixV_lst, fixV_dct, fixAll_nil, fixAll_cons, t_is_body, hd, hw]
    simpa [isBody] using hq
  have hv : w = .d x := hv.resolve_right hl
  subst hv
  clear hw
  cases x with
  | obj _ _ => simp [isTag] at hx
  | oth _ => simp [isTag] at hx
  | tup xs =>
    obtain ⟨h1, h2⟩ := hb xs rfl
    simp [dSeq, dIfS, dAsg, dIf, dTest, dOp2, dOp1, dOpN, dVar, dC, dCons, dNil, dgName, dRet, dRetN, dDrop, dNext, dLst, dTup, startE, endsD, oI, oInt1, oInt2, oNeg, oIs, oDivmod, dAnd, dOr, dNot, dAndV, dOrV, dNotV, dgSub, dgTup, dgCons, dgNil, oSetL, dPar, dPar3, dFor, diRange1, diRange2, dLc, dCall, dBM, isT, dSl, dP, dNoP, oEq, dChain, oRepr, oIsi, oBools, retD_d, isTy, dDict0, dDict, dPairs, isFl, isFls, isPy, isPys, isPyKV, look_d, look_c, lookC_lst, lookC_dct, lookC_frz, itM_some, oIx_v, ixV_lst, ixV_tup, ixV_scr, ixV_str, oAdd_v, addV_int, addV_str, addV_tup, addV_lst, oMul_v, mulV_int, mulV_lst, oLen_v, lenV_str, lenV_lst, lenV_tup, lenV_scr, oSl_v, slV_str, slV_tup, slV_lst, oIn_v, inV_lst, inV_tup, inV_sign, diSeq_v, seqV_lst, seqV_tup, seqV_str, fixW_d, fixW_c, fixV_frz, fixV_lst, fixV_dct, fixAll_nil, fixAll_cons, t_is_body, hd]
    have sz : 100 ≤ sizeLine := by decide
    refine lcD_map (fun c => c = cs) (fun w => match w with
      | .d x => .bl (isStep n x)
      | _ => .non) (fun _ _ => True.intro) _ cs rfl (by simp; omega) (fun w hw c0 hcs K hK => ?_) fun cs' hcs => ?_
    · subst hcs
      simp at hw
      obtain ⟨y, hy, rfl⟩ := hw
      have := hK c0 (dropTo_self hc)
      simp [dSeq, dIfS, dAsg, dIf, dTest, dOp2, dOp1, dOpN, dVar, dC, dCons, dNil, dgName, dRet, dRetN, dDrop, dNext, dLst, dTup, startE, endsD, oI, oInt1, oInt2, oNeg, oIs, oDivmod, dAnd, dOr, dNot, dAndV, dOrV, dNotV, dgSub, dgTup, dgCons, dgNil, oSetL, dPar, dPar3, dFor, diRange1, diRange2, dLc, dCall, dBM, isT, dSl, dP, dNoP, oEq, dChain, oRepr, oIsi, oBools, retD_d, isTy, dDict0, dDict, dPairs, isFl, isFls, isPy, isPys, isPyKV, look_d, look_c, lookC_lst, lookC_dct, lookC_frz, itM_some, oIx_v, ixV_lst, ixV_tup, ixV_scr, ixV_str, oAdd_v, addV_int, addV_str, addV_tup, addV_lst, oMul_v, mulV_int, mulV_lst, oLen_v, lenV_str, lenV_lst, lenV_tup, lenV_scr, oSl_v, slV_str, slV_tup, slV_lst, oIn_v, inV_lst, inV_tup, inV_sign, diSeq_v, seqV_lst, seqV_tup, seqV_str, fixW_d, fixW_c, fixV_frz, fixV_lst, fixV_dct, fixAll_nil, fixAll_cons, wipeE]
      exact ⟨y, n, rfl, h2 y hy, this⟩
    · subst hcs
      simp [Function.comp_def, bools_map, dropTo_cut hc]
      split
      · rename_i h
        obtain ⟨a, ha, hs⟩ := h
        have e : isBody n (.tup xs) = false := by
          have : xs.all (isStep n) = false := List.all_eq_false.mpr ⟨a, ha, by simp [hs]⟩
          simp only [isBody, this, Bool.false_and]
        rw [e] at hq; exact hq
      · rename_i h
        have all : xs.all (isStep n) = true := List.all_eq_true.mpr fun a ha => by
          cases hs : isStep n a with
          | true => rfl
          | false => exact absurd ⟨a, ha, hs⟩ h
        obtain ⟨f1, f2⟩ := steps_fl all
        refine ⟨f1, rfl, by rw [depth_next]; omega, ?_⟩
        rw [count_nx]
        have e : isBody n (.tup xs) = decide ((xs.filter isNx).length ≤ 1) := by simp only [isBody, all, Bool.true_and]
        rw [e] at hq
        show Q (.d (.bl (decide (((xs.filter isNx).length : Int) ≤ 1)))) (dropTo cs'.length (cs' ++ _))
        rw [dropTo_cut hc]
        have e2 : decide (((xs.filter isNx).length : Int) ≤ 1) = decide ((xs.filter isNx).length ≤ 1) := by
          rw [decide_eq_decide]; omega
        rw [e2]
        exact hq
  | _ =>
    simp [dSeq, dIfS, dAsg, dIf, dTest, dOp2, dOp1, dOpN, dVar, dC, dCons, dNil, dgName, dRet, dRetN, dDrop, dNext, dLst, dTup, startE, endsD, oI, oInt1, oInt2, oNeg, oIs, oDivmod, dAnd, dOr, dNot, dAndV, dOrV, dNotV, dgSub, dgTup, dgCons, dgNil, oSetL, dPar, dPar3, dFor, diRange1, diRange2, dLc, dCall, dBM, isT, dSl, dP, dNoP, oEq, dChain, oRepr, oIsi, oBools, retD_d, isTy, dDict0, dDict, dPairs, isFl, isFls, isPy, isPys, isPyKV, look_d, look_c, lookC_lst, lookC_dct, lookC_frz, itM_some, oIx_v, ixV_lst, ixV_tup, ixV_scr, ixV_str, oAdd_v, addV_int, addV_str, addV_tup, addV_lst, oMul_v, mulV_int, mulV_lst, oLen_v, lenV_str, lenV_lst, lenV_tup, lenV_scr, oSl_v, slV_str, slV_tup, slV_lst, oIn_v, inV_lst, inV_tup, inV_sign, diSeq_v, seqV_lst, seqV_tup, seqV_str, fixW_d, fixW_c, fixV_frz, fixV_lst, fixV_dct, fixAll_nil, fixAll_cons, t_is_body, hd]
    simpa [isBody] using hq
theorem p__law_is_argument : ∀ ws cs Q E, closed cs → sp__law_is_argument ws cs Q E → t__law_is_argument (endsD cs.length Q E) (startE N__law_is_argument ws) cs := by
  rintro ws cs Q E hc ⟨x, n, rfl, hx, hl, hq⟩
  have hd := dropTo_self hc
  cases x with
  | obj _ _ => simp [isTag] at hx
  | oth _ => simp [isTag] at hx
  | bl b =>
    simp [dSeq, dIfS, dAsg, dIf, dTest, dOp2, dOp1, dOpN, dVar, dC, dCons, dNil, dgName, dRet, dRetN, dDrop, dNext, dLst, dTup, startE, endsD, oI, oInt1, oInt2, oNeg, oIs, oDivmod, dAnd, dOr, dNot, dAndV, dOrV, dNotV, dgSub, dgTup, dgCons, dgNil, oSetL, dPar, dPar3, dFor, diRange1, diRange2, dLc, dCall, dBM, isT, dSl, dP, dNoP, oEq, dChain, oRepr, oIsi, oBools, retD_d, isTy, dDict0, dDict, dPairs, isFl, isFls, isPy, isPys, isPyKV, look_d, look_c, lookC_lst, lookC_dct, lookC_frz, itM_some, oIx_v, ixV_lst, ixV_tup, ixV_scr, ixV_str, oAdd_v, addV_int, addV_str, addV_tup, addV_lst, oMul_v, mulV_int, mulV_lst, oLen_v, lenV_str, lenV_lst, lenV_tup, lenV_scr, oSl_v, slV_str, slV_tup, slV_lst, oIn_v, inV_lst, inV_tup, inV_sign, diSeq_v, seqV_lst, seqV_tup, seqV_str, fixW_d, fixW_c, fixV_frz, fixV_lst, fixV_dct, fixAll_nil, fixAll_cons, t__law_is_argument, hd]
    simpa [isArg, nm, isIdx] using hq
  | int i =>
    simp [dSeq, dIfS, dAsg, dIf, dTest, dOp2, dOp1, dOpN, dVar, dC, dCons, dNil, dgName, dRet, dRetN, dDrop, dNext, dLst, dTup, startE, endsD, oI, oInt1, oInt2, oNeg, oIs, oDivmod, dAnd, dOr, dNot, dAndV, dOrV, dNotV, dgSub, dgTup, dgCons, dgNil, oSetL, dPar, dPar3, dFor, diRange1, diRange2, dLc, dCall, dBM, isT, dSl, dP, dNoP, oEq, dChain, oRepr, oIsi, oBools, retD_d, isTy, dDict0, dDict, dPairs, isFl, isFls, isPy, isPys, isPyKV, look_d, look_c, lookC_lst, lookC_dct, lookC_frz, itM_some, oIx_v, ixV_lst, ixV_tup, ixV_scr, ixV_str, oAdd_v, addV_int, addV_str, addV_tup, addV_lst, oMul_v, mulV_int, mulV_lst, oLen_v, lenV_str, lenV_lst, lenV_tup, lenV_scr, oSl_v, slV_str, slV_tup, slV_lst, oIn_v, inV_lst, inV_tup, inV_sign, diSeq_v, seqV_lst, seqV_tup, seqV_str, fixW_d, fixW_c, fixV_frz, fixV_lst, fixV_dct, fixAll_nil, fixAll_cons, t__law_is_argument, hd]
    refine ⟨_, rfl, rfl, nofun, ?_⟩
    simp [nm, hd]
    split
    · rename_i h0
      simpa [isArg, nm, isIdx, h0] using hq
    · rename_i h0
      simpa [isArg, nm, isIdx, h0] using hq
  | str z =>
    simp [dSeq, dIfS, dAsg, dIf, dTest, dOp2, dOp1, dOpN, dVar, dC, dCons, dNil, dgName, dRet, dRetN, dDrop, dNext, dLst, dTup, startE, endsD, oI, oInt1, oInt2, oNeg, oIs, oDivmod, dAnd, dOr, dNot, dAndV, dOrV, dNotV, dgSub, dgTup, dgCons, dgNil, oSetL, dPar, dPar3, dFor, diRange1, diRange2, dLc, dCall, dBM, isT, dSl, dP, dNoP, oEq, dChain, oRepr, oIsi, oBools, retD_d, isTy, dDict0, dDict, dPairs, isFl, isFls, isPy, isPys, isPyKV, look_d, look_c, lookC_lst, lookC_dct, lookC_frz, itM_some, oIx_v, ixV_lst, ixV_tup, ixV_scr, ixV_str, oAdd_v, addV_int, addV_str, addV_tup, addV_lst, oMul_v, mulV_int, mulV_lst, oLen_v, lenV_str, lenV_lst, lenV_tup, lenV_scr, oSl_v, slV_str, slV_tup, slV_lst, oIn_v, inV_lst, inV_tup, inV_sign, diSeq_v, seqV_lst, seqV_tup, seqV_str, fixW_d, fixW_c, fixV_frz, fixV_lst, fixV_dct, fixAll_nil, fixAll_cons, t__law_is_argument, hd]
    refine ⟨_, rfl, rfl, hl, ?_⟩
    cases h : nm (.str z) with
    | true => simpa [h, isArg, hd] using hq
    | false => simpa [h, isArg, isIdx, hd] using hq
  | _ =>
    simp [dSeq, dIfS, dAsg, dIf, dTest, dOp2, dOp1, dOpN, dVar, dC, dCons, dNil, dgName, dRet, dRetN, dDrop, dNext, dLst, dTup, startE, endsD, oI, oInt1, oInt2, oNeg, oIs, oDivmod, dAnd, dOr, dNot, dAndV, dOrV, dNotV, dgSub, dgTup, dgCons, dgNil, oSetL, dPar, dPar3, dFor, diRange1, diRange2, dLc, dCall, dBM, isT, dSl, dP, dNoP, oEq, dChain, oRepr, oIsi, oBools, retD_d, isTy, dDict0, dDict, dPairs, isFl, isFls, isPy, isPys, isPyKV, look_d, look_c, lookC_lst, lookC_dct, lookC_frz, itM_some, oIx_v, ixV_lst, ixV_tup, ixV_scr, ixV_str, oAdd_v, addV_int, addV_str, addV_tup, addV_lst, oMul_v, mulV_int, mulV_lst, oLen_v, lenV_str, lenV_lst, lenV_tup, lenV_scr, oSl_v, slV_str, slV_tup, slV_lst, oIn_v, inV_lst, inV_tup, inV_sign, diSeq_v, seqV_lst, seqV_tup, seqV_str, fixW_d, fixW_c, fixV_frz, fixV_lst, fixV_dct, fixAll_nil, fixAll_cons, t__law_is_argument, hd]
    refine ⟨_, rfl, rfl, nofun, ?_⟩
    simpa [nm, isArg, isIdx, hd] using hq
theorem w1 : (Str.ofString "next" == Str.ofString "say") = false := by decide +kernel
theorem w2 : (Str.ofString "next" == Str.ofString "call") = false := by decide +kernel
theorem w3 : (Str.ofString "say" == Str.ofString "next") = false := by decide +kernel
theorem w4 : (Str.ofString "say" == Str.ofString "call") = false := by decide +kernel
theorem w5 : (Str.ofString "call" == Str.ofString "next") = false := by decide +kernel
theorem w6 : (Str.ofString "call" == Str.ofString "say") = false := by decide +kernel
theorem p__law_is_step : ∀ ws cs Q E, closed cs → sp__law_is_step ws cs Q E → t__law_is_step (endsD cs.length Q E) (startE N__law_is_step ws) cs := by
  rintro ws cs Q E hc ⟨x, n, rfl, ⟨hx, hf, hv⟩, hq⟩
  have hd := dropTo_self hc
  have ht := okd_tag hx
  cases x with
  | obj _ _ => simp [isTag] at ht
  | oth _ => simp [isTag] at ht
  | tup xs =>
    have hm := okd_mem hx
    rcases xs with _ | ⟨a, r⟩
    · simp [dSeq, dIfS, dAsg, dIf, dTest, dOp2, dOp1, dOpN, dVar, dC, dCons, dNil, dgName, dRet, dRetN, dDrop, dNext, dLst, dTup, startE, endsD, oI, oInt1, oInt2, oNeg, oIs, oDivmod, dAnd, dOr, dNot, dAndV, dOrV, dNotV, dgSub, dgTup, dgCons, dgNil, oSetL, dPar, dPar3, dFor, diRange1, diRange2, dLc, dCall, dBM, isT, dSl, dP, dNoP, oEq, dChain, oRepr, oIsi, oBools, retD_d, isTy, dDict0, dDict, dPairs, isFl, isFls, isPy, isPys, isPyKV, look_d, look_c, lookC_lst, lookC_dct, lookC_frz, itM_some, oIx_v, ixV_lst, ixV_tup, ixV_scr, ixV_str, oAdd_v, addV_int, addV_str, addV_tup, addV_lst, oMul_v, mulV_int, mulV_lst, oLen_v, lenV_str, lenV_lst, lenV_tup, lenV_scr, oSl_v, slV_str, slV_tup, slV_lst, oIn_v, inV_lst, inV_tup, inV_sign, diSeq_v, seqV_lst, seqV_tup, seqV_str, fixW_d, fixW_c, fixV_frz, fixV_lst, fixV_dct, fixAll_nil, fixAll_cons, t__law_is_step, hd, oEqE]
      simpa [isStep] using hq
    · have ka := hm a (by simp)
      have ta := okd_tag ka
      cases a with
      | obj _ _ => simp [isTag] at ta
      | oth _ => simp [isTag] at ta
      | str z =>
        simp [dSeq, dIfS, dAsg, dIf, dTest, dOp2, dOp1, dOpN, dVar, dC, dCons, dNil, dgName, dRet, dRetN, dDrop, dNext, dLst, dTup, startE, endsD, oI, oInt1, oInt2, oNeg, oIs, oDivmod, dAnd, dOr, dNot, dAndV, dOrV, dNotV, dgSub, dgTup, dgCons, dgNil, oSetL, dPar, dPar3, dFor, diRange1, diRange2, dLc, dCall, dBM, isT, dSl, dP, dNoP, oEq, dChain, oRepr, oIsi, oBools, retD_d, isTy, dDict0, dDict, dPairs, isFl, isFls, isPy, isPys, isPyKV, look_d, look_c, lookC_lst, lookC_dct, lookC_frz, itM_some, oIx_v, ixV_lst, ixV_tup, ixV_scr, ixV_str, oAdd_v, addV_int, addV_str, addV_tup, addV_lst, oMul_v, mulV_int, mulV_lst, oLen_v, lenV_str, lenV_lst, lenV_tup, lenV_scr, oSl_v, slV_str, slV_tup, slV_lst, oIn_v, inV_lst, inV_tup, inV_sign, diSeq_v, seqV_lst, seqV_tup, seqV_str, fixW_d, fixW_c, fixV_frz, fixV_lst, fixV_dct, fixAll_nil, fixAll_cons, t__law_is_step, hd, oEqE]
        by_cases hz1 : z = Str.ofString "next"
        · rw [if_pos hz1]
          subst hz1
          rcases r with _ | ⟨b, _ | ⟨c, _ | ⟨d, r⟩⟩⟩
          · simpa [isStep, isWord] using hq
          · simpa [isStep, isWord, w1] using hq
          · simpa [isStep, isWord, w2] using hq
          · have e : ((((b :: c :: d :: r).length : Nat) : Int) + 1 == 1) = false := by
              rw [beq_eq_false_iff_ne]
              simp only [List.length_cons]
              omega
            rw [e]
            exact hq
        · rw [if_neg hz1]
          by_cases hz2 : z = Str.ofString "say"
          · rw [if_pos hz2]
            subst hz2
            rcases r with _ | ⟨b, _ | ⟨c, _ | ⟨d, r⟩⟩⟩
            · simpa [isStep, isWord, w3] using hq
            · have kb := hm b (by simp)
              refine ⟨b, rfl, b, rfl, okd_tag kb, okd_len kb, ?_⟩
              have e : isStep n (.tup [.str (Str.ofString "say"), b]) = nm b := by simp [isStep, isWord]
              rw [e] at hq
              show Q _ (dropTo cs.length cs)
              rw [hd]; exact hq
            · simpa [isStep, isWord, w4] using hq
            · rw [if_neg (by simp only [List.length_cons]; omega)]
              exact hq
          · rw [if_neg hz2]
            have z1 : (z == Str.ofString "next") = false := beq_eq_false_iff_ne.mpr hz1
            have z2 : (z == Str.ofString "say") = false := beq_eq_false_iff_ne.mpr hz2
            by_cases hz3 : z = Str.ofString "call"
            · rw [if_pos hz3]
              subst hz3
              rcases r with _ | ⟨b, _ | ⟨c, _ | ⟨d, r⟩⟩⟩
              · simpa [isStep, isWord, w5] using hq
              · simpa [isStep, isWord, w6] using hq
              · have kb := hm b (by simp)
                have kc := hm c (by simp)
                refine ⟨b, rfl, b, rfl, okd_tag kb, okd_len kb, ?_⟩
                have e : isStep n (.tup [.str (Str.ofString "call"), b, c]) = (nm b && isArgs c n) := by simp [isStep, isWord]
                rw [e] at hq
                cases hn : nm b with
                | false =>
                  rw [hn] at hq
                  show Q _ (dropTo cs.length cs)
                  rw [hd]; exact hq
                | true =>
                  rw [hn] at hq
                  have hq : Q (.d (.bl (isArgs c n))) cs := hq
                  have tc := okd_tag kc
                  refine ⟨c, rfl, tc, ?_⟩
                  cases c with
                  | tup ys =>
                    have ky := okd_mem kc
                    simp [dSeq, dIfS, dAsg, dIf, dTest, dOp2, dOp1, dOpN, dVar, dC, dCons, dNil, dgName, dRet, dRetN, dDrop, dNext, dLst, dTup, startE, endsD, oI, oInt1, oInt2, oNeg, oIs, oDivmod, dAnd, dOr, dNot, dAndV, dOrV, dNotV, dgSub, dgTup, dgCons, dgNil, oSetL, dPar, dPar3, dFor, diRange1, diRange2, dLc, dCall, dBM, isT, dSl, dP, dNoP, oEq, dChain, oRepr, oIsi, oBools, retD_d, isTy, dDict0, dDict, dPairs, isFl, isFls, isPy, isPys, isPyKV, look_d, look_c, lookC_lst, lookC_dct, lookC_frz, itM_some, oIx_v, ixV_lst, ixV_tup, ixV_scr, ixV_str, oAdd_v, addV_int, addV_str, addV_tup, addV_lst, oMul_v, mulV_int, mulV_lst, oLen_v, lenV_str, lenV_lst, lenV_tup, lenV_scr, oSl_v, slV_str, slV_tup, slV_lst, oIn_v, inV_lst, inV_tup, inV_sign, diSeq_v, seqV_lst, seqV_tup, seqV_str, fixW_d, fixW_c, fixV_frz, fixV_lst, fixV_dct, fixAll_nil, fixAll_cons, hd]
                    split
                    · split
                      · have sz : 3 ≤ sizeLine := by decide
                        refine lcD_map (fun c => c = cs) (fun w => match w with
                          | .d x => .bl (isArg n x)
                          | _ => .non) (fun _ _ => True.intro) _ cs rfl (by simp; omega) (fun w hw c0 hcs K hK => ?_) fun cs' hcs => ?_
                        · subst hcs
                          simp at hw
                          obtain ⟨y, hy, rfl⟩ := hw
                          have := hK c0 (dropTo_self hc)
                          simp [dSeq, dIfS, dAsg, dIf, dTest, dOp2, dOp1, dOpN, dVar, dC, dCons, dNil, dgName, dRet, dRetN, dDrop, dNext, dLst, dTup, startE, endsD, oI, oInt1, oInt2, oNeg, oIs, oDivmod, dAnd, dOr, dNot, dAndV, dOrV, dNotV, dgSub, dgTup, dgCons, dgNil, oSetL, dPar, dPar3, dFor, diRange1, diRange2, dLc, dCall, dBM, isT, dSl, dP, dNoP, oEq, dChain, oRepr, oIsi, oBools, retD_d, isTy, dDict0, dDict, dPairs, isFl, isFls, isPy, isPys, isPyKV, look_d, look_c, lookC_lst, lookC_dct, lookC_frz, itM_some, oIx_v, ixV_lst, ixV_tup, ixV_scr, ixV_str, oAdd_v, addV_int, addV_str, addV_tup, addV_lst, oMul_v, mulV_int, mulV_lst, oLen_v, lenV_str, lenV_lst, lenV_tup, lenV_scr, oSl_v, slV_str, slV_tup, slV_lst, oIn_v, inV_lst, inV_tup, inV_sign, diSeq_v, seqV_lst, seqV_tup, seqV_str, fixW_d, fixW_c, fixV_frz, fixV_lst, fixV_dct, fixAll_nil, fixAll_cons, wipeE]
                          exact ⟨y, n, rfl, okd_tag (ky y hy), okd_len (ky y hy), this⟩
                        · subst hcs
                          have e3 : isArgs (.tup ys) n = ys.all (isArg n) := by
                            simp only [isArgs]
                            rw [decide_eq_true (by omega)]
                            rfl
                          rw [e3] at hq
                          simp only [List.map_map, Function.comp_def, bools_map, dropTo_cut hc]
                          simpa [List.all_map, Function.comp_def] using hq
                      · have e3 : isArgs (.tup ys) n = false := by
                          simp only [isArgs]
                          rw [decide_eq_false (by omega)]
                          rfl
                        rw [e3] at hq
                        exact hq
                    · have e3 : isArgs (.tup ys) n = false := by
                        simp only [isArgs]
                        rw [decide_eq_false (by omega)]
                        rfl
                      rw [e3] at hq
                      exact hq
                  | obj _ _ => simp [isTag] at tc
                  | oth _ => simp [isTag] at tc
                  | _ =>
                    simp [hd]
                    simpa [isArgs] using hq
              · rw [if_neg (by simp only [List.length_cons]; omega)]
                exact hq
            · rw [if_neg hz3]
              have z3 : (z == Str.ofString "call") = false := beq_eq_false_iff_ne.mpr hz3
              rcases r with _ | ⟨b, _ | ⟨c, _ | ⟨d, r⟩⟩⟩ <;> simpa [isStep, isWord, z1, z2, z3] using hq
      | _ =>
        simp [dSeq, dIfS, dAsg, dIf, dTest, dOp2, dOp1, dOpN, dVar, dC, dCons, dNil, dgName, dRet, dRetN, dDrop, dNext, dLst, dTup, startE, endsD, oI, oInt1, oInt2, oNeg, oIs, oDivmod, dAnd, dOr, dNot, dAndV, dOrV, dNotV, dgSub, dgTup, dgCons, dgNil, oSetL, dPar, dPar3, dFor, diRange1, diRange2, dLc, dCall, dBM, isT, dSl, dP, dNoP, oEq, dChain, oRepr, oIsi, oBools, retD_d, isTy, dDict0, dDict, dPairs, isFl, isFls, isPy, isPys, isPyKV, look_d, look_c, lookC_lst, lookC_dct, lookC_frz, itM_some, oIx_v, ixV_lst, ixV_tup, ixV_scr, ixV_str, oAdd_v, addV_int, addV_str, addV_tup, addV_lst, oMul_v, mulV_int, mulV_lst, oLen_v, lenV_str, lenV_lst, lenV_tup, lenV_scr, oSl_v, slV_str, slV_tup, slV_lst, oIn_v, inV_lst, inV_tup, inV_sign, diSeq_v, seqV_lst, seqV_tup, seqV_str, fixW_d, fixW_c, fixV_frz, fixV_lst, fixV_dct, fixAll_nil, fixAll_cons, t__law_is_step, hd, oEqE]
        have e : ∀ y : D, isStep n (.tup (y :: r)) = isStep n (.tup (y :: r)) := fun _ => rfl
        rcases r with _ | ⟨b, _ | ⟨c, _ | ⟨d, r⟩⟩⟩ <;> simpa [isStep, isWord] using hq
  | _ =>
    simp [dSeq, dIfS, dAsg, dIf, dTest, dOp2, dOp1, dOpN, dVar, dC, dCons, dNil, dgName, dRet, dRetN, dDrop, dNext, dLst, dTup, startE, endsD, oI, oInt1, oInt2, oNeg, oIs, oDivmod, dAnd, dOr, dNot, dAndV, dOrV, dNotV, dgSub, dgTup, dgCons, dgNil, oSetL, dPar, dPar3, dFor, diRange1, diRange2, dLc, dCall, dBM, isT, dSl, dP, dNoP, oEq, dChain, oRepr, oIsi, oBools, retD_d, isTy, dDict0, dDict, dPairs, isFl, isFls, isPy, isPys, isPyKV, look_d, look_c, lookC_lst, lookC_dct, lookC_frz, itM_some, oIx_v, ixV_lst, ixV_tup, ixV_scr, ixV_str, oAdd_v, addV_int, addV_str, addV_tup, addV_lst, oMul_v, mulV_int, mulV_lst, oLen_v, lenV_str, lenV_lst, lenV_tup, lenV_scr, oSl_v, slV_str, slV_tup, slV_lst, oIn_v, inV_lst, inV_tup, inV_sign, diSeq_v, seqV_lst, seqV_tup, seqV_str, fixW_d, fixW_c, fixV_frz, fixV_lst, fixV_dct, fixAll_nil, fixAll_cons, t__law_is_step, hd]
    simpa [isStep] using hq
/-- a tuple of one -/
def isOne (x : D) : Bool := match x with
  | .tup [_] => true
  | _ => false
theorem p__law_is_body : ∀ ws cs Q E, closed cs → sp__law_is_body ws cs Q E → t__law_is_body (endsD cs.length Q E) (startE N__law_is_body ws) cs := by
  rintro ws cs Q E hc ⟨w, x, n, rfl, ⟨hw, hv⟩, hx, hb, hq⟩
  have hd := dropTo_self hc
  by_cases hl : ∃ ys, x = .lst ys
  · obtain ⟨ys, rfl⟩ := hl
    simp [dSeq, dIfS, dAsg, dIf, dTest, dOp2, dOp1, dOpN, dVar, dC, dCons, dNil, dgName, dRet, dRetN, dDrop, dNext, dLst, dTup, startE, endsD, oI, oInt1, oInt2, oNeg, oIs, oDivmod, dAnd, dOr, dNot, dAndV, dOrV, dNotV, dgSub, dgTup, dgCons, dgNil, oSetL, dPar, dPar3, dFor, diRange1, diRange2, dLc, dCall, dBM, isT, dSl, dP, dNoP, oEq, dChain, oRepr, oIsi, oBools, retD_d, isTy, dDict0, dDict, dPairs, isFl, isFls, isPy, isPys, isPyKV, look_d, look_c, lookC_lst, lookC_dct, lookC_frz, itM_some, oIx_v, ixV_lst, ixV_tup, ixV_scr, ixV_str, oAdd_v, addV_int, addV_str, addV_tup, addV_lst, oMul_v, mulV_int, mulV_lst, oLen_v, lenV_str, lenV_lst, lenV_tup, lenV_scr, oSl_v, slV_str, slV_tup, slV_lst, oIn_v, inV_lst, inV_tup, inV_sign, diSeq_v, seqV_lst, seqV_tup, seqV_str, fixW_d, fixW_c, fixV_frz, fixV_lst, fixV_dct, fixAll_nil, fixAll_cons, t__law_is_body, hd, hw]
    simpa [isBody] using hq
  have hv : w = .d x := hv.resolve_right hl
  subst hv
  clear hw
  cases x with
  | obj _ _ => simp [isTag] at hx
  | oth _ => simp [isTag] at hx
  | tup xs =>
    obtain ⟨h1, h2⟩ := hb xs rfl
    simp [dSeq, dIfS, dAsg, dIf, dTest, dOp2, dOp1, dOpN, dVar, dC, dCons, dNil, dgName, dRet, dRetN, dDrop, dNext, dLst, dTup, startE, endsD, oI, oInt1, oInt2, oNeg, oIs, oDivmod, dAnd, dOr, dNot, dAndV, dOrV, dNotV, dgSub, dgTup, dgCons, dgNil, oSetL, dPar, dPar3, dFor, diRange1, diRange2, dLc, dCall, dBM, isT, dSl, dP, dNoP, oEq, dChain, oRepr, oIsi, oBools, retD_d, isTy, dDict0, dDict, dPairs, isFl, isFls, isPy, isPys, isPyKV, look_d, look_c, lookC_lst, lookC_dct, lookC_frz, itM_some, oIx_v, ixV_lst, ixV_tup, ixV_scr, ixV_str, oAdd_v, addV_int, addV_str, addV_tup, addV_lst, oMul_v, mulV_int, mulV_lst, oLen_v, lenV_str, lenV_lst, lenV_tup, lenV_scr, oSl_v, slV_str, slV_tup, slV_lst, oIn_v, inV_lst, inV_tup, inV_sign, diSeq_v, seqV_lst, seqV_tup, seqV_str, fixW_d, fixW_c, fixV_frz, fixV_lst, fixV_dct, fixAll_nil, fixAll_cons, t__law_is_body, hd]
    have sz : 100 ≤ sizeLine := by decide
    refine lcD_inv (fun c => c = cs) (fun w o => o = match w with
      | .d y => if isOne y = true then some y else none
      | _ => none) (fun _ _ => True.intro) _ [] cs rfl (by simp; omega) (fun w hw c0 hcs K K' hK hK' => ?_) fun os cs' hp hcs => ?_
    · subst hcs
      simp at hw
      obtain ⟨y, hy, rfl⟩ := hw
      have ty := okd_tag (h2 y hy).1
      have no : isOne y = false → K' c0 := fun e => hK' c0 (by simp [e]) (dropTo_self hc)
      cases y with
      | obj _ _ => simp [isTag] at ty
      | oth _ => simp [isTag] at ty
      | tup zs =>
        simp [dSeq, dIfS, dAsg, dIf, dTest, dOp2, dOp1, dOpN, dVar, dC, dCons, dNil, dgName, dRet, dRetN, dDrop, dNext, dLst, dTup, startE, endsD, oI, oInt1, oInt2, oNeg, oIs, oDivmod, dAnd, dOr, dNot, dAndV, dOrV, dNotV, dgSub, dgTup, dgCons, dgNil, oSetL, dPar, dPar3, dFor, diRange1, diRange2, dLc, dCall, dBM, isT, dSl, dP, dNoP, oEq, dChain, oRepr, oIsi, oBools, retD_d, isTy, dDict0, dDict, dPairs, isFl, isFls, isPy, isPys, isPyKV, look_d, look_c, lookC_lst, lookC_dct, lookC_frz, itM_some, oIx_v, ixV_lst, ixV_tup, ixV_scr, ixV_str, oAdd_v, addV_int, addV_str, addV_tup, addV_lst, oMul_v, mulV_int, mulV_lst, oLen_v, lenV_str, lenV_lst, lenV_tup, lenV_scr, oSl_v, slV_str, slV_tup, slV_lst, oIn_v, inV_lst, inV_tup, inV_sign, diSeq_v, seqV_lst, seqV_tup, seqV_str, fixW_d, fixW_c, fixV_frz, fixV_lst, fixV_dct, fixAll_nil, fixAll_cons, wipeE]
        rcases zs with _ | ⟨a, _ | ⟨b, r⟩⟩
        · exact no rfl
        · exact hK _ c0 (by simp [isOne]) (dropTo_self hc)
        · have e : ((((a :: b :: r).length : Nat) : Int) = 1) = False := by
            simp only [eq_iff_iff, iff_false, List.length_cons]
            omega
          simp only [e, if_false]
          exact no rfl
      | _ =>
        simp [dSeq, dIfS, dAsg, dIf, dTest, dOp2, dOp1, dOpN, dVar, dC, dCons, dNil, dgName, dRet, dRetN, dDrop, dNext, dLst, dTup, startE, endsD, oI, oInt1, oInt2, oNeg, oIs, oDivmod, dAnd, dOr, dNot, dAndV, dOrV, dNotV, dgSub, dgTup, dgCons, dgNil, oSetL, dPar, dPar3, dFor, diRange1, diRange2, dLc, dCall, dBM, isT, dSl, dP, dNoP, oEq, dChain, oRepr, oIsi, oBools, retD_d, isTy, dDict0, dDict, dPairs, isFl, isFls, isPy, isPys, isPyKV, look_d, look_c, lookC_lst, lookC_dct, lookC_frz, itM_some, oIx_v, ixV_lst, ixV_tup, ixV_scr, ixV_str, oAdd_v, addV_int, addV_str, addV_tup, addV_lst, oMul_v, mulV_int, mulV_lst, oLen_v, lenV_str, lenV_lst, lenV_tup, lenV_scr, oSl_v, slV_str, slV_tup, slV_lst, oIn_v, inV_lst, inV_tup, inV_sign, diSeq_v, seqV_lst, seqV_tup, seqV_str, fixW_d, fixW_c, fixV_frz, fixV_lst, fixV_dct, fixAll_nil, fixAll_cons, wipeE]
        exact no rfl
    · subst hcs
      have e := paired_eq hp
      have eL : os.filterMap id = xs.filter isOne := by
        rw [e, List.map_map]
        clear hp hq hb h1 h2 e
        induction xs with
        | nil => rfl
        | cons a r ih =>
          cases h : isOne a <;> simp [List.filter_cons, h] at ih ⊢ <;> exact ih
      simp only [List.nil_append, eL]
      refine lcD_map (fun c => c = cs' ++ [Cell.lst (xs.filter isOne)]) (fun w => match w with
        | .d x => .bl (isStep n x)
        | _ => .non) (fun _ _ => True.intro) _ _ rfl (by simp; omega) (fun w hw c0 hcs K hK => ?_) fun c2 hcs => ?_
      · subst hcs
        simp at hw
        obtain ⟨y, hy, rfl⟩ := hw
        have := hK _ (closed_drop hc rfl)
        simp [dSeq, dIfS, dAsg, dIf, dTest, dOp2, dOp1, dOpN, dVar, dC, dCons, dNil, dgName, dRet, dRetN, dDrop, dNext, dLst, dTup, startE, endsD, oI, oInt1, oInt2, oNeg, oIs, oDivmod, dAnd, dOr, dNot, dAndV, dOrV, dNotV, dgSub, dgTup, dgCons, dgNil, oSetL, dPar, dPar3, dFor, diRange1, diRange2, dLc, dCall, dBM, isT, dSl, dP, dNoP, oEq, dChain, oRepr, oIsi, oBools, retD_d, isTy, dDict0, dDict, dPairs, isFl, isFls, isPy, isPys, isPyKV, look_d, look_c, lookC_lst, lookC_dct, lookC_frz, itM_some, oIx_v, ixV_lst, ixV_tup, ixV_scr, ixV_str, oAdd_v, addV_int, addV_str, addV_tup, addV_lst, oMul_v, mulV_int, mulV_lst, oLen_v, lenV_str, lenV_lst, lenV_tup, lenV_scr, oSl_v, slV_str, slV_tup, slV_lst, oIn_v, inV_lst, inV_tup, inV_sign, diSeq_v, seqV_lst, seqV_tup, seqV_str, fixW_d, fixW_c, fixV_frz, fixV_lst, fixV_dct, fixAll_nil, fixAll_cons, wipeE]
        exact ⟨y, n, rfl, h2 y hy, this⟩
      · subst hcs
        simp only [List.map_map, Function.comp_def, bools_map]
        split
        · rename_i h
          obtain ⟨a, ha, hs⟩ : ∃ a ∈ xs, isStep n a = false := by simpa using h
          have e : isBody n (.tup xs) = false := by
            have : xs.all (isStep n) = false := List.all_eq_false.mpr ⟨a, ha, by simp [hs]⟩
            simp only [isBody, this, Bool.false_and]
          rw [e] at hq
          rw [List.append_assoc, dropTo_cut hc]
          exact hq
        · rename_i h
          have all : ∀ a ∈ xs, isStep n a = true := fun a ha => by
            cases hs : isStep n a with
            | true => rfl
            | false => exact absurd (by simpa using ⟨a, ha, hs⟩) h
          have ef : xs.filter isOne = xs.filter isNx := List.filter_congr fun a ha => by
            have hs := all a ha
            cases a with
            | tup zs =>
              rcases zs with _ | ⟨a, _ | ⟨b, r⟩⟩
              · rfl
              · have hs : isWord a "next" = true := hs
                cases a <;> simp [isWord] at hs <;> simp [isOne, isNx, hs]
              · cases a <;> rfl
            | _ => rfl
          have e : isBody n (.tup xs) = decide ((xs.filter isNx).length ≤ 1) := by
            have : xs.all (isStep n) = true := List.all_eq_true.mpr all
            simp only [isBody, this, Bool.true_and]
          rw [e, ← ef] at hq
          rw [List.append_assoc]
          simp [dSeq, dIfS, dAsg, dIf, dTest, dOp2, dOp1, dOpN, dVar, dC, dCons, dNil, dgName, dRet, dRetN, dDrop, dNext, dLst, dTup, startE, endsD, oI, oInt1, oInt2, oNeg, oIs, oDivmod, dAnd, dOr, dNot, dAndV, dOrV, dNotV, dgSub, dgTup, dgCons, dgNil, oSetL, dPar, dPar3, dFor, diRange1, diRange2, dLc, dCall, dBM, isT, dSl, dP, dNoP, oEq, dChain, oRepr, oIsi, oBools, retD_d, isTy, dDict0, dDict, dPairs, isFl, isFls, isPy, isPys, isPyKV, look_d, look_c, lookC_lst, lookC_dct, lookC_frz, itM_some, oIx_v, ixV_lst, ixV_tup, ixV_scr, ixV_str, oAdd_v, addV_int, addV_str, addV_tup, addV_lst, oMul_v, mulV_int, mulV_lst, oLen_v, lenV_str, lenV_lst, lenV_tup, lenV_scr, oSl_v, slV_str, slV_tup, slV_lst, oIn_v, inV_lst, inV_tup, inV_sign, diSeq_v, seqV_lst, seqV_tup, seqV_str, fixW_d, fixW_c, fixV_frz, fixV_lst, fixV_dct, fixAll_nil, fixAll_cons, dropTo_cut hc]
          have e2 : decide (((xs.filter isOne).length : Int) < 2) = decide ((xs.filter isOne).length ≤ 1) := by
            rw [decide_eq_decide]; omega
          rw [e2]
          exact hq
  | _ =>
    simp [dSeq, dIfS, dAsg, dIf, dTest, dOp2, dOp1, dOpN, dVar, dC, dCons, dNil, dgName, dRet, dRetN, dDrop, dNext, dLst, dTup, startE, endsD, oI, oInt1, oInt2, oNeg, oIs, oDivmod, dAnd, dOr, dNot, dAndV, dOrV, dNotV, dgSub, dgTup, dgCons, dgNil, oSetL, dPar, dPar3, dFor, diRange1, diRange2, dLc, dCall, dBM, isT, dSl, dP, dNoP, oEq, dChain, oRepr, oIsi, oBools, retD_d, isTy, dDict0, dDict, dPairs, isFl, isFls, isPy, isPys, isPyKV, look_d, look_c, lookC_lst, lookC_dct, lookC_frz, itM_some, oIx_v, ixV_lst, ixV_tup, ixV_scr, ixV_str, oAdd_v, addV_int, addV_str, addV_tup, addV_lst, oMul_v, mulV_int, mulV_lst, oLen_v, lenV_str, lenV_lst, lenV_tup, lenV_scr, oSl_v, slV_str, slV_tup, slV_lst, oIn_v, inV_lst, inV_tup, inV_sign, diSeq_v, seqV_lst, seqV_tup, seqV_str, fixW_d, fixW_c, fixV_frz, fixV_lst, fixV_dct, fixAll_nil, fixAll_cons, t__law_is_body, hd]
    simpa [isBody] using hq
theorem okds_py {k : Nat} (H : ∀ x, okd k x = true → isPy x = true ∧ (py x).depth ≤ k) : ∀ {xs : List D}, okds k xs = true → isPys xs = true ∧ PyData.depthAll (pys xs) ≤ k
  | [], h => ⟨rfl, by simp [pys, PyData.depthAll]⟩
  | x :: xs, h => by
    simp only [okds, Bool.and_eq_true] at h
    obtain ⟨a, b⟩ := H x h.1
    obtain ⟨c, d⟩ := okds_py H h.2
    refine ⟨by simp [isPys, a, c], ?_⟩
    simp only [pys, PyData.depthAll]
    omega
theorem okd_py : ∀ (k : Nat) (x : D), okd k x = true → isPy x = true ∧ (py x).depth ≤ k := by
  intro k
  induction k with
  | zero =>
    intro x h
    cases x with
    | dct kvs =>
      have e : okd 0 (.dct kvs) = false := by cases kvs <;> rfl
      rw [e] at h; cases h
    | tup kvs =>
      have e : okd 0 (.tup kvs) = false := by cases kvs <;> rfl
      rw [e] at h; cases h
    | lst kvs =>
      have e : okd 0 (.lst kvs) = false := by cases kvs <;> rfl
      rw [e] at h; cases h
    | obj a b => exact absurd h (by simp [okd])
    | oth a => exact absurd h (by simp [okd])
    | scr a => exact absurd h (by simp [okd])
    | _ => exact ⟨rfl, by simp [py, PyData.depth]⟩
  | succ k ih =>
    intro x h
    cases x with
    | tup xs =>
      obtain ⟨a, b⟩ := okds_py ih (xs := xs) (by simpa [okd] using h)
      exact ⟨by simpa [isPy] using a, by simp only [py, PyData.depth]; omega⟩
    | lst xs =>
      obtain ⟨a, b⟩ := okds_py ih (xs := xs) (by simpa [okd] using h)
      exact ⟨by simpa [isPy] using a, by simp only [py, PyData.depth]; omega⟩
    | dct kvs =>
      cases kvs with
      | nil => exact ⟨rfl, by simp [py, pyKV, PyData.depth, PyData.depthKv]⟩
      | cons a r =>
        have e : okd (k + 1) (.dct (a :: r)) = false := rfl
        rw [e] at h; cases h
    | obj _ _ => simp [okd] at h
    | oth _ => simp [okd] at h
    | scr _ => simp [okd] at h
    | _ => exact ⟨rfl, by simp [py, PyData.depth]⟩
theorem sh_bl (b : Bool) : isPy (.bl b) = true ∧ (py (.bl b)).showable = true ∧ (py (.bl b)).depth ≤ 60 ∧ (py (.bl b)).shown.length ≤ sizeLine := by
  cases b <;> exact ⟨rfl, by decide +kernel, by decide +kernel, by decide +kernel⟩
theorem look_app {w : W} {cs g : Cs} {x : D} (h : look w cs = some x) : look w (cs ++ g) = some x := by
  cases w with
  | d y => exact h
  | dead => cases h
  | tp y => cases h
  | c i =>
    rw [look_c] at h ⊢
    cases e : cs[i]? with
    | none => rw [e] at h; cases h
    | some c => rw [get_app e, ← e]; exact h
theorem p__law_right : ∀ ws cs Q E, closed cs → sp__law_right ws cs Q E → t__law_right (endsD cs.length Q E) (startE N__law_right ws) cs := by
  rintro ws cs Q E hc ⟨w, x, n, rfl, hv, ⟨hx, hb, hs, hl⟩, hq⟩
  have hw := hv.1
  have hwa : ∀ g, look w (cs ++ g) = some x := fun g => look_app hw
  have hd := dropTo_self hc
  obtain ⟨ip, dp⟩ := okd_py 5 x hx
  simp [dSeq, dIfS, dAsg, dIf, dTest, dOp2, dOp1, dOpN, dVar, dC, dCons, dNil, dgName, dRet, dRetN, dDrop, dNext, dLst, dTup, startE, endsD, oI, oInt1, oInt2, oNeg, oIs, oDivmod, dAnd, dOr, dNot, dAndV, dOrV, dNotV, dgSub, dgTup, dgCons, dgNil, oSetL, dPar, dPar3, dFor, diRange1, diRange2, dLc, dCall, dBM, isT, dSl, dP, dNoP, oEq, dChain, oRepr, oIsi, oBools, retD_d, isTy, dDict0, dDict, dPairs, isFl, isFls, isPy, isPys, isPyKV, look_d, look_c, lookC_lst, lookC_dct, lookC_frz, itM_some, oIx_v, ixV_lst, ixV_tup, ixV_scr, ixV_str, oAdd_v, addV_int, addV_str, addV_tup, addV_lst, oMul_v, mulV_int, mulV_lst, oLen_v, lenV_str, lenV_lst, lenV_tup, lenV_scr, oSl_v, slV_str, slV_tup, slV_lst, oIn_v, inV_lst, inV_tup, inV_sign, diSeq_v, seqV_lst, seqV_tup, seqV_str, fixW_d, fixW_c, fixV_frz, fixV_lst, fixV_dct, fixAll_nil, fixAll_cons, t__law_right, hd, hw]
  refine ⟨ip, hs, by omega, hl, w, x, n, rfl, hv, okd_tag hx, hb, ?_⟩
  obtain ⟨s1, s2, s3, s4⟩ := sh_bl (isBody n x)
  refine ⟨s1, s2, s3, s4, w, x, n, rfl, hv, okd_tag hx, hb, w, x, n, rfl, hv, okd_tag hx, hb, by decide, ?_⟩
  have look1 : ∀ c, c = cs ++ [Cell.lst [.bl (isBody n x), .bl (isBody n x)]] → lookC c[cs.length]? = some (.lst [.bl (isBody n x), .bl (isBody n x)]) := fun c e => by subst e; simp [lookC]
  refine lcD_map (fun c => c = cs ++ [Cell.lst [.bl (isBody n x), .bl (isBody n x)]]) (fun _ => .str (py (.bl (isBody n x))).shown) look1 _ _ rfl (show 2 ≤ sizeLine by decide) (fun w hw c0 hcs K hK => ?_) fun c2 hcs => ?_
  · subst hcs
    obtain rfl : w = .d (.bl (isBody n x)) := by simpa using hw
    have := hK _ (closed_drop hc rfl)
    simp [dSeq, dIfS, dAsg, dIf, dTest, dOp2, dOp1, dOpN, dVar, dC, dCons, dNil, dgName, dRet, dRetN, dDrop, dNext, dLst, dTup, startE, endsD, oI, oInt1, oInt2, oNeg, oIs, oDivmod, dAnd, dOr, dNot, dAndV, dOrV, dNotV, dgSub, dgTup, dgCons, dgNil, oSetL, dPar, dPar3, dFor, diRange1, diRange2, dLc, dCall, dBM, isT, dSl, dP, dNoP, oEq, dChain, oRepr, oIsi, oBools, retD_d, isTy, dDict0, dDict, dPairs, isFl, isFls, isPy, isPys, isPyKV, look_d, look_c, lookC_lst, lookC_dct, lookC_frz, itM_some, oIx_v, ixV_lst, ixV_tup, ixV_scr, ixV_str, oAdd_v, addV_int, addV_str, addV_tup, addV_lst, oMul_v, mulV_int, mulV_lst, oLen_v, lenV_str, lenV_lst, lenV_tup, lenV_scr, oSl_v, slV_str, slV_tup, slV_lst, oIn_v, inV_lst, inV_tup, inV_sign, diSeq_v, seqV_lst, seqV_tup, seqV_str, fixW_d, fixW_c, fixV_frz, fixV_lst, fixV_dct, fixAll_nil, fixAll_cons, wipeE]
    first
      | exact ⟨s1, s2, s3, s4, this⟩
      | exact ⟨s1, s3, s4, this⟩
      | exact ⟨s2, s3, s4, this⟩
      | exact ⟨s3, s4, this⟩
  · subst hcs
    refine ⟨by decide, isFls_strs [_, _], ?_, ?_⟩
    · simp [py, pys, PyData.depth, PyData.depthAll]
    · have e : PyData.eqv (py (.lst [.str (py (.bl (isBody n x))).shown, .str (py (.bl (isBody n x))).shown])) (py (.lst [.str (py (.bl (isBody n x))).shown, .str (py (.bl (isBody n x))).shown])) = true := by
        simp [py, pys, PyData.eqv, PyData.eqvAll]
      show if _ = true then _ else _
      simp only [List.map_cons, List.map_nil]
      rw [if_pos e, List.append_assoc, hwa]
      refine ⟨ip, hs, by omega, hl, ?_⟩
      rw [dropTo_cut hc]
      simpa using hq
end K31
namespace K31
open PySem PySem.Spec L2 DL
theorem signs_of : ∀ {xs : List W} {ys : List D}, Paired (fun _ y => ∃ c, y = D.str ⟨#[c]⟩ ∧ c ∈ lets.cps.toList) xs ys → ∃ zs : List Str, ys = zs.map .str ∧ zs.length = xs.length ∧ ∀ z ∈ zs, z.length = 1 ∧ ∀ c ∈ z.cps.toList, c ∈ lets.cps.toList
  | _, _, .nil => ⟨[], rfl, rfl, by simp⟩
  | _, _, .cons h t => by
    obtain ⟨c, rfl, h1⟩ := h
    obtain ⟨zs, rfl, h2, h3⟩ := signs_of t
    refine ⟨⟨#[c]⟩ :: zs, rfl, by simp [h2], fun z hz => ?_⟩
    rcases List.mem_cons.mp hz with rfl | hz
    · exact ⟨rfl, fun d hd => by simp at hd; subst hd; exact h1⟩
    · exact h3 z hz
theorem lets_small : ∀ c ∈ lets.cps.toList, c < 0x110000 := by decide +kernel
theorem p__law_name : ∀ ws cs Q E, closed cs → sp__law_name ws cs Q E → t__law_name (endsD cs.length Q E) (startE N__law_name ws) cs := by
  rintro ws cs Q E hc ⟨i, rfl, hp, hq⟩
  have S0 := St.init hc hp
  simp [dSeq, dIfS, dAsg, dIf, dTest, dOp2, dOp1, dOpN, dVar, dC, dCons, dNil, dgName, dRet, dRetN, dDrop, dNext, dLst, dTup, startE, endsD, oI, oInt1, oInt2, oNeg, oIs, oDivmod, dAnd, dOr, dNot, dAndV, dOrV, dNotV, dgSub, dgTup, dgCons, dgNil, oSetL, dPar, dPar3, dFor, diRange1, diRange2, dLc, dCall, dBM, isT, dSl, dP, dNoP, oEq, dChain, oRepr, oIsi, oBools, retD_d, isTy, dDict0, dDict, dPairs, isFl, isFls, isPy, isPys, isPyKV, look_d, look_c, lookC_lst, lookC_dct, lookC_frz, itM_some, oIx_v, ixV_lst, ixV_tup, ixV_scr, ixV_str, oAdd_v, addV_int, addV_str, addV_tup, addV_lst, oMul_v, mulV_int, mulV_lst, oLen_v, lenV_str, lenV_lst, lenV_tup, lenV_scr, oSl_v, slV_str, slV_tup, slV_lst, oIn_v, inV_lst, inV_tup, inV_sign, diSeq_v, seqV_lst, seqV_tup, seqV_str, fixW_d, fixW_c, fixV_frz, fixV_lst, fixV_dct, fixAll_nil, fixAll_cons, t__law_name]
  refine ⟨by decide, ?_⟩
  have S0' : cs ++ [Cell.lst [D.int 1, D.int 2, D.int 8]] = cs ++ [Cell.lst [D.int 1, D.int 2, D.int 8]] := rfl
  refine draw_st S0 (by decide) (by decide) fun k B2 k0 k1 S2 => ?_
  obtain ⟨x, e, hx⟩ := mem_at (xs := [D.int 1, D.int 2, D.int 8]) k0 k1 rfl
  have hx : ∃ s : Int, x = .int s ∧ 1 ≤ s ∧ s ≤ 8 := by
    simp at hx
    rcases hx with rfl | rfl | rfl <;> exact ⟨_, rfl, by omega, by omega⟩
  obtain ⟨s, rfl, s0, s1⟩ := hx
  simp [dSeq, dIfS, dAsg, dIf, dTest, dOp2, dOp1, dOpN, dVar, dC, dCons, dNil, dgName, dRet, dRetN, dDrop, dNext, dLst, dTup, startE, endsD, oI, oInt1, oInt2, oNeg, oIs, oDivmod, dAnd, dOr, dNot, dAndV, dOrV, dNotV, dgSub, dgTup, dgCons, dgNil, oSetL, dPar, dPar3, dFor, diRange1, diRange2, dLc, dCall, dBM, isT, dSl, dP, dNoP, oEq, dChain, oRepr, oIsi, oBools, retD_d, isTy, dDict0, dDict, dPairs, isFl, isFls, isPy, isPys, isPyKV, look_d, look_c, lookC_lst, lookC_dct, lookC_frz, itM_some, oIx_v, ixV_lst, ixV_tup, ixV_scr, ixV_str, oAdd_v, addV_int, addV_str, addV_tup, addV_lst, oMul_v, mulV_int, mulV_lst, oLen_v, lenV_str, lenV_lst, lenV_tup, lenV_scr, oSl_v, slV_str, slV_tup, slV_lst, oIn_v, inV_lst, inV_tup, inV_sign, diSeq_v, seqV_lst, seqV_tup, seqV_str, fixW_d, fixW_c, fixV_frz, fixV_lst, fixV_dct, fixAll_nil, fixAll_cons, e, S2.len.symm]
  refine ⟨by omega, by omega, ?_⟩
  have sz : 12 ≤ sizeLine := by decide
  refine lcD_all (fun c => ∃ B3, St cs i B3 ∧ c = B3 ++ [Cell.lst [D.int 1, D.int 2, D.int 8]]) (fun _ y => ∃ c, y = .str ⟨#[c]⟩ ∧ c ∈ lets.cps.toList) (fun _ _ => True.intro) _ _ ⟨B2, S2, rfl⟩ (by simp; omega) (fun w hw c hcs K hK => ?_) fun ys c' hp hcs => ?_
  · obtain ⟨B3, S3, rfl⟩ := hcs
    simp at hw
    obtain ⟨j, hj, rfl⟩ := hw
    simp [dSeq, dIfS, dAsg, dIf, dTest, dOp2, dOp1, dOpN, dVar, dC, dCons, dNil, dgName, dRet, dRetN, dDrop, dNext, dLst, dTup, startE, endsD, oI, oInt1, oInt2, oNeg, oIs, oDivmod, dAnd, dOr, dNot, dAndV, dOrV, dNotV, dgSub, dgTup, dgCons, dgNil, oSetL, dPar, dPar3, dFor, diRange1, diRange2, dLc, dCall, dBM, isT, dSl, dP, dNoP, oEq, dChain, oRepr, oIsi, oBools, retD_d, isTy, dDict0, dDict, dPairs, isFl, isFls, isPy, isPys, isPyKV, look_d, look_c, lookC_lst, lookC_dct, lookC_frz, itM_some, oIx_v, ixV_lst, ixV_tup, ixV_scr, ixV_str, oAdd_v, addV_int, addV_str, addV_tup, addV_lst, oMul_v, mulV_int, mulV_lst, oLen_v, lenV_str, lenV_lst, lenV_tup, lenV_scr, oSl_v, slV_str, slV_tup, slV_lst, oIn_v, inV_lst, inV_tup, inV_sign, diSeq_v, seqV_lst, seqV_tup, seqV_str, fixW_d, fixW_c, fixV_frz, fixV_lst, fixV_dct, fixAll_nil, fixAll_cons, wipeE]
    refine draw_st S3 (by decide) (by decide) fun q B4 q0 q1 S4 => ?_
    obtain ⟨d, ed, hd⟩ := mem_at (xs := lets.cps.toList) q0 q1 rfl
    have ed : atI lets.cps.toList q = some d := ed
    simp [dSeq, dIfS, dAsg, dIf, dTest, dOp2, dOp1, dOpN, dVar, dC, dCons, dNil, dgName, dRet, dRetN, dDrop, dNext, dLst, dTup, startE, endsD, oI, oInt1, oInt2, oNeg, oIs, oDivmod, dAnd, dOr, dNot, dAndV, dOrV, dNotV, dgSub, dgTup, dgCons, dgNil, oSetL, dPar, dPar3, dFor, diRange1, diRange2, dLc, dCall, dBM, isT, dSl, dP, dNoP, oEq, dChain, oRepr, oIsi, oBools, retD_d, isTy, dDict0, dDict, dPairs, isFl, isFls, isPy, isPys, isPyKV, look_d, look_c, lookC_lst, lookC_dct, lookC_frz, itM_some, oIx_v, ixV_lst, ixV_tup, ixV_scr, ixV_str, oAdd_v, addV_int, addV_str, addV_tup, addV_lst, oMul_v, mulV_int, mulV_lst, oLen_v, lenV_str, lenV_lst, lenV_tup, lenV_scr, oSl_v, slV_str, slV_tup, slV_lst, oIn_v, inV_lst, inV_tup, inV_sign, diSeq_v, seqV_lst, seqV_tup, seqV_str, fixW_d, fixW_c, fixV_frz, fixV_lst, fixV_dct, fixAll_nil, fixAll_cons, letsq, ed]
    refine ⟨by decide +kernel, hK _ _ ⟨d, rfl, hd⟩ ⟨B4, S4, ?_⟩⟩
    rw [S2.len, ← S4.len]
    exact closed_drop S4.cl rfl
  · obtain ⟨B3, S3, rfl⟩ := hcs
    obtain ⟨zs, rfl, hl, hz⟩ := signs_of hp
    have hs : (zs.map (·.length)).sum = zs.length := sum_ones fun z hz' => (hz z hz').1
    simp at hl
    simp only [oJoin, look_d, look_c, get_at0, List.getElem?_cons_zero, lookC_lst, txts_strs, retD_d]
    refine ⟨?_, ?_⟩
    · rw [hs]
      simp [show (Str.ofString "").length = 0 from rfl]
      omega
    · have hmem : ∀ c ∈ (Str.join "" zs).cps.toList, c ∈ lets.cps.toList := fun c hc => by
        obtain ⟨z, hz1, hz2⟩ := join_mem zs c hc
        exact (hz z hz1).2 c hz2
      have hlen : (Str.join "" zs).length = s.toNat := by rw [join_len, hs]; omega
      have hn : nm (.str (Str.join "" zs)) = true := by
        simp only [nm, Bool.and_eq_true, decide_eq_true_eq, List.all_eq_true]
        exact ⟨by omega, hmem⟩
      rw [S2.len, List.append_assoc]
      exact S3.fin fun a b h1 h2 => hq _ a b ⟨hn, strOk_of fun c hc => lets_small c (hmem c hc)⟩ h1 h2
theorem odd_all {n : Int} (h0 : 1 ≤ n) (h1 : n ≤ 3) : ∀ y ∈ [D.non, D.bl true, D.bl false, D.int (-1), D.int n, D.int 1000000000000000000000000000000,
                  D.str (Str.ofString ""), D.str (Str.ofString "A"), D.str (Str.ofString "nineletters"),
                  D.str (Str.ofString "a b"), D.tup [], D.lst [], D.dct [], D.tup [D.int 0], D.str (Str.ofString "0")], oddOk y := by
  have hn : n = 1 ∨ n = 2 ∨ n = 3 := by omega
  intro y hy
  simp only [List.mem_cons, List.not_mem_nil, or_false] at hy
  rcases hn with rfl | rfl | rfl <;> rcases hy with rfl | rfl | rfl | rfl | rfl | rfl | rfl | rfl | rfl | rfl | rfl | rfl | rfl | rfl | rfl <;>
    exact ⟨by decide +kernel, by decide +kernel, by decide +kernel, by first | exact .inl rfl | exact .inr ⟨_, rfl⟩⟩
theorem p__law_odd_argument : ∀ ws cs Q E, closed cs → sp__law_odd_argument ws cs Q E → t__law_odd_argument (endsD cs.length Q E) (startE N__law_odd_argument ws) cs := by
  rintro ws cs Q E hc ⟨i, n, rfl, hp, n0, n1, hq⟩
  have S0 := St.init hc hp
  simp [dSeq, dIfS, dAsg, dIf, dTest, dOp2, dOp1, dOpN, dVar, dC, dCons, dNil, dgName, dRet, dRetN, dDrop, dNext, dLst, dTup, startE, endsD, oI, oInt1, oInt2, oNeg, oIs, oDivmod, dAnd, dOr, dNot, dAndV, dOrV, dNotV, dgSub, dgTup, dgCons, dgNil, oSetL, dPar, dPar3, dFor, diRange1, diRange2, dLc, dCall, dBM, isT, dSl, dP, dNoP, oEq, dChain, oRepr, oIsi, oBools, retD_d, isTy, dDict0, dDict, dPairs, isFl, isFls, isPy, isPys, isPyKV, look_d, look_c, lookC_lst, lookC_dct, lookC_frz, itM_some, oIx_v, ixV_lst, ixV_tup, ixV_scr, ixV_str, oAdd_v, addV_int, addV_str, addV_tup, addV_lst, oMul_v, mulV_int, mulV_lst, oLen_v, lenV_str, lenV_lst, lenV_tup, lenV_scr, oSl_v, slV_str, slV_tup, slV_lst, oIn_v, inV_lst, inV_tup, inV_sign, diSeq_v, seqV_lst, seqV_tup, seqV_str, fixW_d, fixW_c, fixV_frz, fixV_lst, fixV_dct, fixAll_nil, fixAll_cons, t__law_odd_argument, Nat.add_assoc]
  refine ⟨cpow_ok (by decide), by decide, by decide, draw_st S0 (by decide) (by decide) fun m B2 m0 m1 S2 => ?_⟩
  obtain ⟨y, ey, hy⟩ := mem_at (xs := [D.non, D.bl true, D.bl false, D.int (-1), D.int n, D.int 1000000000000000000000000000000,
                  D.str (Str.ofString ""), D.str (Str.ofString "A"), D.str (Str.ofString "nineletters"),
                  D.str (Str.ofString "a b"), D.tup [], D.lst [], D.dct [], D.tup [D.int 0], D.str (Str.ofString "0")]) m0 m1 rfl
  simp [dSeq, dIfS, dAsg, dIf, dTest, dOp2, dOp1, dOpN, dVar, dC, dCons, dNil, dgName, dRet, dRetN, dDrop, dNext, dLst, dTup, startE, endsD, oI, oInt1, oInt2, oNeg, oIs, oDivmod, dAnd, dOr, dNot, dAndV, dOrV, dNotV, dgSub, dgTup, dgCons, dgNil, oSetL, dPar, dPar3, dFor, diRange1, diRange2, dLc, dCall, dBM, isT, dSl, dP, dNoP, oEq, dChain, oRepr, oIsi, oBools, retD_d, isTy, dDict0, dDict, dPairs, isFl, isFls, isPy, isPys, isPyKV, look_d, look_c, lookC_lst, lookC_dct, lookC_frz, itM_some, oIx_v, ixV_lst, ixV_tup, ixV_scr, ixV_str, oAdd_v, addV_int, addV_str, addV_tup, addV_lst, oMul_v, mulV_int, mulV_lst, oLen_v, lenV_str, lenV_lst, lenV_tup, lenV_scr, oSl_v, slV_str, slV_tup, slV_lst, oIn_v, inV_lst, inV_tup, inV_sign, diSeq_v, seqV_lst, seqV_tup, seqV_str, fixW_d, fixW_c, fixV_frz, fixV_lst, fixV_dct, fixAll_nil, fixAll_cons, S2.len.symm, ey]
  rw [S2.len]
  exact S2.fin fun a b h1 h2 => hq y a b (odd_all n0 n1 y hy) h1 h2
theorem name_st {cs B g : Cs} {i : Nat} {Q : DQ} {E : DX} (S : St cs i B) (h : ∀ x B', wordOk x → St cs i B' → Q (.d (.str x)) (B' ++ g)) : sp__law_name [.c i] (B ++ g) Q E :=
  ⟨i, rfl, pot_app S.pot, fun x a b hx h1 h2 => by
    rw [pot_set S.pot]
    exact h x _ hx (S.next h1 h2)⟩
theorem name_st0 {cs B : Cs} {i : Nat} {Q : DQ} {E : DX} (S : St cs i B) (h : ∀ x B', wordOk x → St cs i B' → Q (.d (.str x)) B') : sp__law_name [.c i] B Q E :=
  ⟨i, rfl, S.pot, fun x a b hx h1 h2 => h x _ hx (S.next h1 h2)⟩
/-- an argument that is drawn -/
def argOk (n : Int) (y : D) : Prop := (∃ x, y = .str x ∧ wordOk x) ∨ ∃ k, y = .int k ∧ 0 ≤ k ∧ k < n
theorem word_len {x : Str} (h : wordOk x) : 1 ≤ x.length ∧ x.length ≤ 8 := by
  have := h.1
  simp only [nm, Bool.and_eq_true, decide_eq_true_eq] at this
  exact this.1
theorem word_shown {x : Str} (h : wordOk x) : (reprText x).length ≤ 82 := by
  have := PySem.StrLaws.reprText_len x fun c hc => Nat.lt_trans (strOk_mem h.2 c hc) (by decide)
  have := word_len h
  omega
theorem j1 : (Str.ofString "(").length = 1 := by decide +kernel
theorem j2 : (Str.ofString ",)").length = 2 := by decide +kernel
theorem j3 : (Str.ofString ")").length = 1 := by decide +kernel
theorem j4 : (Str.ofString ", ").length = 2 := by decide +kernel
theorem j5 : (reprText (Str.ofString "say")).length = 5 := by decide +kernel
theorem j6 : (reprText (Str.ofString "call")).length = 6 := by decide +kernel
theorem arg_ok {n : Int} {y : D} (h1 : n ≤ 3) (h : argOk n y) : okd 1 y = true ∧ isArg n y = true ∧ isFl y = true ∧ (py y).showable = true ∧ (py y).shown.length ≤ 82 := by
  rcases h with ⟨x, rfl, hx⟩ | ⟨k, rfl, k0, k1⟩
  · have := word_len hx
    refine ⟨?_, by simp [isArg, hx.1], rfl, by simp [py, PyData.showable], ?_⟩
    · show decide (x.length ≤ 1000) = true
      rw [decide_eq_true_eq]; omega
    · simp only [py, PyData.shown]
      exact word_shown hx
  · have hk : k = 0 ∨ k = 1 ∨ k = 2 := by omega
    refine ⟨rfl, by simp [isArg, isIdx, k0, k1], rfl, ?_⟩
    rcases hk with rfl | rfl | rfl <;> exact ⟨by decide +kernel, by decide +kernel⟩
theorem args_ok {n : Int} (h1 : n ≤ 3) : ∀ {ys : List D}, (∀ y ∈ ys, argOk n y) → okds 1 ys = true ∧ ys.all (isArg n) = true ∧ isFls ys = true ∧ PyData.showableAll (pys ys) = true ∧ ∀ z ∈ PyData.shownAll (pys ys), z.length ≤ 82
  | [], _ => ⟨rfl, rfl, rfl, by simp [pys, PyData.showableAll], by simp [pys, PyData.shownAll]⟩
  | y :: ys, h => by
    obtain ⟨a1, a2, a3, a4, a5⟩ := arg_ok h1 (h y List.mem_cons_self)
    obtain ⟨b1, b2, b3, b4, b5⟩ := args_ok h1 fun z hz => h z (List.mem_cons_of_mem _ hz)
    refine ⟨by simp [okds, a1, b1], by simp [a2]; simpa using b2, by simp [isFls, a3, b3], by simp [pys, PyData.showableAll, a4, b4], fun z hz => ?_⟩
    simp only [pys, PyData.shownAll, List.mem_cons] at hz
    rcases hz with rfl | hz
    · exact a5
    · exact b5 z hz
theorem okd_up : ∀ {k : Nat} {x : D}, okd k x = true → okd (k + 1) x = true := by
  intro k
  induction k with
  | zero =>
    intro x h
    cases x with
    | dct kvs =>
      have e : okd 0 (.dct kvs) = false := by cases kvs <;> rfl
      rw [e] at h; cases h
    | tup kvs =>
      have e : okd 0 (.tup kvs) = false := by cases kvs <;> rfl
      rw [e] at h; cases h
    | lst kvs =>
      have e : okd 0 (.lst kvs) = false := by cases kvs <;> rfl
      rw [e] at h; cases h
    | str z => exact h
    | non => rfl
    | bl b => rfl
    | int b => rfl
    | _ => exact absurd h (by simp [okd])
  | succ k ih =>
    have up : ∀ {xs : List D}, okds k xs = true → okds (k + 1) xs = true := by
      intro xs h
      induction xs with
      | nil => rfl
      | cons a r ihr =>
        simp only [okds, Bool.and_eq_true] at h ⊢
        exact ⟨ih h.1, ihr h.2⟩
    intro x h
    cases x with
    | tup xs => exact up h
    | lst xs => exact up h
    | dct kvs => cases kvs with
      | nil => rfl
      | cons a r =>
        have e : okd (k + 1) (.dct (a :: r)) = false := rfl
        rw [e] at h; cases h
    | str z => exact h
    | non => rfl
    | bl b => rfl
    | int b => rfl
    | _ => exact absurd h (by simp [okd])
theorem okds_up {k : Nat} : ∀ {xs : List D}, okds k xs = true → okds (k + 1) xs = true
  | [], h => rfl
  | a :: r, h => by
    simp only [okds, Bool.and_eq_true] at h ⊢
    exact ⟨okd_up h.1, okds_up h.2⟩
theorem g_next {n : Int} : goodStep n (.tup [.str (Str.ofString "next")]) :=
  ⟨⟨by decide +kernel, fun xs e _ _ => by cases e; exact .inl rfl, fun a r e => by cases e; exact .inl rfl⟩, by simp [isStep, isWord], rfl, by decide +kernel, by decide +kernel⟩
theorem w_okd {x : Str} {k : Nat} (h : wordOk x) : okd k (.str x) = true := by
  have := word_len h
  have e : okd k (.str x) = decide (x.length ≤ 1000) := by cases k <;> rfl
  rw [e, decide_eq_true_eq]; omega
theorem g_say {n : Int} {x : Str} (h : wordOk x) : goodStep n (.tup [.str (Str.ofString "say"), .str x]) := by
  have sx := word_shown h
  refine ⟨⟨?_, fun xs e h2 _ => by cases e; exact absurd rfl h2, fun a r e => by cases e; exact .inl rfl⟩, by simp [isStep, isWord, h.1], rfl, by simp [py, pys, PyData.showable, PyData.showableAll], ?_⟩
  · show okds 3 [.str (Str.ofString "say"), .str x] = true
    simp [okds, w_okd h]
    decide +kernel
  · simp [py, pys, PyData.shown, PyData.shownAll, tupleText, Str.join, strLen_append, j1, j3, j4, j5]
    omega
theorem g_call {n : Int} {x : Str} {ys : List D} (h1 : n ≤ 3) (h : wordOk x) (hl : 1 ≤ ys.length ∧ ys.length ≤ 3) (hy : ∀ y ∈ ys, argOk n y) : goodStep n (.tup [.str (Str.ofString "call"), .str x, .tup ys]) := by
  have sx := word_shown h
  obtain ⟨a1, a2, a3, a4, a5⟩ := args_ok h1 hy
  refine ⟨⟨?_, fun xs e _ h3 => by cases e; exact absurd rfl h3, fun a r e => by cases e; exact .inl rfl⟩, by simp [isStep, isWord, h.1, isArgs, hl.1, hl.2]; simpa using a2, by simp [isFl, isFls, a3], by simp [py, pys, PyData.showable, PyData.showableAll, a4], ?_⟩
  · show okds 3 [.str (Str.ofString "call"), .str x, .tup ys] = true
    have e : okd 3 (.tup ys) = true := okds_up a1
    have e0 : okd 3 (.str (Str.ofString "call")) = true := by decide +kernel
    simp [okds, w_okd h, e, e0]
  · have e : (tupleText (PyData.shownAll (pys ys))).length ≤ 1000 := by
      rcases ys with _ | ⟨p, _ | ⟨q, _ | ⟨t, _ | ⟨d, r⟩⟩⟩⟩
      · simp at hl
      all_goals simp only [pys, PyData.shownAll, List.mem_cons, List.not_mem_nil, or_false, forall_eq_or_imp, forall_eq] at a5
      · simp [pys, PyData.shownAll, tupleText, Str.join, strLen_append, j1, j2]; omega
      · simp [pys, PyData.shownAll, tupleText, Str.join, strLen_append, j1, j3, j4]; omega
      · simp [pys, PyData.shownAll, tupleText, Str.join, strLen_append, j1, j3, j4]; omega
      · simp only [List.length_cons] at hl; omega
    have e0 : (py (.tup [.str (Str.ofString "call"), .str x, .tup ys])).shown = tupleText [reprText (Str.ofString "call"), reprText x, tupleText (PyData.shownAll (pys ys))] := by simp only [py, pys, PyData.shown, PyData.shownAll]
    rw [e0]
    generalize tupleText (PyData.shownAll (pys ys)) = t at e ⊢
    simp [tupleText, Str.join, strLen_append, j1, j3, j4, j6]
    omega
theorem p__law_step : ∀ ws cs Q E, closed cs → sp__law_step ws cs Q E → t__law_step (endsD cs.length Q E) (startE N__law_step ws) cs := by
  rintro ws cs Q E hc ⟨i, n, rfl, hp, n0, n1, hq⟩
  have S0 := St.init hc hp
  simp [dSeq, dIfS, dAsg, dIf, dTest, dOp2, dOp1, dOpN, dVar, dC, dCons, dNil, dgName, dRet, dRetN, dDrop, dNext, dLst, dTup, startE, endsD, oI, oInt1, oInt2, oNeg, oIs, oDivmod, dAnd, dOr, dNot, dAndV, dOrV, dNotV, dgSub, dgTup, dgCons, dgNil, oSetL, dPar, dPar3, dFor, diRange1, diRange2, dLc, dCall, dBM, isT, dSl, dP, dNoP, oEq, dChain, oRepr, oIsi, oBools, retD_d, isTy, dDict0, dDict, dPairs, isFl, isFls, isPy, isPys, isPyKV, look_d, look_c, lookC_lst, lookC_dct, lookC_frz, itM_some, oIx_v, ixV_lst, ixV_tup, ixV_scr, ixV_str, oAdd_v, addV_int, addV_str, addV_tup, addV_lst, oMul_v, mulV_int, mulV_lst, oLen_v, lenV_str, lenV_lst, lenV_tup, lenV_scr, oSl_v, slV_str, slV_tup, slV_lst, oIn_v, inV_lst, inV_tup, inV_sign, diSeq_v, seqV_lst, seqV_tup, seqV_str, fixW_d, fixW_c, fixV_frz, fixV_lst, fixV_dct, fixAll_nil, fixAll_cons, t__law_step, Nat.add_assoc]
  refine draw_st0 S0 (by decide) (by decide) fun r B r0 r1 S1 => ?_
  simp [dSeq, dIfS, dAsg, dIf, dTest, dOp2, dOp1, dOpN, dVar, dC, dCons, dNil, dgName, dRet, dRetN, dDrop, dNext, dLst, dTup, startE, endsD, oI, oInt1, oInt2, oNeg, oIs, oDivmod, dAnd, dOr, dNot, dAndV, dOrV, dNotV, dgSub, dgTup, dgCons, dgNil, oSetL, dPar, dPar3, dFor, diRange1, diRange2, dLc, dCall, dBM, isT, dSl, dP, dNoP, oEq, dChain, oRepr, oIsi, oBools, retD_d, isTy, dDict0, dDict, dPairs, isFl, isFls, isPy, isPys, isPyKV, look_d, look_c, lookC_lst, lookC_dct, lookC_frz, itM_some, oIx_v, ixV_lst, ixV_tup, ixV_scr, ixV_str, oAdd_v, addV_int, addV_str, addV_tup, addV_lst, oMul_v, mulV_int, mulV_lst, oLen_v, lenV_str, lenV_lst, lenV_tup, lenV_scr, oSl_v, slV_str, slV_tup, slV_lst, oIn_v, inV_lst, inV_tup, inV_sign, diSeq_v, seqV_lst, seqV_tup, seqV_str, fixW_d, fixW_c, fixV_frz, fixV_lst, fixV_dct, fixAll_nil, fixAll_cons]
  split
  · exact ⟨by decide, S1.fin0 fun a b h1 h2 => hq _ a b g_next h1 h2⟩
  · split
    · refine name_st0 S1 fun x B2 hx S2 => ?_
      exact ⟨by decide, S2.fin0 fun a b h1 h2 => hq _ a b (g_say hx) h1 h2⟩
    · refine draw_st S1 (by decide) (by decide) fun q B2 q0 q1 S2 => ?_
      simp [dSeq, dIfS, dAsg, dIf, dTest, dOp2, dOp1, dOpN, dVar, dC, dCons, dNil, dgName, dRet, dRetN, dDrop, dNext, dLst, dTup, startE, endsD, oI, oInt1, oInt2, oNeg, oIs, oDivmod, dAnd, dOr, dNot, dAndV, dOrV, dNotV, dgSub, dgTup, dgCons, dgNil, oSetL, dPar, dPar3, dFor, diRange1, diRange2, dLc, dCall, dBM, isT, dSl, dP, dNoP, oEq, dChain, oRepr, oIsi, oBools, retD_d, isTy, dDict0, dDict, dPairs, isFl, isFls, isPy, isPys, isPyKV, look_d, look_c, lookC_lst, lookC_dct, lookC_frz, itM_some, oIx_v, ixV_lst, ixV_tup, ixV_scr, ixV_str, oAdd_v, addV_int, addV_str, addV_tup, addV_lst, oMul_v, mulV_int, mulV_lst, oLen_v, lenV_str, lenV_lst, lenV_tup, lenV_scr, oSl_v, slV_str, slV_tup, slV_lst, oIn_v, inV_lst, inV_tup, inV_sign, diSeq_v, seqV_lst, seqV_tup, seqV_str, fixW_d, fixW_c, fixV_frz, fixV_lst, fixV_dct, fixAll_nil, fixAll_cons]
      refine ⟨by omega, by omega, ?_⟩
      refine forD_inv (fun k env c => ∃ B3 ys w, St cs i B3 ∧ c = B3 ++ [Cell.lst ys] ∧ ys.length = k ∧ (∀ y ∈ ys, argOk n y) ∧ env = [some (.c i), some (.d (.int n)), some (.d (.int r)), some (.c B.length), w]) (fun _ _ _ _ => True.intro) _ 0 _ _
        ⟨B2, [], none, S2, rfl, rfl, by simp, rfl⟩ (fun j x hx env c hJ D' hrt hex hbk hnx hct => ?_) fun env c hJ => ?_
      · obtain ⟨B3, ys, w, S3, rfl, hl, ha, rfl⟩ := hJ
        have hj : j < 4 := by
          have := (List.getElem?_eq_some_iff.mp hx).1
          simp at this
          omega
        have sz : 12 ≤ sizeLine := by decide
        simp [dSeq, dIfS, dAsg, dIf, dTest, dOp2, dOp1, dOpN, dVar, dC, dCons, dNil, dgName, dRet, dRetN, dDrop, dNext, dLst, dTup, startE, endsD, oI, oInt1, oInt2, oNeg, oIs, oDivmod, dAnd, dOr, dNot, dAndV, dOrV, dNotV, dgSub, dgTup, dgCons, dgNil, oSetL, dPar, dPar3, dFor, diRange1, diRange2, dLc, dCall, dBM, isT, dSl, dP, dNoP, oEq, dChain, oRepr, oIsi, oBools, retD_d, isTy, dDict0, dDict, dPairs, isFl, isFls, isPy, isPys, isPyKV, look_d, look_c, lookC_lst, lookC_dct, lookC_frz, itM_some, oIx_v, ixV_lst, ixV_tup, ixV_scr, ixV_str, oAdd_v, addV_int, addV_str, addV_tup, addV_lst, oMul_v, mulV_int, mulV_lst, oLen_v, lenV_str, lenV_lst, lenV_tup, lenV_scr, oSl_v, slV_str, slV_tup, slV_lst, oIn_v, inV_lst, inV_tup, inV_sign, diSeq_v, seqV_lst, seqV_tup, seqV_str, fixW_d, fixW_c, fixV_frz, fixV_lst, fixV_dct, fixAll_nil, fixAll_cons, S1.len.trans S3.len.symm]
        refine draw_st S3 (by decide) (by decide) fun t B4 t0 t1 S4 => ?_
        simp [dSeq, dIfS, dAsg, dIf, dTest, dOp2, dOp1, dOpN, dVar, dC, dCons, dNil, dgName, dRet, dRetN, dDrop, dNext, dLst, dTup, startE, endsD, oI, oInt1, oInt2, oNeg, oIs, oDivmod, dAnd, dOr, dNot, dAndV, dOrV, dNotV, dgSub, dgTup, dgCons, dgNil, oSetL, dPar, dPar3, dFor, diRange1, diRange2, dLc, dCall, dBM, isT, dSl, dP, dNoP, oEq, dChain, oRepr, oIsi, oBools, retD_d, isTy, dDict0, dDict, dPairs, isFl, isFls, isPy, isPys, isPyKV, look_d, look_c, lookC_lst, lookC_dct, lookC_frz, itM_some, oIx_v, ixV_lst, ixV_tup, ixV_scr, ixV_str, oAdd_v, addV_int, addV_str, addV_tup, addV_lst, oMul_v, mulV_int, mulV_lst, oLen_v, lenV_str, lenV_lst, lenV_tup, lenV_scr, oSl_v, slV_str, slV_tup, slV_lst, oIn_v, inV_lst, inV_tup, inV_sign, diSeq_v, seqV_lst, seqV_tup, seqV_str, fixW_d, fixW_c, fixV_frz, fixV_lst, fixV_dct, fixAll_nil, fixAll_cons]
        split
        · refine name_st S4 fun z B5 hz S5 => ?_
          simp [dSeq, dIfS, dAsg, dIf, dTest, dOp2, dOp1, dOpN, dVar, dC, dCons, dNil, dgName, dRet, dRetN, dDrop, dNext, dLst, dTup, startE, endsD, oI, oInt1, oInt2, oNeg, oIs, oDivmod, dAnd, dOr, dNot, dAndV, dOrV, dNotV, dgSub, dgTup, dgCons, dgNil, oSetL, dPar, dPar3, dFor, diRange1, diRange2, dLc, dCall, dBM, isT, dSl, dP, dNoP, oEq, dChain, oRepr, oIsi, oBools, retD_d, isTy, dDict0, dDict, dPairs, isFl, isFls, isPy, isPys, isPyKV, look_d, look_c, lookC_lst, lookC_dct, lookC_frz, itM_some, oIx_v, ixV_lst, ixV_tup, ixV_scr, ixV_str, oAdd_v, addV_int, addV_str, addV_tup, addV_lst, oMul_v, mulV_int, mulV_lst, oLen_v, lenV_str, lenV_lst, lenV_tup, lenV_scr, oSl_v, slV_str, slV_tup, slV_lst, oIn_v, inV_lst, inV_tup, inV_sign, diSeq_v, seqV_lst, seqV_tup, seqV_str, fixW_d, fixW_c, fixV_frz, fixV_lst, fixV_dct, fixAll_nil, fixAll_cons, oAppend_v, lstV_lst, S3.len.trans S5.len.symm]
          refine ⟨by omega, hnx _ _ ⟨B5, ys ++ [.str z], _, S5, rfl, by simp; omega, fun y hy => ?_, by rw [S1.len, S5.len]⟩⟩
          rcases List.mem_append.mp hy with hy | hy
          · exact ha y hy
          · simp at hy; subst hy; exact .inl ⟨z, rfl, hz⟩
        · refine draw_st S4 (by omega) (by omega) fun u B5 u0 u1 S5 => ?_
          simp [dSeq, dIfS, dAsg, dIf, dTest, dOp2, dOp1, dOpN, dVar, dC, dCons, dNil, dgName, dRet, dRetN, dDrop, dNext, dLst, dTup, startE, endsD, oI, oInt1, oInt2, oNeg, oIs, oDivmod, dAnd, dOr, dNot, dAndV, dOrV, dNotV, dgSub, dgTup, dgCons, dgNil, oSetL, dPar, dPar3, dFor, diRange1, diRange2, dLc, dCall, dBM, isT, dSl, dP, dNoP, oEq, dChain, oRepr, oIsi, oBools, retD_d, isTy, dDict0, dDict, dPairs, isFl, isFls, isPy, isPys, isPyKV, look_d, look_c, lookC_lst, lookC_dct, lookC_frz, itM_some, oIx_v, ixV_lst, ixV_tup, ixV_scr, ixV_str, oAdd_v, addV_int, addV_str, addV_tup, addV_lst, oMul_v, mulV_int, mulV_lst, oLen_v, lenV_str, lenV_lst, lenV_tup, lenV_scr, oSl_v, slV_str, slV_tup, slV_lst, oIn_v, inV_lst, inV_tup, inV_sign, diSeq_v, seqV_lst, seqV_tup, seqV_str, fixW_d, fixW_c, fixV_frz, fixV_lst, fixV_dct, fixAll_nil, fixAll_cons, oAppend_v, lstV_lst, S3.len.trans S5.len.symm]
          refine ⟨by omega, hnx _ _ ⟨B5, ys ++ [.int u], _, S5, rfl, by simp; omega, fun y hy => ?_, by rw [S1.len, S5.len]⟩⟩
          rcases List.mem_append.mp hy with hy | hy
          · exact ha y hy
          · simp at hy; subst hy; exact .inr ⟨u, rfl, u0, u1⟩
      · obtain ⟨B3, ys, w, S3, rfl, hl, ha, rfl⟩ := hJ
        simp at hl
        simp [dSeq, dIfS, dAsg, dIf, dTest, dOp2, dOp1, dOpN, dVar, dC, dCons, dNil, dgName, dRet, dRetN, dDrop, dNext, dLst, dTup, startE, endsD, oI, oInt1, oInt2, oNeg, oIs, oDivmod, dAnd, dOr, dNot, dAndV, dOrV, dNotV, dgSub, dgTup, dgCons, dgNil, oSetL, dPar, dPar3, dFor, diRange1, diRange2, dLc, dCall, dBM, isT, dSl, dP, dNoP, oEq, dChain, oRepr, oIsi, oBools, retD_d, isTy, dDict0, dDict, dPairs, isFl, isFls, isPy, isPys, isPyKV, look_d, look_c, lookC_lst, lookC_dct, lookC_frz, itM_some, oIx_v, ixV_lst, ixV_tup, ixV_scr, ixV_str, oAdd_v, addV_int, addV_str, addV_tup, addV_lst, oMul_v, mulV_int, mulV_lst, oLen_v, lenV_str, lenV_lst, lenV_tup, lenV_scr, oSl_v, slV_str, slV_tup, slV_lst, oIn_v, inV_lst, inV_tup, inV_sign, diSeq_v, seqV_lst, seqV_tup, seqV_str, fixW_d, fixW_c, fixV_frz, fixV_lst, fixV_dct, fixAll_nil, fixAll_cons]
        refine name_st S3 fun z B5 hz S5 => ?_
        simp [dSeq, dIfS, dAsg, dIf, dTest, dOp2, dOp1, dOpN, dVar, dC, dCons, dNil, dgName, dRet, dRetN, dDrop, dNext, dLst, dTup, startE, endsD, oI, oInt1, oInt2, oNeg, oIs, oDivmod, dAnd, dOr, dNot, dAndV, dOrV, dNotV, dgSub, dgTup, dgCons, dgNil, oSetL, dPar, dPar3, dFor, diRange1, diRange2, dLc, dCall, dBM, isT, dSl, dP, dNoP, oEq, dChain, oRepr, oIsi, oBools, retD_d, isTy, dDict0, dDict, dPairs, isFl, isFls, isPy, isPys, isPyKV, look_d, look_c, lookC_lst, lookC_dct, lookC_frz, itM_some, oIx_v, ixV_lst, ixV_tup, ixV_scr, ixV_str, oAdd_v, addV_int, addV_str, addV_tup, addV_lst, oMul_v, mulV_int, mulV_lst, oLen_v, lenV_str, lenV_lst, lenV_tup, lenV_scr, oSl_v, slV_str, slV_tup, slV_lst, oIn_v, inV_lst, inV_tup, inV_sign, diSeq_v, seqV_lst, seqV_tup, seqV_str, fixW_d, fixW_c, fixV_frz, fixV_lst, fixV_dct, fixAll_nil, fixAll_cons, oTupleOf_v, toV_lst, S1.len.trans S5.len.symm]
        refine ⟨by decide, S5.fin fun a b h1 h2 => hq _ a b (g_call n1 hz ⟨by omega, by omega⟩ ha) h1 h2⟩
end K31
namespace K31
open PySem PySem.Spec L2 DL
theorem odd_st0 {cs B : Cs} {i : Nat} {n : Int} {Q : DQ} {E : DX} (S : St cs i B) (n0 : 1 ≤ n) (n1 : n ≤ 3) (h : ∀ x B', oddOk x → St cs i B' → Q (.d x) B') : sp__law_odd_argument [.c i, .d (.int n)] B Q E :=
  ⟨i, n, rfl, S.pot, n0, n1, fun x a b hx h1 h2 => h x _ hx (S.next h1 h2)⟩
theorem j7 : (reprText (Str.ofString "f")).length = 3 := by decide +kernel
theorem j8 : (reprText (Str.ofString "a")).length = 3 := by decide +kernel
theorem j9 : (Str.ofString (Int.repr 0)).length = 1 := by decide +kernel
def isDct : D → Bool
  | .dct _ => true
  | _ => false
def flTail (x : D) : Bool := match x with
  | .tup xs => xs.length == 2 || (xs.length == 3 || isFls xs)
  | _ => true
def flHead (x : D) : Bool := match x with
  | .tup (a :: _) => isFl a || isDct a
  | _ => true
theorem like_of {x : D} (h1 : okd 4 x = true) (h2 : flTail x = true) (h3 : flHead x = true) (h4 : (py x).showable = true) (h5 : (py x).shown.length ≤ 100000) : stepLike x := by
  refine ⟨⟨h1, fun xs e n2 n3 => ?_, fun a r e => ?_⟩, h4, Nat.le_trans h5 (by decide)⟩
  · subst e
    simp only [flTail, Bool.or_eq_true, beq_iff_eq] at h2
    rcases h2 with h2 | h2 | h2
    · exact absurd h2 n2
    · exact absurd h2 n3
    · exact .inl h2
  · subst e
    simp only [flHead, Bool.or_eq_true] at h3
    rcases h3 with h3 | h3
    · exact .inl h3
    · cases a <;> simp [isDct] at h3
      exact .inr ⟨_, rfl⟩
def oddL (o : D) : List D := [D.non, D.int 0, D.str (Str.ofString "next"), D.str (Str.ofString "say"), D.tup [], D.lst [], D.dct [], D.tup [D.str (Str.ofString "next"), D.str (Str.ofString "a")], D.lst [D.str (Str.ofString "next")], D.tup [D.str (Str.ofString "say")], D.tup [D.str (Str.ofString "say"), o], D.tup [D.str (Str.ofString "Say"), D.str (Str.ofString "a")], D.tup [D.str (Str.ofString "say"), D.str (Str.ofString "a"), D.str (Str.ofString "b")], D.tup [D.str (Str.ofString "call"), D.str (Str.ofString "f")], D.tup [D.str (Str.ofString "call"), D.str (Str.ofString "f"), D.tup []], D.tup [D.str (Str.ofString "call"), D.str (Str.ofString "f"), D.lst [D.int 0]], D.tup [D.str (Str.ofString "call"), o, D.tup [D.int 0]], D.tup [D.str (Str.ofString "call"), D.str (Str.ofString "f"), D.tup [o]], D.tup [D.str (Str.ofString "call"), D.str (Str.ofString "f"), D.tup [D.str (Str.ofString "a"), o]], D.tup [D.str (Str.ofString "call"), D.str (Str.ofString "f"), D.tup [D.int 0, D.str (Str.ofString "a"), D.int 0, D.str (Str.ofString "a")]], D.tup [D.str (Str.ofString "a"), D.str (Str.ofString "a")], D.tup [D.str (Str.ofString "call"), D.str (Str.ofString "f"), D.tup [D.int 0], D.tup []], D.tup [D.str (Str.ofString "call"), D.str (Str.ofString "f"), o], D.tup [o, D.str (Str.ofString "a")], D.tup [D.str (Str.ofString "next"), D.tup []], D.tup [D.str (Str.ofString "Next")], D.tup [D.str (Str.ofString "call")]]
theorem odd_like {o : D} (ho : oddOk o) : ∀ y ∈ oddL o, stepLike y := by
  obtain ⟨k2, sh, sl, fd⟩ := ho
  have k3 := okd_up k2
  have k4 := okd_up k3
  have fh : (isFl o || isDct o) = true := by
    rcases fd with h | ⟨kvs, rfl⟩
    · simp [h]
    · simp [isDct]
  have c0 : ∀ (k : Nat) (s : Str), s.length ≤ 1000 → okd k (.str s) = true := fun k s h => by
    have e : okd k (.str s) = decide (s.length ≤ 1000) := by cases k <;> rfl
    rw [e, decide_eq_true_eq]; exact h
  intro y hy
  unfold oddL at hy
  simp only [List.mem_cons, List.not_mem_nil, or_false] at hy
  rcases hy with rfl | rfl | rfl | rfl | rfl | rfl | rfl | rfl | rfl | rfl | rfl | rfl | rfl | rfl | rfl | rfl | rfl | rfl | rfl | rfl | rfl | rfl | rfl | rfl | rfl | rfl | rfl
  · exact like_of (by decide +kernel) (by decide +kernel) (by decide +kernel) (by decide +kernel) (by decide +kernel)
  · exact like_of (by decide +kernel) (by decide +kernel) (by decide +kernel) (by decide +kernel) (by decide +kernel)
  · exact like_of (by decide +kernel) (by decide +kernel) (by decide +kernel) (by decide +kernel) (by decide +kernel)
  · exact like_of (by decide +kernel) (by decide +kernel) (by decide +kernel) (by decide +kernel) (by decide +kernel)
  · exact like_of (by decide +kernel) (by decide +kernel) (by decide +kernel) (by decide +kernel) (by decide +kernel)
  · exact like_of (by decide +kernel) (by decide +kernel) (by decide +kernel) (by decide +kernel) (by decide +kernel)
  · exact like_of (by decide +kernel) (by decide +kernel) (by decide +kernel) (by decide +kernel) (by decide +kernel)
  · exact like_of (by decide +kernel) (by decide +kernel) (by decide +kernel) (by decide +kernel) (by decide +kernel)
  · exact like_of (by decide +kernel) (by decide +kernel) (by decide +kernel) (by decide +kernel) (by decide +kernel)
  · exact like_of (by decide +kernel) (by decide +kernel) (by decide +kernel) (by decide +kernel) (by decide +kernel)
  · refine like_of ?_ (by simp [flTail]) (by simp [flHead, isFl, fh]) ?_ ?_
    · simp [okd, okds, k2, k3, k4, c0, show ∀ (a : String), (Str.ofString a).length = a.length from fun a => ofString_length a] <;> decide
    · simp [py, pys, PyData.showable, PyData.showableAll, sh]
    · simp [py, pys, PyData.shown, PyData.shownAll, tupleText, Str.join, strLen_append, j1, j2, j3, j4, j5, j6, j7, j8, j9]
      omega
  · exact like_of (by decide +kernel) (by decide +kernel) (by decide +kernel) (by decide +kernel) (by decide +kernel)
  · exact like_of (by decide +kernel) (by decide +kernel) (by decide +kernel) (by decide +kernel) (by decide +kernel)
  · exact like_of (by decide +kernel) (by decide +kernel) (by decide +kernel) (by decide +kernel) (by decide +kernel)
  · exact like_of (by decide +kernel) (by decide +kernel) (by decide +kernel) (by decide +kernel) (by decide +kernel)
  · exact like_of (by decide +kernel) (by decide +kernel) (by decide +kernel) (by decide +kernel) (by decide +kernel)
  · refine like_of ?_ (by simp [flTail]) (by simp [flHead, isFl, fh]) ?_ ?_
    · simp [okd, okds, k2, k3, k4, c0, show ∀ (a : String), (Str.ofString a).length = a.length from fun a => ofString_length a] <;> decide
    · simp [py, pys, PyData.showable, PyData.showableAll, sh]
    · simp [py, pys, PyData.shown, PyData.shownAll, tupleText, Str.join, strLen_append, j1, j2, j3, j4, j5, j6, j7, j8, j9]
      omega
  · refine like_of ?_ (by simp [flTail]) (by simp [flHead, isFl, fh]) ?_ ?_
    · simp [okd, okds, k2, k3, k4, c0, show ∀ (a : String), (Str.ofString a).length = a.length from fun a => ofString_length a] <;> decide
    · simp [py, pys, PyData.showable, PyData.showableAll, sh]
    · simp [py, pys, PyData.shown, PyData.shownAll, tupleText, Str.join, strLen_append, j1, j2, j3, j4, j5, j6, j7, j8, j9]
      omega
  · refine like_of ?_ (by simp [flTail]) (by simp [flHead, isFl, fh]) ?_ ?_
    · simp [okd, okds, k2, k3, k4, c0, show ∀ (a : String), (Str.ofString a).length = a.length from fun a => ofString_length a] <;> decide
    · simp [py, pys, PyData.showable, PyData.showableAll, sh]
    · simp [py, pys, PyData.shown, PyData.shownAll, tupleText, Str.join, strLen_append, j1, j2, j3, j4, j5, j6, j7, j8, j9]
      omega
  · exact like_of (by decide +kernel) (by decide +kernel) (by decide +kernel) (by decide +kernel) (by decide +kernel)
  · exact like_of (by decide +kernel) (by decide +kernel) (by decide +kernel) (by decide +kernel) (by decide +kernel)
  · exact like_of (by decide +kernel) (by decide +kernel) (by decide +kernel) (by decide +kernel) (by decide +kernel)
  · refine like_of ?_ (by simp [flTail]) (by simp [flHead, isFl, fh]) ?_ ?_
    · simp [okd, okds, k2, k3, k4, c0, show ∀ (a : String), (Str.ofString a).length = a.length from fun a => ofString_length a] <;> decide
    · simp [py, pys, PyData.showable, PyData.showableAll, sh]
    · simp [py, pys, PyData.shown, PyData.shownAll, tupleText, Str.join, strLen_append, j1, j2, j3, j4, j5, j6, j7, j8, j9]
      omega
  · refine like_of ?_ (by simp [flTail]) (by simp [flHead, isFl, fh]) ?_ ?_
    · simp [okd, okds, k2, k3, k4, c0, show ∀ (a : String), (Str.ofString a).length = a.length from fun a => ofString_length a] <;> decide
    · simp [py, pys, PyData.showable, PyData.showableAll, sh]
    · simp [py, pys, PyData.shown, PyData.shownAll, tupleText, Str.join, strLen_append, j1, j2, j3, j4, j5, j6, j7, j8, j9]
      omega
  · exact like_of (by decide +kernel) (by decide +kernel) (by decide +kernel) (by decide +kernel) (by decide +kernel)
  · exact like_of (by decide +kernel) (by decide +kernel) (by decide +kernel) (by decide +kernel) (by decide +kernel)
  · exact like_of (by decide +kernel) (by decide +kernel) (by decide +kernel) (by decide +kernel) (by decide +kernel)
def flT (x : D) : Bool := match x with
  | .tup [x] => isFl x || isDct x
  | x => flTail x
def stepB (z : D) : Bool := okd 4 z && (flT z && flHead z)
def bodyB (y : D) : Bool := match y with
  | .tup xs => decide (xs.length ≤ 100) && xs.all stepB
  | _ => true
theorem okStep_of {x : D} (h : stepB x = true) : okStep x := by
  simp only [stepB, Bool.and_eq_true] at h
  obtain ⟨h1, h2, h3⟩ := h
  refine ⟨h1, fun xs e n2 n3 => ?_, fun a r e => ?_⟩
  · subst e
    rcases xs with _ | ⟨a, _ | ⟨b, r⟩⟩
    · exact .inl rfl
    · simp only [flT, Bool.or_eq_true] at h2
      rcases h2 with h2 | h2
      · exact .inl (by simp [isFls, h2])
      · cases a <;> simp [isDct] at h2
        exact .inr ⟨_, rfl⟩
    · simp only [flT, flTail, Bool.or_eq_true, beq_iff_eq] at h2
      rcases h2 with h2 | h2 | h2
      · exact absurd h2 n2
      · exact absurd h2 n3
      · exact .inl h2
  · subst e
    simp only [flHead, Bool.or_eq_true] at h3
    rcases h3 with h3 | h3
    · exact .inl h3
    · cases a <;> simp [isDct] at h3
      exact .inr ⟨_, rfl⟩
theorem bodyLike_of {y : D} (h : bodyB y = true) : bodyLike y := fun xs e => by
  subst e
  simp only [bodyB, Bool.and_eq_true, decide_eq_true_eq, List.all_eq_true] at h
  exact ⟨h.1, fun z hz => okStep_of (h.2 z hz)⟩
theorem odd_body {o : D} (ho : oddOk o) : ∀ y ∈ oddL o, bodyLike y := by
  obtain ⟨k2, sh, sl, fd⟩ := ho
  have k3 := okd_up k2
  have k4 := okd_up k3
  have fh : (isFl o || isDct o) = true := by
    rcases fd with h | ⟨kvs, rfl⟩
    · simp [h]
    · simp [isDct]
  have so : stepB o = true := by
    rcases fd with h | ⟨kvs, rfl⟩
    · simp only [stepB, k4, Bool.true_and]
      cases o with
      | tup xs =>
        simp only [isFl] at h
        rcases xs with _ | ⟨a, _ | ⟨b, r⟩⟩
        · rfl
        · simp [isFls] at h
          simp [flT, flHead, h]
        · simp [isFls] at h
          simp [flT, flTail, flHead, isFls, h]
      | _ => rfl
    · simp [stepB, k4, flT, flTail, flHead]
  have s1 : stepB (.tup [o]) = true := by
    simp [stepB, flT, flHead, fh, okd, okds, k3]
  have s2 : stepB (.tup [.str (Str.ofString "a"), o]) = true := by
    simp [stepB, flT, flTail, flHead, fh, okd, okds, k3, isFl]
    decide +kernel
  have c1 : stepB (.str (Str.ofString "say")) = true := by decide +kernel
  have c2 : stepB (.str (Str.ofString "call")) = true := by decide +kernel
  have c3 : stepB (.str (Str.ofString "f")) = true := by decide +kernel
  have c4 : stepB (.str (Str.ofString "a")) = true := by decide +kernel
  have c5 : stepB (.tup [.int 0]) = true := by decide +kernel
  intro y hy
  refine bodyLike_of ?_
  unfold oddL at hy
  simp only [List.mem_cons, List.not_mem_nil, or_false] at hy
  rcases hy with rfl | rfl | rfl | rfl | rfl | rfl | rfl | rfl | rfl | rfl | rfl | rfl | rfl | rfl | rfl | rfl | rfl | rfl | rfl | rfl | rfl | rfl | rfl | rfl | rfl | rfl | rfl
  all_goals first
    | (clear c1 c2 c3 c4 c5 s1 s2 so fh k2 k3 k4 fd sl sh; decide +kernel)
    | (simp only [bodyB, List.all_cons, List.all_nil, so, s1, s2, c1, c2, c3, c4, c5, Bool.and_true, List.length_cons, List.length_nil]; simp)
theorem p__law_odd_step : ∀ ws cs Q E, closed cs → sp__law_odd_step ws cs Q E → t__law_odd_step (endsD cs.length Q E) (startE N__law_odd_step ws) cs := by
  rintro ws cs Q E hc ⟨i, n, rfl, hp, n0, n1, hq⟩
  have S0 := St.init hc hp
  simp [dSeq, dIfS, dAsg, dIf, dTest, dOp2, dOp1, dOpN, dVar, dC, dCons, dNil, dgName, dRet, dRetN, dDrop, dNext, dLst, dTup, startE, endsD, oI, oInt1, oInt2, oNeg, oIs, oDivmod, dAnd, dOr, dNot, dAndV, dOrV, dNotV, dgSub, dgTup, dgCons, dgNil, oSetL, dPar, dPar3, dFor, diRange1, diRange2, dLc, dCall, dBM, isT, dSl, dP, dNoP, oEq, dChain, oRepr, oIsi, oBools, retD_d, isTy, dDict0, dDict, dPairs, isFl, isFls, isPy, isPys, isPyKV, look_d, look_c, lookC_lst, lookC_dct, lookC_frz, itM_some, oIx_v, ixV_lst, ixV_tup, ixV_scr, ixV_str, oAdd_v, addV_int, addV_str, addV_tup, addV_lst, oMul_v, mulV_int, mulV_lst, oLen_v, lenV_str, lenV_lst, lenV_tup, lenV_scr, oSl_v, slV_str, slV_tup, slV_lst, oIn_v, inV_lst, inV_tup, inV_sign, diSeq_v, seqV_lst, seqV_tup, seqV_str, fixW_d, fixW_c, fixV_frz, fixV_lst, fixV_dct, fixAll_nil, fixAll_cons, t__law_odd_step, Nat.add_assoc]
  refine odd_st0 S0 n0 n1 fun o B ho S1 => ?_
  simp [dSeq, dIfS, dAsg, dIf, dTest, dOp2, dOp1, dOpN, dVar, dC, dCons, dNil, dgName, dRet, dRetN, dDrop, dNext, dLst, dTup, startE, endsD, oI, oInt1, oInt2, oNeg, oIs, oDivmod, dAnd, dOr, dNot, dAndV, dOrV, dNotV, dgSub, dgTup, dgCons, dgNil, oSetL, dPar, dPar3, dFor, diRange1, diRange2, dLc, dCall, dBM, isT, dSl, dP, dNoP, oEq, dChain, oRepr, oIsi, oBools, retD_d, isTy, dDict0, dDict, dPairs, isFl, isFls, isPy, isPys, isPyKV, look_d, look_c, lookC_lst, lookC_dct, lookC_frz, itM_some, oIx_v, ixV_lst, ixV_tup, ixV_scr, ixV_str, oAdd_v, addV_int, addV_str, addV_tup, addV_lst, oMul_v, mulV_int, mulV_lst, oLen_v, lenV_str, lenV_lst, lenV_tup, lenV_scr, oSl_v, slV_str, slV_tup, slV_lst, oIn_v, inV_lst, inV_tup, inV_sign, diSeq_v, seqV_lst, seqV_tup, seqV_str, fixW_d, fixW_c, fixV_frz, fixV_lst, fixV_dct, fixAll_nil, fixAll_cons, Nat.add_assoc]
  repeat (refine ⟨by decide, ?_⟩)
  refine draw_st S1 (by decide) (by decide) fun m B2 m0 m1 S2 => ?_
  obtain ⟨y, ey, hy⟩ := mem_at (xs := oddL o) m0 m1 (by simp [oddL])
  have hb := odd_body ho y hy
  have hy := odd_like ho y hy
  unfold oddL at ey
  simp [dSeq, dIfS, dAsg, dIf, dTest, dOp2, dOp1, dOpN, dVar, dC, dCons, dNil, dgName, dRet, dRetN, dDrop, dNext, dLst, dTup, startE, endsD, oI, oInt1, oInt2, oNeg, oIs, oDivmod, dAnd, dOr, dNot, dAndV, dOrV, dNotV, dgSub, dgTup, dgCons, dgNil, oSetL, dPar, dPar3, dFor, diRange1, diRange2, dLc, dCall, dBM, isT, dSl, dP, dNoP, oEq, dChain, oRepr, oIsi, oBools, retD_d, isTy, dDict0, dDict, dPairs, isFl, isFls, isPy, isPys, isPyKV, look_d, look_c, lookC_lst, lookC_dct, lookC_frz, itM_some, oIx_v, ixV_lst, ixV_tup, ixV_scr, ixV_str, oAdd_v, addV_int, addV_str, addV_tup, addV_lst, oMul_v, mulV_int, mulV_lst, oLen_v, lenV_str, lenV_lst, lenV_tup, lenV_scr, oSl_v, slV_str, slV_tup, slV_lst, oIn_v, inV_lst, inV_tup, inV_sign, diSeq_v, seqV_lst, seqV_tup, seqV_str, fixW_d, fixW_c, fixV_frz, fixV_lst, fixV_dct, fixAll_nil, fixAll_cons, S1.len.trans S2.len.symm, ey]
  exact S2.fin fun a b h1 h2 => hq y a b hy hb h1 h2
end K31
namespace K31
open PySem PySem.Spec L2 DL
theorem st_other {cs B : Cs} {i j : Nat} {x : Cell} (S : St cs i B) (h : cs[j]? = some x) (hij : i ≠ j) : B[j]? = some x := by
  obtain ⟨a, b, _, _, rfl⟩ := S.ex
  rw [List.getElem?_set_ne hij]
  exact h
/-- a list of steps and of what is like one -/
def okList (ys : List D) : Prop := ys.length ≤ 12 ∧ ∀ y ∈ ys, stepLike y
theorem likes : ∀ {ys : List D}, (∀ y ∈ ys, stepLike y) → okds 4 ys = true ∧ PyData.showableAll (pys ys) = true ∧ ∀ z ∈ PyData.shownAll (pys ys), z.length ≤ 400000
  | [], _ => ⟨rfl, by simp [pys, PyData.showableAll], by simp [pys, PyData.shownAll]⟩
  | y :: ys, h => by
    obtain ⟨⟨a1, _, _⟩, a2, a3⟩ := h y List.mem_cons_self
    obtain ⟨b1, b2, b3⟩ := likes fun z hz => h z (List.mem_cons_of_mem _ hz)
    refine ⟨by simp [okds, a1, b1], by simp [pys, PyData.showableAll, a2, b2], fun z hz => ?_⟩
    simp only [pys, PyData.shownAll, List.mem_cons] at hz
    rcases hz with rfl | hz
    · exact a3
    · exact b3 z hz
theorem shownAll_len : ∀ xs : List D, (PyData.shownAll (pys xs)).length = xs.length
  | [] => by simp [pys, PyData.shownAll]
  | x :: xs => by simp [pys, PyData.shownAll, shownAll_len xs]
theorem join_le {M : Nat} : ∀ ts : List Str, (∀ t ∈ ts, t.length ≤ M) → (Str.join ", " ts).length ≤ ts.length * (M + 2)
  | [], _ => by simp [Str.join]; rfl
  | [x], h => by
    have := h x List.mem_cons_self
    simp [Str.join]; omega
  | x :: y :: r, h => by
    have h1 := h x List.mem_cons_self
    have ih := join_le (y :: r) fun t ht => h t (List.mem_cons_of_mem _ ht)
    show (x ++ Str.ofString ", " ++ Str.join ", " (y :: r)).length ≤ _
    rw [strLen_append, strLen_append, j4]
    have e : (x :: y :: r).length * (M + 2) = (y :: r).length * (M + 2) + (M + 2) := by
      rw [List.length_cons, Nat.succ_mul]
    omega
theorem from_le {M : Nat} : ∀ (ts : List Str) (k : Nat) (acc : Str), (∀ t ∈ ts, t.length ≤ M) → (textFrom k acc ts).length ≤ acc.length + ts.length * (M + 2)
  | [], k, acc, _ => by simp [textFrom]
  | t :: r, k, acc, h => by
    have h1 := h t List.mem_cons_self
    have ih := from_le r (k + 1) (acc ++ (if k > 0 then ", " else "" : String) ++ t) fun t ht => h t (List.mem_cons_of_mem _ ht)
    show (textFrom (k + 1) (acc ++ (if k > 0 then ", " else "" : String) ++ t) r).length ≤ _
    have e : (Str.ofString (if k > 0 then ", " else "")).length ≤ 2 := by
      split <;> decide +kernel
    rw [strLen_append, strLen_append] at ih
    have e2 : (t :: r).length * (M + 2) = r.length * (M + 2) + (M + 2) := by rw [List.length_cons, Nat.succ_mul]
    omega
theorem body_tup {ys : List D} (h : okList ys) : okBody (.tup ys) := by
  obtain ⟨h1, h2⟩ := h
  obtain ⟨a, b, c⟩ := likes h2
  refine ⟨a, fun xs e => by cases e; exact ⟨by omega, fun y hy => (h2 y hy).1⟩, by simpa [py, PyData.showable] using b, ?_⟩
  have e : (py (.tup ys)).shown = tupleText (PyData.shownAll (pys ys)) := by simp only [py, PyData.shown]
  have l := join_le (M := 400000) _ c
  rw [shownAll_len] at l
  have l2 : ys.length * (400000 + 2) ≤ 12 * (400000 + 2) := Nat.mul_le_mul_right _ h1
  rw [e]
  unfold tupleText
  rw [strLen_append, strLen_append]
  have e3 : (Str.ofString (if (PyData.shownAll (pys ys)).length == 1 then ",)" else ")")).length ≤ 2 := by
    split <;> decide +kernel
  have sz : sizeLine = 16777216 := by first | rfl | exact sizeLine_eq
  rw [j1, sz]
  omega
theorem body_lst {ys : List D} (h : okList ys) : okBody (.lst ys) := by
  obtain ⟨h1, h2⟩ := h
  obtain ⟨a, b, c⟩ := likes h2
  refine ⟨a, nofun, by simpa [py, PyData.showable] using b, ?_⟩
  have e : (py (.lst ys)).shown = listText (PyData.shownAll (pys ys)) := by simp only [py, PyData.shown]
  have l := from_le (M := 400000) _ 0 (Str.ofString "[") c
  rw [shownAll_len] at l
  have l2 : ys.length * (400000 + 2) ≤ 12 * (400000 + 2) := Nat.mul_le_mul_right _ h1
  rw [e]
  unfold listText
  have k1 : (Str.ofString "[").length = 1 := by decide +kernel
  have k2 : (Str.ofString "]").length = 1 := by decide +kernel
  have sz : sizeLine = 16777216 := by first | rfl | exact sizeLine_eq
  rw [strLen_append, k2, sz]
  rw [k1] at l
  omega
end K31
namespace K31
open PySem PySem.Spec L2 DL
section
variable {cs c : Cs} {i j : Nat} {n w k : Int} {xs ys : List D} {Q : DQ} {E : DX}
/-- the list that is found stands behind the cells -/
def IV (cs : Cs) (i : Nat) (ys : List D) (c : Cs) : Prop := ∃ B g, St cs i B ∧ c = B ++ .lst ys :: g
/-- what is wanted at the end -/
structure Want (cs : Cs) (i : Nat) (Q : DQ) : Prop where
  t : ∀ x a b, okBody x → 0 ≤ b → b < 2147483648 → Q (.d x) (cs.set i (pot a b))
  l : ∀ ys a b, okBody (.lst ys) → 0 ≤ b → b < 2147483648 → Q (.c cs.length) (cs.set i (pot a b) ++ [.lst ys])
abbrev ev6 (cs : Cs) (i j : Nat) (n w k : Int) : Nv := [some (.c i), some (.c j), some (.d (.int n)), some (.c cs.length), some (.d (.int w)), some (.d (.int k))]
theorem t7 (h : IV cs i ys c) (hy : okList ys) (hq : Want cs i Q) : t__law_changed_7 (endsD cs.length Q E) (ev6 cs i j n w k) c := by
  obtain ⟨B, g, S, rfl⟩ := h
  simp [dSeq, dIfS, dAsg, dIf, dTest, dOp2, dOp1, dOpN, dVar, dC, dCons, dNil, dgName, dRet, dRetN, dDrop, dNext, dLst, dTup, startE, endsD, oI, oInt1, oInt2, oNeg, oIs, oDivmod, dAnd, dOr, dNot, dAndV, dOrV, dNotV, dgSub, dgTup, dgCons, dgNil, oSetL, dPar, dPar3, dFor, diRange1, diRange2, dLc, dCall, dBM, isT, dSl, dP, dNoP, oEq, dChain, oRepr, oIsi, oBools, retD_d, isTy, dDict0, dDict, dPairs, isFl, isFls, isPy, isPys, isPyKV, look_d, look_c, lookC_lst, lookC_dct, lookC_frz, itM_some, oIx_v, ixV_lst, ixV_tup, ixV_scr, ixV_str, oAdd_v, addV_int, addV_str, addV_tup, addV_lst, oMul_v, mulV_int, mulV_lst, oLen_v, lenV_str, lenV_lst, lenV_tup, lenV_scr, oSl_v, slV_str, slV_tup, slV_lst, oIn_v, inV_lst, inV_tup, inV_sign, diSeq_v, seqV_lst, seqV_tup, seqV_str, fixW_d, fixW_c, fixV_frz, fixV_lst, fixV_dct, fixAll_nil, fixAll_cons, t__law_changed_7, oTupleOf_v, toV_lst, S.len.symm]
  rw [S.len]
  exact S.fin fun a b h1 h2 => hq.t _ a b (body_tup hy) h1 h2
theorem t6 (h : IV cs i ys c) (hy : okList ys) (hq : Want cs i Q) : t__law_changed_6 (endsD cs.length Q E) (ev6 cs i j n w k) c := by
  have h7 := t7 (j := j) (n := n) (w := w) (k := k) (E := E) h hy hq
  obtain ⟨B, g, S, rfl⟩ := h
  simp [dSeq, dIfS, dAsg, dIf, dTest, dOp2, dOp1, dOpN, dVar, dC, dCons, dNil, dgName, dRet, dRetN, dDrop, dNext, dLst, dTup, startE, endsD, oI, oInt1, oInt2, oNeg, oIs, oDivmod, dAnd, dOr, dNot, dAndV, dOrV, dNotV, dgSub, dgTup, dgCons, dgNil, oSetL, dPar, dPar3, dFor, diRange1, diRange2, dLc, dCall, dBM, isT, dSl, dP, dNoP, oEq, dChain, oRepr, oIsi, oBools, retD_d, isTy, dDict0, dDict, dPairs, isFl, isFls, isPy, isPys, isPyKV, look_d, look_c, lookC_lst, lookC_dct, lookC_frz, itM_some, oIx_v, ixV_lst, ixV_tup, ixV_scr, ixV_str, oAdd_v, addV_int, addV_str, addV_tup, addV_lst, oMul_v, mulV_int, mulV_lst, oLen_v, lenV_str, lenV_lst, lenV_tup, lenV_scr, oSl_v, slV_str, slV_tup, slV_lst, oIn_v, inV_lst, inV_tup, inV_sign, diSeq_v, seqV_lst, seqV_tup, seqV_str, fixW_d, fixW_c, fixV_frz, fixV_lst, fixV_dct, fixAll_nil, fixAll_cons, t__law_changed_6]
  split
  · unfold retD
    simp only [Nat.lt_irrefl, if_false]
    have e : (B ++ Cell.lst ys :: g)[cs.length]? = some (.lst ys) := by rw [← S.len]; simp
    rw [e]
    exact S.fin (P := fun d => Q (.c cs.length) (d ++ [.lst ys])) fun a b h1 h2 => hq.l ys a b (body_lst hy) h1 h2
  · exact h7
theorem good_fl (hg : ∀ x ∈ xs, goodStep n x) : isFls xs = true := by
  induction xs with
  | nil => rfl
  | cons a r ih =>
    simp only [isFls, Bool.and_eq_true]
    exact ⟨(hg a List.mem_cons_self).2.2.1, ih fun x hx => hg x (List.mem_cons_of_mem _ hx)⟩
theorem t5 (h : IV cs i ys c) (hy : okList ys) (hq : Want cs i Q) (hij : i ≠ j) (hj : cs[j]? = some (.lst xs)) (hl : xs.length ≤ 10) (hg : ∀ x ∈ xs, goodStep n x) (hk : 0 ≤ k ∧ k ≤ xs.length) (hw : w = 4 → ys = xs) :
    t__law_changed_5 (endsD cs.length Q E) (ev6 cs i j n w k) c := by
  have h6 := fun ys c h hy => t6 (cs := cs) (c := c) (i := i) (j := j) (n := n) (w := w) (k := k) (ys := ys) (Q := Q) (E := E) h hy hq
  obtain ⟨B, g, S, rfl⟩ := h
  have hjc : ∀ g, (B ++ g)[j]? = some (.lst xs) := fun g => get_app (st_other S hj hij)
  simp [dSeq, dIfS, dAsg, dIf, dTest, dOp2, dOp1, dOpN, dVar, dC, dCons, dNil, dgName, dRet, dRetN, dDrop, dNext, dLst, dTup, startE, endsD, oI, oInt1, oInt2, oNeg, oIs, oDivmod, dAnd, dOr, dNot, dAndV, dOrV, dNotV, dgSub, dgTup, dgCons, dgNil, oSetL, dPar, dPar3, dFor, diRange1, diRange2, dLc, dCall, dBM, isT, dSl, dP, dNoP, oEq, dChain, oRepr, oIsi, oBools, retD_d, isTy, dDict0, dDict, dPairs, isFl, isFls, isPy, isPys, isPyKV, look_d, look_c, lookC_lst, lookC_dct, lookC_frz, itM_some, oIx_v, ixV_lst, ixV_tup, ixV_scr, ixV_str, oAdd_v, addV_int, addV_str, addV_tup, addV_lst, oMul_v, mulV_int, mulV_lst, oLen_v, lenV_str, lenV_lst, lenV_tup, lenV_scr, oSl_v, slV_str, slV_tup, slV_lst, oIn_v, inV_lst, inV_tup, inV_sign, diSeq_v, seqV_lst, seqV_tup, seqV_str, fixW_d, fixW_c, fixV_frz, fixV_lst, fixV_dct, fixAll_nil, fixAll_cons, t__law_changed_5, hjc, good_fl hg]
  have dn : (py (D.lst [])).depth = 1 := by simp [py, pys, PyData.depth, PyData.depthAll]
  split
  · rename_i h4
    have e := hw h4
    subst e
    refine ⟨by omega, ?_⟩
    rw [eqv_nil]
    split
    · exact h6 _ _ ⟨B, g ++ [.lst []], S, rfl⟩ hy
    · rename_i hne
      have hpos : 0 < ys.length := by
        cases ys with
        | nil => simp at hne
        | cons a r => simp
      have get : ∀ (zs : List D) (g : Cs), (B ++ Cell.lst zs :: g)[cs.length]? = some (.lst zs) := fun zs g => by rw [← S.len]; simp
      have put : ∀ (zs us : List D) (g : Cs), (B ++ Cell.lst zs :: g).set cs.length (.lst us) = B ++ Cell.lst us :: g := fun zs us g => by rw [← S.len]; simp
      rw [get]
      refine ⟨⟨rfl, rfl⟩, ?_⟩
      obtain ⟨y, ey, hy'⟩ := mem_at (xs := ys) (k := if (ys.length : Int) - 1 < k then (ys.length : Int) - 1 else k) (n := ys.length) (by split <;> omega) (by split <;> omega) rfl
      refine ⟨y, ey, ?_⟩
      dsimp only
      rw [oInsert_v, fixW_d, get, lstV_lst]
      have sz : 12 ≤ sizeLine := by decide
      refine ⟨by omega, hk.1, by omega, ?_⟩
      rw [put]
      refine h6 _ _ ⟨B, g ++ [.lst []], S, rfl⟩ ⟨?_, fun z hz => ?_⟩
      · simp only [List.length_append, List.length_take, List.length_drop, List.length_cons, List.length_nil]
        omega
      · simp only [List.mem_append, List.mem_singleton] at hz
        rcases hz with (hz | rfl) | hz
        · exact hy.2 z (List.mem_of_mem_take hz)
        · exact hy.2 z hy'
        · exact hy.2 z (List.mem_of_mem_drop hz)
  · exact h6 _ _ ⟨B, g, S, rfl⟩ hy
/-- the list after an insertion -/
theorem ins_ok {y : D} (hy : okList ys) (hl : ys.length ≤ 10) (h : stepLike y) (m : Nat) : okList (ys.take m ++ [y] ++ ys.drop m) := by
  refine ⟨?_, fun z hz => ?_⟩
  · simp only [List.length_append, List.length_take, List.length_drop, List.length_cons, List.length_nil]
    omega
  · simp only [List.mem_append, List.mem_singleton] at hz
    rcases hz with (hz | rfl) | hz
    · exact hy.2 z (List.mem_of_mem_take hz)
    · exact h
    · exact hy.2 z (List.mem_of_mem_drop hz)
theorem set_ok {y : D} (hy : okList ys) (h : stepLike y) (m : Nat) : okList (ys.set m y) := by
  refine ⟨by rw [List.length_set]; exact hy.1, fun z hz => ?_⟩
  rcases List.mem_or_eq_of_mem_set hz with hz | rfl
  · exact hy.2 z hz
  · exact h
theorem like_next : stepLike (.tup [.str (Str.ofString "next")]) := like_of (by decide +kernel) (by decide +kernel) (by decide +kernel) (by decide +kernel) (by decide +kernel)
/-- t2, over what follows it -/
theorem t2' (h : IV cs i ys c) (hy : okList ys) (hk : 0 ≤ k ∧ k ≤ 10) (hl : w = 1 → ys.length ≤ 10)
    (h3 : ∀ zs d, IV cs i zs d → okList zs → (w ≠ 1 → zs = ys) → t__law_changed_3 (endsD cs.length Q E) (ev6 cs i j n w k) d) : t__law_changed_2 (endsD cs.length Q E) (ev6 cs i j n w k) c := by
  obtain ⟨B, g, S, rfl⟩ := h
  have get : ∀ (zs : List D) (g : Cs), (B ++ Cell.lst zs :: g)[cs.length]? = some (.lst zs) := fun zs g => by rw [← S.len]; simp
  have put : ∀ (zs us : List D) (g : Cs), (B ++ Cell.lst zs :: g).set cs.length (.lst us) = B ++ Cell.lst us :: g := fun zs us g => by rw [← S.len]; simp
  have sz : 12 ≤ sizeLine := by decide
  simp [dSeq, dIfS, dAsg, dIf, dTest, dOp2, dOp1, dOpN, dVar, dC, dCons, dNil, dgName, dRet, dRetN, dDrop, dNext, dLst, dTup, startE, endsD, oI, oInt1, oInt2, oNeg, oIs, oDivmod, dAnd, dOr, dNot, dAndV, dOrV, dNotV, dgSub, dgTup, dgCons, dgNil, oSetL, dPar, dPar3, dFor, diRange1, diRange2, dLc, dCall, dBM, isT, dSl, dP, dNoP, oEq, dChain, oRepr, oIsi, oBools, retD_d, isTy, dDict0, dDict, dPairs, isFl, isFls, isPy, isPys, isPyKV, look_d, look_c, lookC_lst, lookC_dct, lookC_frz, itM_some, oIx_v, ixV_lst, ixV_tup, ixV_scr, ixV_str, oAdd_v, addV_int, addV_str, addV_tup, addV_lst, oMul_v, mulV_int, mulV_lst, oLen_v, lenV_str, lenV_lst, lenV_tup, lenV_scr, oSl_v, slV_str, slV_tup, slV_lst, oIn_v, inV_lst, inV_tup, inV_sign, diSeq_v, seqV_lst, seqV_tup, seqV_str, fixW_d, fixW_c, fixV_frz, fixV_lst, fixV_dct, fixAll_nil, fixAll_cons, t__law_changed_2, get, put, oInsert_v, lstV_lst]
  split
  · rename_i h1
    have hl := hl h1
    refine ⟨by decide, by omega, hk.1, by omega, ?_⟩
    have := ins_ok hy hl like_next k.toNat
    simp at this
    exact h3 _ _ ⟨B, g, S, rfl⟩ this fun e => absurd h1 e
  · exact h3 _ _ ⟨B, g, S, rfl⟩ hy fun _ => rfl
theorem oddstep_st {B g : Cs} {Q : DQ} {E : DX} (S : St cs i B) (n0 : 1 ≤ n) (n1 : n ≤ 3) (h : ∀ x B', stepLike x → St cs i B' → Q (.d x) (B' ++ g)) : sp__law_odd_step [.c i, .d (.int n)] (B ++ g) Q E :=
  ⟨i, n, rfl, pot_app S.pot, n0, n1, fun x a b hx _ h1 h2 => by
    rw [pot_set S.pot]
    exact h x _ hx (S.next h1 h2)⟩
theorem t1 (h : IV cs i ys c) (hy : okList ys) (hl : ys.length ≤ 10) (hk : 0 ≤ k ∧ k ≤ 10) (n0 : 1 ≤ n) (n1 : n ≤ 3)
    (h2 : ∀ zs d, IV cs i zs d → okList zs → (w ≠ 0 → zs = ys) → (w = 0 → zs.length ≤ 11) → t__law_changed_2 (endsD cs.length Q E) (ev6 cs i j n w k) d) : t__law_changed_1 (endsD cs.length Q E) (ev6 cs i j n w k) c := by
  obtain ⟨B, g, S, rfl⟩ := h
  have get : ∀ (B : Cs) (zs : List D) (g : Cs), St cs i B → (B ++ Cell.lst zs :: g)[cs.length]? = some (.lst zs) := fun B zs g S => by rw [← S.len]; simp
  have put : ∀ (B : Cs) (zs us : List D) (g : Cs), St cs i B → (B ++ Cell.lst zs :: g).set cs.length (.lst us) = B ++ Cell.lst us :: g := fun B zs us g S => by rw [← S.len]; simp
  have sz : 12 ≤ sizeLine := by decide
  simp [dSeq, dIfS, dAsg, dIf, dTest, dOp2, dOp1, dOpN, dVar, dC, dCons, dNil, dgName, dRet, dRetN, dDrop, dNext, dLst, dTup, startE, endsD, oI, oInt1, oInt2, oNeg, oIs, oDivmod, dAnd, dOr, dNot, dAndV, dOrV, dNotV, dgSub, dgTup, dgCons, dgNil, oSetL, dPar, dPar3, dFor, diRange1, diRange2, dLc, dCall, dBM, isT, dSl, dP, dNoP, oEq, dChain, oRepr, oIsi, oBools, retD_d, isTy, dDict0, dDict, dPairs, isFl, isFls, isPy, isPys, isPyKV, look_d, look_c, lookC_lst, lookC_dct, lookC_frz, itM_some, oIx_v, ixV_lst, ixV_tup, ixV_scr, ixV_str, oAdd_v, addV_int, addV_str, addV_tup, addV_lst, oMul_v, mulV_int, mulV_lst, oLen_v, lenV_str, lenV_lst, lenV_tup, lenV_scr, oSl_v, slV_str, slV_tup, slV_lst, oIn_v, inV_lst, inV_tup, inV_sign, diSeq_v, seqV_lst, seqV_tup, seqV_str, fixW_d, fixW_c, fixV_frz, fixV_lst, fixV_dct, fixAll_nil, fixAll_cons, t__law_changed_1, get B _ _ S]
  split
  · rename_i h1
    refine oddstep_st S n0 n1 fun x B2 hx S2 => ?_
    have := ins_ok hy hl hx k.toNat
    simp [dSeq, dIfS, dAsg, dIf, dTest, dOp2, dOp1, dOpN, dVar, dC, dCons, dNil, dgName, dRet, dRetN, dDrop, dNext, dLst, dTup, startE, endsD, oI, oInt1, oInt2, oNeg, oIs, oDivmod, dAnd, dOr, dNot, dAndV, dOrV, dNotV, dgSub, dgTup, dgCons, dgNil, oSetL, dPar, dPar3, dFor, diRange1, diRange2, dLc, dCall, dBM, isT, dSl, dP, dNoP, oEq, dChain, oRepr, oIsi, oBools, retD_d, isTy, dDict0, dDict, dPairs, isFl, isFls, isPy, isPys, isPyKV, look_d, look_c, lookC_lst, lookC_dct, lookC_frz, itM_some, oIx_v, ixV_lst, ixV_tup, ixV_scr, ixV_str, oAdd_v, addV_int, addV_str, addV_tup, addV_lst, oMul_v, mulV_int, mulV_lst, oLen_v, lenV_str, lenV_lst, lenV_tup, lenV_scr, oSl_v, slV_str, slV_tup, slV_lst, oIn_v, inV_lst, inV_tup, inV_sign, diSeq_v, seqV_lst, seqV_tup, seqV_str, fixW_d, fixW_c, fixV_frz, fixV_lst, fixV_dct, fixAll_nil, fixAll_cons, oInsert_v, lstV_lst, get B2 _ _ S2, put B2 _ _ _ S2]
    refine ⟨by omega, hk.1, by omega, ?_⟩
    simp at this
    refine h2 _ _ ⟨B2, g, S2, rfl⟩ this (fun e => absurd h1 e) fun _ => ?_
    simp only [List.length_append, List.length_take, List.length_drop, List.length_cons]
    omega
  · rename_i h1
    exact h2 _ _ ⟨B, g, S, rfl⟩ hy (fun _ => rfl) fun e => absurd e h1
theorem t3 (h : IV cs i ys c) (hy : okList ys) (hij : i ≠ j) (hj : cs[j]? = some (.lst xs)) (hl : xs.length ≤ 10) (hg : ∀ x ∈ xs, goodStep n x) (hk : 0 ≤ k ∧ k ≤ xs.length) (n0 : 1 ≤ n) (n1 : n ≤ 3) (hw : w = 2 → ys = xs)
    (h4 : ∀ zs d, IV cs i zs d → okList zs → (w ≠ 2 → zs = ys) → t__law_changed_4 (endsD cs.length Q E) (ev6 cs i j n w k) d) : t__law_changed_3 (endsD cs.length Q E) (ev6 cs i j n w k) c := by
  obtain ⟨B, g, S, rfl⟩ := h
  have hjc : ∀ (B g : Cs), St cs i B → (B ++ g)[j]? = some (.lst xs) := fun B g S => get_app (st_other S hj hij)
  have dn : (py (D.lst [])).depth = 1 := by simp [py, pys, PyData.depth, PyData.depthAll]
  simp [dSeq, dIfS, dAsg, dIf, dTest, dOp2, dOp1, dOpN, dVar, dC, dCons, dNil, dgName, dRet, dRetN, dDrop, dNext, dLst, dTup, startE, endsD, oI, oInt1, oInt2, oNeg, oIs, oDivmod, dAnd, dOr, dNot, dAndV, dOrV, dNotV, dgSub, dgTup, dgCons, dgNil, oSetL, dPar, dPar3, dFor, diRange1, diRange2, dLc, dCall, dBM, isT, dSl, dP, dNoP, oEq, dChain, oRepr, oIsi, oBools, retD_d, isTy, dDict0, dDict, dPairs, isFl, isFls, isPy, isPys, isPyKV, look_d, look_c, lookC_lst, lookC_dct, lookC_frz, itM_some, oIx_v, ixV_lst, ixV_tup, ixV_scr, ixV_str, oAdd_v, addV_int, addV_str, addV_tup, addV_lst, oMul_v, mulV_int, mulV_lst, oLen_v, lenV_str, lenV_lst, lenV_tup, lenV_scr, oSl_v, slV_str, slV_tup, slV_lst, oIn_v, inV_lst, inV_tup, inV_sign, diSeq_v, seqV_lst, seqV_tup, seqV_str, fixW_d, fixW_c, fixV_frz, fixV_lst, fixV_dct, fixAll_nil, fixAll_cons, t__law_changed_3, hjc B _ S, good_fl hg]
  split
  · rename_i h2
    have e := hw h2
    subst e
    refine ⟨by omega, ?_⟩
    rw [eqv_nil]
    split
    · exact h4 _ _ ⟨B, g ++ [.lst []], S, rfl⟩ hy fun _ => rfl
    · rename_i hne
      have hpos : 0 < ys.length := by
        cases ys with
        | nil => simp at hne
        | cons a r => simp
      refine oddstep_st S n0 n1 fun x B2 hx S2 => ?_
      have ge : (B2 ++ Cell.lst ys :: (g ++ [.lst []]))[cs.length]? = some (.lst ys) := by rw [← S2.len]; simp
      have pu : ∀ us, (B2 ++ Cell.lst ys :: (g ++ [.lst []])).set cs.length (.lst us) = B2 ++ Cell.lst us :: (g ++ [.lst []]) := fun us => by rw [← S2.len]; simp
      rw [hjc B2 _ S2, lookC_lst, lenV_lst]
      have ei : ixN ys.length (if (ys.length : Int) - 1 < k then (ys.length : Int) - 1 else k) = some (if (ys.length : Int) - 1 < k then (ys.length : Int) - 1 else k).toNat := by
        rw [ix_of (n := (if (ys.length : Int) - 1 < k then (ys.length : Int) - 1 else k).toNat) (by split <;> omega), if_pos (by split <;> omega)]
      simp only [look_d, fixW_d, ge, ei]
      rw [pu]
      exact h4 _ _ ⟨B2, g ++ [.lst []], S2, rfl⟩ (set_ok hy hx _) fun e => absurd h2 e
  · exact h4 _ _ ⟨B, g, S, rfl⟩ hy fun _ => rfl
theorem piled_mem : ∀ {ts : List Str} (t : Str), t ∈ ts → t.length ≤ piled ts
  | [], t, h => by cases h
  | x :: r, t, h => by
    rcases List.mem_cons.mp h with rfl | h
    · simp [piled]; omega
    · have := piled_mem t h
      simp [piled] at this ⊢; omega
/-- a good step, as a list, is like a step -/
theorem good_tup {y : D} (h : goodStep n y) : ∃ zs, y = .tup zs ∧ stepLike (.lst zs) := by
  obtain ⟨⟨a, _, _⟩, b, _, d, f⟩ := h
  cases y with
  | tup zs =>
    have hz : zs.length ≤ 3 := by
      rcases zs with _ | ⟨p, _ | ⟨q, _ | ⟨t, _ | ⟨u, r⟩⟩⟩⟩ <;> simp [isStep] at b ⊢
    refine ⟨zs, rfl, ⟨a, (fun xs e => by cases e), fun p r e => by cases e⟩, by simpa [py, PyData.showable] using d, ?_⟩
    have el : ∀ t ∈ PyData.shownAll (pys zs), t.length ≤ 100000 := fun t ht => by
      have e : (py (.tup zs)).shown = tupleText (PyData.shownAll (pys zs)) := by simp only [py, PyData.shown]
      rw [e] at f
      exact Nat.le_trans (piled_mem t ht) (Nat.le_trans (piled_le_tupleText _) f)
    have e : (py (.lst zs)).shown = listText (PyData.shownAll (pys zs)) := by simp only [py, PyData.shown]
    have l := from_le (M := 100000) _ 0 (Str.ofString "[") el
    rw [shownAll_len] at l
    have l2 : zs.length * (100000 + 2) ≤ 3 * (100000 + 2) := Nat.mul_le_mul_right _ hz
    rw [e]
    unfold listText
    have k1 : (Str.ofString "[").length = 1 := by decide +kernel
    have k2 : (Str.ofString "]").length = 1 := by decide +kernel
    rw [strLen_append, k2]
    rw [k1] at l
    omega
  | _ => simp [isStep] at b
theorem t4 (h : IV cs i ys c) (hy : okList ys) (hij : i ≠ j) (hj : cs[j]? = some (.lst xs)) (hl : xs.length ≤ 10) (hg : ∀ x ∈ xs, goodStep n x) (hk : 0 ≤ k ∧ k ≤ xs.length) (hw : w = 3 → ys = xs)
    (h5 : ∀ zs d, IV cs i zs d → okList zs → (w ≠ 3 → zs = ys) → t__law_changed_5 (endsD cs.length Q E) (ev6 cs i j n w k) d) : t__law_changed_4 (endsD cs.length Q E) (ev6 cs i j n w k) c := by
  obtain ⟨B, g, S, rfl⟩ := h
  have hjc : ∀ (g : Cs), (B ++ g)[j]? = some (.lst xs) := fun g => get_app (st_other S hj hij)
  have dn : (py (D.lst [])).depth = 1 := by simp [py, pys, PyData.depth, PyData.depthAll]
  have get : ∀ (zs : List D) (g : Cs), (B ++ Cell.lst zs :: g)[cs.length]? = some (.lst zs) := fun zs g => by rw [← S.len]; simp
  simp [dSeq, dIfS, dAsg, dIf, dTest, dOp2, dOp1, dOpN, dVar, dC, dCons, dNil, dgName, dRet, dRetN, dDrop, dNext, dLst, dTup, startE, endsD, oI, oInt1, oInt2, oNeg, oIs, oDivmod, dAnd, dOr, dNot, dAndV, dOrV, dNotV, dgSub, dgTup, dgCons, dgNil, oSetL, dPar, dPar3, dFor, diRange1, diRange2, dLc, dCall, dBM, isT, dSl, dP, dNoP, oEq, dChain, oRepr, oIsi, oBools, retD_d, isTy, dDict0, dDict, dPairs, isFl, isFls, isPy, isPys, isPyKV, look_d, look_c, lookC_lst, lookC_dct, lookC_frz, itM_some, oIx_v, ixV_lst, ixV_tup, ixV_scr, ixV_str, oAdd_v, addV_int, addV_str, addV_tup, addV_lst, oMul_v, mulV_int, mulV_lst, oLen_v, lenV_str, lenV_lst, lenV_tup, lenV_scr, oSl_v, slV_str, slV_tup, slV_lst, oIn_v, inV_lst, inV_tup, inV_sign, diSeq_v, seqV_lst, seqV_tup, seqV_str, fixW_d, fixW_c, fixV_frz, fixV_lst, fixV_dct, fixAll_nil, fixAll_cons, t__law_changed_4, hjc, good_fl hg, get]
  split
  · rename_i h2
    have e := hw h2
    subst e
    refine ⟨by omega, ?_⟩
    rw [eqv_nil]
    split
    · exact h5 _ _ ⟨B, g ++ [.lst []], S, rfl⟩ hy fun _ => rfl
    · rename_i hne
      have hpos : 0 < ys.length := by
        cases ys with
        | nil => simp at hne
        | cons a r => simp
      obtain ⟨y, ey, hy'⟩ := mem_at (xs := ys) (k := if (ys.length : Int) - 1 < k then (ys.length : Int) - 1 else k) (n := ys.length) (by split <;> omega) (by split <;> omega) rfl
      refine ⟨y, ey, ?_⟩
      obtain ⟨zs, rfl, lz⟩ := good_tup (hg y hy')
      rw [oListOf_v, look_d, toV_tup]
      have hj1 : ∀ g' : Cs, (B ++ Cell.lst ys :: (g ++ [Cell.lst []]) ++ g')[j]? = some (.lst ys) := fun g' => by rw [List.append_assoc]; exact hjc _
      have hf1 : ∀ g' : Cs, (B ++ Cell.lst ys :: (g ++ [Cell.lst []]) ++ g')[cs.length]? = some (.lst ys) := fun g' => by rw [List.append_assoc]; exact get ys _
      have pu : ∀ us (g' : Cs), (B ++ Cell.lst ys :: (g ++ [Cell.lst []]) ++ g').set cs.length (.lst us) = B ++ Cell.lst us :: (g ++ [Cell.lst []] ++ g') := fun us g' => by
        rw [List.append_assoc, ← S.len]
        simp
      have ei : ixN ys.length (if (ys.length : Int) - 1 < k then (ys.length : Int) - 1 else k) = some (if (ys.length : Int) - 1 < k then (ys.length : Int) - 1 else k).toNat := by
        rw [ix_of (n := (if (ys.length : Int) - 1 < k then (ys.length : Int) - 1 else k).toNat) (by split <;> omega), if_pos (by split <;> omega)]
      rw [hj1, lookC_lst, lenV_lst]
      simp only [look_d, fixW_c, get_at0, List.getElem?_cons_zero, fixV_lst, set_at0, List.set_cons_zero, hf1, ei]
      rw [pu]
      exact h5 _ _ ⟨B, g ++ [.lst []] ++ [.frz (.lst zs)], S, rfl⟩ (set_ok hy lz _) fun e => absurd h2 e
  · exact h5 _ _ ⟨B, g, S, rfl⟩ hy fun _ => rfl
theorem good_like {x : D} (h : goodStep n x) : stepLike x := ⟨h.1, h.2.2.2.1, Nat.le_trans h.2.2.2.2 (by decide)⟩
theorem p__law_changed : ∀ ws cs Q E, closed cs → sp__law_changed ws cs Q E → t__law_changed (endsD cs.length Q E) (startE N__law_changed ws) cs := by
  rintro _ cs Q E hc ⟨i, j, n, xs, rfl, hij, hp, hj, hl, hg, n0, n1, qt, ql⟩
  have S0 : St cs i cs := St.init hc hp
  have hq : Want cs i Q := ⟨qt, ql⟩
  have ho : okList xs := ⟨by omega, fun x hx => good_like (hg x hx)⟩
  simp [dSeq, dIfS, dAsg, dIf, dTest, dOp2, dOp1, dOpN, dVar, dC, dCons, dNil, dgName, dRet, dRetN, dDrop, dNext, dLst, dTup, startE, endsD, oI, oInt1, oInt2, oNeg, oIs, oDivmod, dAnd, dOr, dNot, dAndV, dOrV, dNotV, dgSub, dgTup, dgCons, dgNil, oSetL, dPar, dPar3, dFor, diRange1, diRange2, dLc, dCall, dBM, isT, dSl, dP, dNoP, oEq, dChain, oRepr, oIsi, oBools, retD_d, isTy, dDict0, dDict, dPairs, isFl, isFls, isPy, isPys, isPyKV, look_d, look_c, lookC_lst, lookC_dct, lookC_frz, itM_some, oIx_v, ixV_lst, ixV_tup, ixV_scr, ixV_str, oAdd_v, addV_int, addV_str, addV_tup, addV_lst, oMul_v, mulV_int, mulV_lst, oLen_v, lenV_str, lenV_lst, lenV_tup, lenV_scr, oSl_v, slV_str, slV_tup, slV_lst, oIn_v, inV_lst, inV_tup, inV_sign, diSeq_v, seqV_lst, seqV_tup, seqV_str, fixW_d, fixW_c, fixV_frz, fixV_lst, fixV_dct, fixAll_nil, fixAll_cons, t__law_changed, oListOf_v, hj, toV_lst]
  refine draw_st S0 (by decide) (by decide) fun w B w0 w1 S1 => ?_
  rw [get_app (st_other S1 hj hij), lookC_lst, lenV_lst]
  simp [dSeq, dIfS, dAsg, dIf, dTest, dOp2, dOp1, dOpN, dVar, dC, dCons, dNil, dgName, dRet, dRetN, dDrop, dNext, dLst, dTup, startE, endsD, oI, oInt1, oInt2, oNeg, oIs, oDivmod, dAnd, dOr, dNot, dAndV, dOrV, dNotV, dgSub, dgTup, dgCons, dgNil, oSetL, dPar, dPar3, dFor, diRange1, diRange2, dLc, dCall, dBM, isT, dSl, dP, dNoP, oEq, dChain, oRepr, oIsi, oBools, retD_d, isTy, dDict0, dDict, dPairs, isFl, isFls, isPy, isPys, isPyKV, look_d, look_c, lookC_lst, lookC_dct, lookC_frz, itM_some, oIx_v, ixV_lst, ixV_tup, ixV_scr, ixV_str, oAdd_v, addV_int, addV_str, addV_tup, addV_lst, oMul_v, mulV_int, mulV_lst, oLen_v, lenV_str, lenV_lst, lenV_tup, lenV_scr, oSl_v, slV_str, slV_tup, slV_lst, oIn_v, inV_lst, inV_tup, inV_sign, diSeq_v, seqV_lst, seqV_tup, seqV_str, fixW_d, fixW_c, fixV_frz, fixV_lst, fixV_dct, fixAll_nil, fixAll_cons]
  refine draw_st S1 (by omega) (by omega) fun k B2 k0 k1 S2 => ?_
  have hk : 0 ≤ k ∧ k ≤ xs.length := ⟨k0, by omega⟩
  refine t1 (w := w) (k := k) (ys := xs) ⟨B2, [], S2, rfl⟩ ho hl ⟨k0, by omega⟩ n0 n1 fun z1 d1 v1 o1 e1 l1 => ?_
  refine t2' (w := w) (k := k) (ys := z1) v1 o1 ⟨k0, by omega⟩ (fun e => by rw [e1 (by omega)]; exact hl) fun z2 d2 v2 o2 e2 => ?_
  refine t3 (w := w) (k := k) (ys := z2) v2 o2 hij hj hl hg hk n0 n1 (fun e => by rw [e2 (by omega), e1 (by omega)]) fun z3 d3 v3 o3 e3 => ?_
  refine t4 (w := w) (k := k) (ys := z3) v3 o3 hij hj hl hg hk (fun e => by rw [e3 (by omega), e2 (by omega), e1 (by omega)]) fun z4 d4 v4 o4 e4 => ?_
  exact t5 (w := w) (k := k) (ys := z4) v4 o4 hq hij hj hl hg hk (fun e => by rw [e4 (by omega), e3 (by omega), e2 (by omega), e1 (by omega)])
end
end K31
namespace K31
open PySem PySem.Spec L2 DL
theorem paired_right {P : D → Prop} : ∀ {xs : List W} {ys : List D}, Paired (fun _ y => P y) xs ys → ∀ y ∈ ys, P y
  | _, _, .nil => nofun
  | _, _, .cons h t => List.forall_mem_cons.mpr ⟨h, paired_right t⟩
theorem paired_len {R : W → D → Prop} : ∀ {xs : List W} {ys : List D}, Paired R xs ys → ys.length = xs.length
  | _, _, .nil => rfl
  | _, _, .cons _ t => by simp [paired_len t]
/-- what the second comprehension keeps of `ys` -/
def once (ys : List D) : W → Option D
  | .tp [.int p, y] => if isNx y && (cutD ys none (some p)).any isNx then none else some y
  | _ => none
theorem cut_take (ys : List D) (p : Nat) (h : p ≤ ys.length) : cutD ys none (some (p : Int)) = ys.take p := by
  unfold cutD
  simp [HT.sIx]
  rw [if_neg (by omega)]
  omega
theorem once_of (pre : List D) : ∀ rest : List D, (((pairUp pre.length rest).filterMap (once (pre ++ rest))).filter isNx).length ≤ (if pre.any isNx then 0 else 1) ∧ ∀ y ∈ (pairUp pre.length rest).filterMap (once (pre ++ rest)), y ∈ rest
  | [] => by simp [pairUp]
  | x :: r => by
    obtain ⟨h1, h2⟩ := once_of (pre ++ [x]) r
    have e : pre ++ [x] ++ r = pre ++ x :: r := by simp
    rw [e] at h1 h2
    simp only [List.length_append, List.length_cons, List.length_nil, Nat.zero_add] at h1 h2
    have e1 : once (pre ++ x :: r) (.tp [.int (pre.length : Int), x]) = if isNx x && pre.any isNx then none else some x := by
      simp only [once]
      rw [cut_take _ _ (by simp), List.take_left]
    simp only [pairUp, List.filterMap_cons, e1]
    have h2' : ∀ y ∈ List.filterMap (once (pre ++ x :: r)) (pairUp (pre.length + 1) r), y ∈ x :: r := fun y hy => List.mem_cons_of_mem _ (h2 y hy)
    cases hx : isNx x <;> cases hp : pre.any isNx
    · rw [List.any_append, hp] at h1
      simp only [List.any_cons, hx, List.any_nil, Bool.or_false, Bool.false_eq_true, if_false, Bool.and_false, Bool.and_self] at h1 ⊢
      exact ⟨by rw [List.filter_cons_of_neg (by simp [hx])]; exact h1, fun y hy => by
        rcases List.mem_cons.mp hy with rfl | hy
        · exact List.mem_cons_self
        · exact h2' y hy⟩
    · rw [List.any_append, hp] at h1
      simp only [Bool.true_or, if_true, Bool.false_and, Bool.false_eq_true, if_false] at h1 ⊢
      exact ⟨by rw [List.filter_cons_of_neg (by simp [hx])]; exact h1, fun y hy => by
        rcases List.mem_cons.mp hy with rfl | hy
        · exact List.mem_cons_self
        · exact h2' y hy⟩
    · rw [List.any_append, hp] at h1
      simp only [List.any_cons, hx, List.any_nil, Bool.or_false, Bool.false_or, if_true, Bool.false_eq_true, if_false, Bool.and_false, Bool.or_true] at h1 ⊢
      exact ⟨by rw [List.filter_cons_of_pos hx, List.length_cons]; omega, fun y hy => by
        rcases List.mem_cons.mp hy with rfl | hy
        · exact List.mem_cons_self
        · exact h2' y hy⟩
    · rw [List.any_append, hp] at h1
      simp only [Bool.true_or, if_true, Bool.and_self] at h1 ⊢
      exact ⟨h1, h2'⟩
theorem drawC {m a b : Int} {g : Cs} {Q : DQ} {E : DX} (b0 : 0 ≤ b) (b1 : b < 2147483648) (h1 : 0 < m) (h2 : m < 2 ^ 250) (h : ∀ r a b, 0 ≤ r → r < m → 0 ≤ b → b < 2147483648 → Q (.d (.int r)) (pot a b :: g)) : spDraw [.c 0, .d (.int m)] (pot a b :: g) Q E :=
  draw_ok ⟨a, b, rfl, b0, b1⟩ h1 h2 fun r a b r0 r1 b0 b1 => h r a b r0 r1 b0 b1
theorem u2 {Q : DQ} {E : DX} {n : Int} {p q : Int} (hq : ∀ a' b', Q (.d (.bl true)) [pot a' b']) {a b d e f g h r : Option W} :
    t__law_cell_right_2 (endsD 1 Q E) [a, some (.d (.int n)), b, d, e, f, g, h, r] [pot p q] := by
  simp [dSeq, dIfS, dAsg, dIf, dTest, dOp2, dOp1, dOpN, dVar, dC, dCons, dNil, dgName, dRet, dRetN, dDrop, dNext, dLst, dTup, startE, endsD, oI, oInt1, oInt2, oNeg, oIs, oDivmod, dAnd, dOr, dNot, dAndV, dOrV, dNotV, dgSub, dgTup, dgCons, dgNil, oSetL, dPar, dPar3, dFor, diRange1, diRange2, dLc, dCall, dBM, isT, dSl, dP, dNoP, oEq, dChain, oRepr, oIsi, oBools, retD_d, isTy, dDict0, dDict, dPairs, isFl, isFls, isPy, isPys, isPyKV, look_d, look_c, lookC_lst, lookC_dct, lookC_frz, itM_some, oIx_v, ixV_lst, ixV_tup, ixV_scr, ixV_str, oAdd_v, addV_int, addV_str, addV_tup, addV_lst, oMul_v, mulV_int, mulV_lst, oLen_v, lenV_str, lenV_lst, lenV_tup, lenV_scr, oSl_v, slV_str, slV_tup, slV_lst, oIn_v, inV_lst, inV_tup, inV_sign, diSeq_v, seqV_lst, seqV_tup, seqV_str, fixW_d, fixW_c, fixV_frz, fixV_lst, fixV_dct, fixAll_nil, fixAll_cons, t__law_cell_right_2]
  refine ⟨_, .tup [], n, rfl, ⟨by simp [look], Or.inl rfl⟩, rfl, (fun xs e => by cases e; exact ⟨by decide, nofun⟩), ?_⟩
  have e1 : isBody n (.tup []) = true := rfl
  have e2 : isBody n (.lst []) = false := rfl
  rw [e1]
  simp [oIsBl]
  refine ⟨_, .lst [], n, rfl, ⟨by simp [look, lookC], Or.inr ⟨_, rfl⟩⟩, rfl, (fun xs e => by cases e), ?_⟩
  rw [e2]
  simp [dSeq, dIfS, dAsg, dIf, dTest, dOp2, dOp1, dOpN, dVar, dC, dCons, dNil, dgName, dRet, dRetN, dDrop, dNext, dLst, dTup, startE, endsD, oI, oInt1, oInt2, oNeg, oIs, oDivmod, dAnd, dOr, dNot, dAndV, dOrV, dNotV, dgSub, dgTup, dgCons, dgNil, oSetL, dPar, dPar3, dFor, diRange1, diRange2, dLc, dCall, dBM, isT, dSl, dP, dNoP, oEq, dChain, oRepr, oIsi, oBools, retD_d, isTy, dDict0, dDict, dPairs, isFl, isFls, isPy, isPys, isPyKV, look_d, look_c, lookC_lst, lookC_dct, lookC_frz, itM_some, oIx_v, ixV_lst, ixV_tup, ixV_scr, ixV_str, oAdd_v, addV_int, addV_str, addV_tup, addV_lst, oMul_v, mulV_int, mulV_lst, oLen_v, lenV_str, lenV_lst, lenV_tup, lenV_scr, oSl_v, slV_str, slV_tup, slV_lst, oIn_v, inV_lst, inV_tup, inV_sign, diSeq_v, seqV_lst, seqV_tup, seqV_str, fixW_d, fixW_c, fixV_frz, fixV_lst, fixV_dct, fixAll_nil, fixAll_cons, dropTo, poisonC, pot]
  exact hq _ _
theorem u1 {Q : DQ} {E : DX} {n p q : Int} (q0 : 0 ≤ q) (q1 : q < 2147483648) (n0 : 1 ≤ n) (n1 : n ≤ 3) (hq : ∀ a' b', Q (.d (.bl true)) [pot a' b']) {b d f h : Option W} :
    t__law_cell_right_1 (endsD 1 Q E) [some (.c 0), some (.d (.int n)), b, d, none, f, none, h, none] [pot p q] := by
  have h2 := fun {a b d e f g h r p q} => u2 (E := E) (n := n) (a := a) (b := b) (d := d) (e := e) (f := f) (g := g) (h := h) (r := r) (p := p) (q := q) hq
  simp [dSeq, dIfS, dAsg, dIf, dTest, dOp2, dOp1, dOpN, dVar, dC, dCons, dNil, dgName, dRet, dRetN, dDrop, dNext, dLst, dTup, startE, endsD, oI, oInt1, oInt2, oNeg, oIs, oDivmod, dAnd, dOr, dNot, dAndV, dOrV, dNotV, dgSub, dgTup, dgCons, dgNil, oSetL, dPar, dPar3, dFor, diRange1, diRange2, dLc, dCall, dBM, isT, dSl, dP, dNoP, oEq, dChain, oRepr, oIsi, oBools, retD_d, isTy, dDict0, dDict, dPairs, isFl, isFls, isPy, isPys, isPyKV, look_d, look_c, lookC_lst, lookC_dct, lookC_frz, itM_some, oIx_v, ixV_lst, ixV_tup, ixV_scr, ixV_str, oAdd_v, addV_int, addV_str, addV_tup, addV_lst, oMul_v, mulV_int, mulV_lst, oLen_v, lenV_str, lenV_lst, lenV_tup, lenV_scr, oSl_v, slV_str, slV_tup, slV_lst, oIn_v, inV_lst, inV_tup, inV_sign, diSeq_v, seqV_lst, seqV_tup, seqV_str, fixW_d, fixW_c, fixV_frz, fixV_lst, fixV_dct, fixAll_nil, fixAll_cons, t__law_cell_right_1]
  refine forD_inv (fun _ env c => ∃ p q b d f h, (0 ≤ q ∧ q < 2147483648) ∧ env = [some (.c 0), some (.d (.int n)), b, d, none, f, none, h, none] ∧ c = [pot p q]) (fun _ _ _ _ => True.intro) _ 0 _ _ ⟨p, q, b, d, f, h, ⟨q0, q1⟩, rfl, rfl⟩ (fun j x hx env c hJ D' hrt hex hbk hnx hct => ?_) fun env c hJ => ?_
  · obtain ⟨p, q, b, d, f, h, ⟨q0, q1⟩, rfl, rfl⟩ := hJ
    obtain ⟨xi, rfl⟩ : ∃ i : Int, x = .d (.int i) := by
      rw [List.getElem?_map] at hx
      cases e : (List.range 20)[j]? with
      | none => rw [e] at hx; cases hx
      | some q => rw [e] at hx; exact ⟨_, by simpa using hx.symm⟩
    simp [dSeq, dIfS, dAsg, dIf, dTest, dOp2, dOp1, dOpN, dVar, dC, dCons, dNil, dgName, dRet, dRetN, dDrop, dNext, dLst, dTup, startE, endsD, oI, oInt1, oInt2, oNeg, oIs, oDivmod, dAnd, dOr, dNot, dAndV, dOrV, dNotV, dgSub, dgTup, dgCons, dgNil, oSetL, dPar, dPar3, dFor, diRange1, diRange2, dLc, dCall, dBM, isT, dSl, dP, dNoP, oEq, dChain, oRepr, oIsi, oBools, retD_d, isTy, dDict0, dDict, dPairs, isFl, isFls, isPy, isPys, isPyKV, look_d, look_c, lookC_lst, lookC_dct, lookC_frz, itM_some, oIx_v, ixV_lst, ixV_tup, ixV_scr, ixV_str, oAdd_v, addV_int, addV_str, addV_tup, addV_lst, oMul_v, mulV_int, mulV_lst, oLen_v, lenV_str, lenV_lst, lenV_tup, lenV_scr, oSl_v, slV_str, slV_tup, slV_lst, oIn_v, inV_lst, inV_tup, inV_sign, diSeq_v, seqV_lst, seqV_tup, seqV_str, fixW_d, fixW_c, fixV_frz, fixV_lst, fixV_dct, fixAll_nil, fixAll_cons, gcS]
    refine drawC q0 q1 (by decide) (by decide) fun k p q k0 k1 q0 q1 => ?_
    refine ⟨by omega, by omega, ?_⟩
    refine lcD_all (fun c => ∃ p q, (0 ≤ q ∧ q < 2147483648) ∧ c = [pot p q]) (fun _ y => goodStep n y) (fun _ _ => True.intro) _ _ ⟨p, q, ⟨q0, q1⟩, rfl⟩ (by have sz : 12 ≤ sizeLine := (by decide); simp; omega) (fun w hw c0 hJ K hK => ?_) fun ys c2 hp hJ => ?_
    · obtain ⟨p, q, ⟨q0, q1⟩, rfl⟩ := hJ
      simp [dSeq, dIfS, dAsg, dIf, dTest, dOp2, dOp1, dOpN, dVar, dC, dCons, dNil, dgName, dRet, dRetN, dDrop, dNext, dLst, dTup, startE, endsD, oI, oInt1, oInt2, oNeg, oIs, oDivmod, dAnd, dOr, dNot, dAndV, dOrV, dNotV, dgSub, dgTup, dgCons, dgNil, oSetL, dPar, dPar3, dFor, diRange1, diRange2, dLc, dCall, dBM, isT, dSl, dP, dNoP, oEq, dChain, oRepr, oIsi, oBools, retD_d, isTy, dDict0, dDict, dPairs, isFl, isFls, isPy, isPys, isPyKV, look_d, look_c, lookC_lst, lookC_dct, lookC_frz, itM_some, oIx_v, ixV_lst, ixV_tup, ixV_scr, ixV_str, oAdd_v, addV_int, addV_str, addV_tup, addV_lst, oMul_v, mulV_int, mulV_lst, oLen_v, lenV_str, lenV_lst, lenV_tup, lenV_scr, oSl_v, slV_str, slV_tup, slV_lst, oIn_v, inV_lst, inV_tup, inV_sign, diSeq_v, seqV_lst, seqV_tup, seqV_str, fixW_d, fixW_c, fixV_frz, fixV_lst, fixV_dct, fixAll_nil, fixAll_cons, wipeE]
      refine ⟨0, n, rfl, ⟨p, q, rfl, q0, q1⟩, n0, n1, fun x a b hx h1 h2 => ?_⟩
      simp [dSeq, dIfS, dAsg, dIf, dTest, dOp2, dOp1, dOpN, dVar, dC, dCons, dNil, dgName, dRet, dRetN, dDrop, dNext, dLst, dTup, startE, endsD, oI, oInt1, oInt2, oNeg, oIs, oDivmod, dAnd, dOr, dNot, dAndV, dOrV, dNotV, dgSub, dgTup, dgCons, dgNil, oSetL, dPar, dPar3, dFor, diRange1, diRange2, dLc, dCall, dBM, isT, dSl, dP, dNoP, oEq, dChain, oRepr, oIsi, oBools, retD_d, isTy, dDict0, dDict, dPairs, isFl, isFls, isPy, isPys, isPyKV, look_d, look_c, lookC_lst, lookC_dct, lookC_frz, itM_some, oIx_v, ixV_lst, ixV_tup, ixV_scr, ixV_str, oAdd_v, addV_int, addV_str, addV_tup, addV_lst, oMul_v, mulV_int, mulV_lst, oLen_v, lenV_str, lenV_lst, lenV_tup, lenV_scr, oSl_v, slV_str, slV_tup, slV_lst, oIn_v, inV_lst, inV_tup, inV_sign, diSeq_v, seqV_lst, seqV_tup, seqV_str, fixW_d, fixW_c, fixV_frz, fixV_lst, fixV_dct, fixAll_nil, fixAll_cons]
      exact hK _ _ hx ⟨a, b, ⟨h1, h2⟩, by simp [dropTo, poisonC, pot]⟩
    obtain ⟨p, q, ⟨q0, q1⟩, rfl⟩ := hJ
    have hys : ∀ y ∈ ys, goodStep n y := paired_right hp
    have lys := paired_len hp
    simp at lys
    simp [dSeq, dIfS, dAsg, dIf, dTest, dOp2, dOp1, dOpN, dVar, dC, dCons, dNil, dgName, dRet, dRetN, dDrop, dNext, dLst, dTup, startE, endsD, oI, oInt1, oInt2, oNeg, oIs, oDivmod, dAnd, dOr, dNot, dAndV, dOrV, dNotV, dgSub, dgTup, dgCons, dgNil, oSetL, dPar, dPar3, dFor, diRange1, diRange2, dLc, dCall, dBM, isT, dSl, dP, dNoP, oEq, dChain, oRepr, oIsi, oBools, retD_d, isTy, dDict0, dDict, dPairs, isFl, isFls, isPy, isPys, isPyKV, look_d, look_c, lookC_lst, lookC_dct, lookC_frz, itM_some, oIx_v, ixV_lst, ixV_tup, ixV_scr, ixV_str, oAdd_v, addV_int, addV_str, addV_tup, addV_lst, oMul_v, mulV_int, mulV_lst, oLen_v, lenV_str, lenV_lst, lenV_tup, lenV_scr, oSl_v, slV_str, slV_tup, slV_lst, oIn_v, inV_lst, inV_tup, inV_sign, diSeq_v, seqV_lst, seqV_tup, seqV_str, fixW_d, fixW_c, fixV_frz, fixV_lst, fixV_dct, fixAll_nil, fixAll_cons, diEnum]
    refine lcD_inv (fun c => c = [pot p q, Cell.lst ys]) (fun w o => o = once ys w) (fun c e => by subst e; rfl) _ [] _ rfl (by have sz : 12 ≤ sizeLine := (by decide); simp [pairUp_length]; omega) (fun w hw c0 hJ K K' h1 h2 => ?_) fun os c2 hp hJ => ?_
    · subst hJ
      obtain ⟨j, hj⟩ := List.mem_iff_getElem?.mp hw
      rw [pairUp_get] at hj
      obtain ⟨y, ey, rfl⟩ : ∃ y, ys[j]? = some y ∧ w = .tp [.int (j : Nat), y] := by
        cases q : ys[j]? with
        | none => rw [q] at hj; cases hj
        | some z => rw [q] at hj; simp at hj; exact ⟨z, rfl, hj.symm⟩
      have hj' : j < ys.length := (List.getElem?_eq_some_iff.mp ey).1
      have gy := hys y (List.mem_of_getElem? ey)
      simp [dSeq, dIfS, dAsg, dIf, dTest, dOp2, dOp1, dOpN, dVar, dC, dCons, dNil, dgName, dRet, dRetN, dDrop, dNext, dLst, dTup, startE, endsD, oI, oInt1, oInt2, oNeg, oIs, oDivmod, dAnd, dOr, dNot, dAndV, dOrV, dNotV, dgSub, dgTup, dgCons, dgNil, oSetL, dPar, dPar3, dFor, diRange1, diRange2, dLc, dCall, dBM, isT, dSl, dP, dNoP, oEq, dChain, oRepr, oIsi, oBools, retD_d, isTy, dDict0, dDict, dPairs, isFl, isFls, isPy, isPys, isPyKV, look_d, look_c, lookC_lst, lookC_dct, lookC_frz, itM_some, oIx_v, ixV_lst, ixV_tup, ixV_scr, ixV_str, oAdd_v, addV_int, addV_str, addV_tup, addV_lst, oMul_v, mulV_int, mulV_lst, oLen_v, lenV_str, lenV_lst, lenV_tup, lenV_scr, oSl_v, slV_str, slV_tup, slV_lst, oIn_v, inV_lst, inV_tup, inV_sign, diSeq_v, seqV_lst, seqV_tup, seqV_str, fixW_d, fixW_c, fixV_frz, fixV_lst, fixV_dct, fixAll_nil, fixAll_cons, wipeE]
      have e1 : once ys (.tp [.int (j : Int), y]) = if isNx y && (ys.take j).any isNx then none else some y := by
        simp only [once]
        rw [cut_take _ _ (by omega)]
      have e2 : (pys (ys.take j)).all (fun z => !PyData.eqv z (py (.tup [.str (Str.ofString "next")]))) = !(ys.take j).any isNx := by
        rw [pys_map, List.all_map, List.any_eq_not_all_not]
        simp only [Function.comp_def, eqv_nx, Bool.not_not]
      rw [cut_take _ _ (by omega), eqv_nx, depth_next]
      have sz : 1 ≤ sizeLine := by decide
      have hfl : isFls (ys.take j) = true := good_fl fun x hx => hys x (List.mem_of_mem_take hx)
      refine ⟨sz, gy.2.2.1, by omega, ?_⟩
      have dr : ∀ g, dropTo 2 (pot p q :: Cell.lst ys :: g) = [pot p q, Cell.lst ys] := fun g => by simp [dropTo, poisonC, pot]
      split
      · rename_i hn
        refine ⟨sz, hfl, by omega, ?_⟩
        split
        · rename_i ha
          refine h1 _ _ ?_ (dr _)
          rw [e1, hn]
          have : (ys.take j).any isNx = false := by
            rw [← Bool.not_inj_iff, ← e2, List.all_eq_true.mpr fun z hz => by simp [ha z hz]]; rfl
          rw [this]; rfl
        · rename_i ha
          refine h2 _ ?_ (dr _)
          rw [e1, hn]
          have : (ys.take j).any isNx = true := by
            cases q : (ys.take j).any isNx with
            | true => rfl
            | false =>
              rw [q] at e2
              exact absurd (fun z hz => by simpa using List.all_eq_true.mp e2 z hz) ha
          rw [this]; rfl
      · rename_i hn
        refine h1 _ _ ?_ (dr _)
        rw [e1]
        simp [hn]
    · subst hJ
      obtain ⟨o1, o2⟩ := once_of [] ys
      have eo : os = (pairUp 0 ys).map (once ys) := paired_eq (f := once ys) hp
      have ez : os.filterMap id = (pairUp 0 ys).filterMap (once ys) := by
        rw [eo, List.filterMap_map]
        rfl
      simp only [List.nil_append, List.length_nil, List.any_nil, Bool.false_eq_true, if_false] at o1 o2 ⊢
      rw [← ez] at o1 o2
      have lzs : (os.filterMap id).length ≤ 6 := by
        rw [ez]
        refine Nat.le_trans (List.length_filterMap_le _ _) ?_
        rw [pairUp_length]; omega
      generalize os.filterMap id = zs at o1 o2 lzs ⊢
      have hzs : ∀ y ∈ zs, goodStep n y := fun y hy => hys y (o2 y hy)
      have okzs : okList zs := ⟨by omega, fun y hy => good_like (hzs y hy)⟩
      have okys : okList ys := ⟨by omega, fun y hy => good_like (hys y hy)⟩
      have ib : isBody n (.tup zs) = true := by
        simp only [isBody, Bool.and_eq_true, decide_eq_true_eq, List.all_eq_true]
        exact ⟨fun y hy => (hzs y hy).2.1, o1⟩
      simp [oTupleOf, look]
      refine ⟨_, .tup zs, n, rfl, ⟨rfl, .inl rfl⟩, rfl, (fun xs e => by cases e; exact ⟨by omega, fun y hy => (hzs y hy).1⟩), ?_⟩
      rw [ib]
      simp [oIsBl]
      refine ⟨_, .tup ys, n, rfl, ⟨rfl, .inl rfl⟩, body_tup okys, ?_⟩
      dsimp only
      rw [if_pos rfl]
      have sz : 12 ≤ sizeLine := by decide
      refine ⟨0, 2, n, zs, rfl, by decide, ⟨p, q, rfl, q0, q1⟩, rfl, by omega, hzs, n0, n1, fun x a b hx h1 h2 => ?_, fun ws a b hx h1 h2 => ?_⟩
      all_goals
        simp only [List.length_cons, List.length_nil, List.set_cons_zero, List.cons_append, List.nil_append]
        refine ⟨by omega, ?_⟩
        refine lcD_all (fun c => c = _) (fun _ y => y = .bl true) (fun c e => by subst e; rfl) _ _ rfl (by simp; omega) (fun w hw c0 hJ K hK => ?_) fun vs c2 hp hJ => ?_
        · obtain ⟨m, rfl⟩ : ∃ m : Int, w = .d (.int m) := by
            simp at hw
            rcases hw with rfl | rfl | rfl | rfl <;> exact ⟨_, rfl⟩
          subst hJ
          simp [dSeq, dIfS, dAsg, dIf, dTest, dOp2, dOp1, dOpN, dVar, dC, dCons, dNil, dgName, dRet, dRetN, dDrop, dNext, dLst, dTup, startE, endsD, oI, oInt1, oInt2, oNeg, oIs, oDivmod, dAnd, dOr, dNot, dAndV, dOrV, dNotV, dgSub, dgTup, dgCons, dgNil, oSetL, dPar, dPar3, dFor, diRange1, diRange2, dLc, dCall, dBM, isT, dSl, dP, dNoP, oEq, dChain, oRepr, oIsi, oBools, retD_d, isTy, dDict0, dDict, dPairs, isFl, isFls, isPy, isPys, isPyKV, look_d, look_c, lookC_lst, lookC_dct, lookC_frz, itM_some, oIx_v, ixV_lst, ixV_tup, ixV_scr, ixV_str, oAdd_v, addV_int, addV_str, addV_tup, addV_lst, oMul_v, mulV_int, mulV_lst, oLen_v, lenV_str, lenV_lst, lenV_tup, lenV_scr, oSl_v, slV_str, slV_tup, slV_lst, oIn_v, inV_lst, inV_tup, inV_sign, diSeq_v, seqV_lst, seqV_tup, seqV_str, fixW_d, fixW_c, fixV_frz, fixV_lst, fixV_dct, fixAll_nil, fixAll_cons, wipeE]
          refine ⟨_, _, m, rfl, ⟨rfl, by first | exact .inl rfl | exact .inr ⟨_, rfl⟩⟩, hx, ?_⟩
          simp [dSeq, dIfS, dAsg, dIf, dTest, dOp2, dOp1, dOpN, dVar, dC, dCons, dNil, dgName, dRet, dRetN, dDrop, dNext, dLst, dTup, startE, endsD, oI, oInt1, oInt2, oNeg, oIs, oDivmod, dAnd, dOr, dNot, dAndV, dOrV, dNotV, dgSub, dgTup, dgCons, dgNil, oSetL, dPar, dPar3, dFor, diRange1, diRange2, dLc, dCall, dBM, isT, dSl, dP, dNoP, oEq, dChain, oRepr, oIsi, oBools, retD_d, isTy, dDict0, dDict, dPairs, isFl, isFls, isPy, isPys, isPyKV, look_d, look_c, lookC_lst, lookC_dct, lookC_frz, itM_some, oIx_v, ixV_lst, ixV_tup, ixV_scr, ixV_str, oAdd_v, addV_int, addV_str, addV_tup, addV_lst, oMul_v, mulV_int, mulV_lst, oLen_v, lenV_str, lenV_lst, lenV_tup, lenV_scr, oSl_v, slV_str, slV_tup, slV_lst, oIn_v, inV_lst, inV_tup, inV_sign, diSeq_v, seqV_lst, seqV_tup, seqV_str, fixW_d, fixW_c, fixV_frz, fixV_lst, fixV_dct, fixAll_nil, fixAll_cons]
          exact hK _ _ rfl (by simp [dropTo, poisonC, pot])
        subst hJ
        have eb : bools vs = some (vs.map fun _ => true) := by
          have : ∀ {xs : List W} {vs : List D}, Paired (fun _ y => y = D.bl true) xs vs → bools vs = some (vs.map fun _ => true) := by
            intro xs vs h
            induction h with
            | nil => rfl
            | cons h t ih => subst h; simp [bools, ih]
          exact this hp
        rw [eb]
        dsimp only
        rw [if_neg (by simp)]
        refine ⟨0, n, rfl, ⟨_, _, rfl, h1, h2⟩, n0, n1, fun y a' b' hy hyb g1 g2 => ?_⟩
        refine ⟨_, y, n, rfl, ⟨rfl, .inl rfl⟩, ⟨okd_up hy.1.1, hyb, hy.2.1, Nat.le_trans hy.2.2 (by decide)⟩, ?_⟩
        dsimp only
        rw [if_pos rfl]
        exact hnx _ _ ⟨a', b', _, _, _, _, ⟨g1, g2⟩, rfl, rfl⟩
  · obtain ⟨p, q, b, d, f, h, ⟨q0, q1⟩, rfl, rfl⟩ := hJ
    exact h2
theorem p__law_cell_right : ∀ ws cs Q E, sl__law_cell_right ws cs Q E → t__law_cell_right (endsD cs.length Q E) (startE N__law_cell_right ws) cs := by
  rintro ws cs Q E ⟨p, q, rfl, rfl, q0, q1, hq⟩
  have h := fun {p q n b d f h} (q0 : 0 ≤ q) (q1 : q < 2147483648) (n0 : 1 ≤ n) (n1 : n ≤ 3) => u1 (E := E) (p := p) (q := q) (b := b) (d := d) (f := f) (h := h) q0 q1 n0 n1 hq
  simp [dSeq, dIfS, dAsg, dIf, dTest, dOp2, dOp1, dOpN, dVar, dC, dCons, dNil, dgName, dRet, dRetN, dDrop, dNext, dLst, dTup, startE, endsD, oI, oInt1, oInt2, oNeg, oIs, oDivmod, dAnd, dOr, dNot, dAndV, dOrV, dNotV, dgSub, dgTup, dgCons, dgNil, oSetL, dPar, dPar3, dFor, diRange1, diRange2, dLc, dCall, dBM, isT, dSl, dP, dNoP, oEq, dChain, oRepr, oIsi, oBools, retD_d, isTy, dDict0, dDict, dPairs, isFl, isFls, isPy, isPys, isPyKV, look_d, look_c, lookC_lst, lookC_dct, lookC_frz, itM_some, oIx_v, ixV_lst, ixV_tup, ixV_scr, ixV_str, oAdd_v, addV_int, addV_str, addV_tup, addV_lst, oMul_v, mulV_int, mulV_lst, oLen_v, lenV_str, lenV_lst, lenV_tup, lenV_scr, oSl_v, slV_str, slV_tup, slV_lst, oIn_v, inV_lst, inV_tup, inV_sign, diSeq_v, seqV_lst, seqV_tup, seqV_str, fixW_d, fixW_c, fixV_frz, fixV_lst, fixV_dct, fixAll_nil, fixAll_cons, t__law_cell_right]
  refine drawC q0 q1 (by decide) (by decide) fun k p q k0 k1 q0 q1 => ?_
  simp [dSeq, dIfS, dAsg, dIf, dTest, dOp2, dOp1, dOpN, dVar, dC, dCons, dNil, dgName, dRet, dRetN, dDrop, dNext, dLst, dTup, startE, endsD, oI, oInt1, oInt2, oNeg, oIs, oDivmod, dAnd, dOr, dNot, dAndV, dOrV, dNotV, dgSub, dgTup, dgCons, dgNil, oSetL, dPar, dPar3, dFor, diRange1, diRange2, dLc, dCall, dBM, isT, dSl, dP, dNoP, oEq, dChain, oRepr, oIsi, oBools, retD_d, isTy, dDict0, dDict, dPairs, isFl, isFls, isPy, isPys, isPyKV, look_d, look_c, lookC_lst, lookC_dct, lookC_frz, itM_some, oIx_v, ixV_lst, ixV_tup, ixV_scr, ixV_str, oAdd_v, addV_int, addV_str, addV_tup, addV_lst, oMul_v, mulV_int, mulV_lst, oLen_v, lenV_str, lenV_lst, lenV_tup, lenV_scr, oSl_v, slV_str, slV_tup, slV_lst, oIn_v, inV_lst, inV_tup, inV_sign, diSeq_v, seqV_lst, seqV_tup, seqV_str, fixW_d, fixW_c, fixV_frz, fixV_lst, fixV_dct, fixAll_nil, fixAll_cons]
  exact h q0 q1 (by omega) (by omega)
end K31
namespace K31
open PySem PySem.Spec L2 DL
theorem p_law : ∀ ws cs Q E, closed cs → sp_law ws cs Q E → t_law (endsD cs.length Q E) (startE N_law ws) cs := by
  rintro ws cs Q E hc ⟨ns, rfl, rfl, hn, hq⟩
  simp [dSeq, dIfS, dAsg, dIf, dTest, dOp2, dOp1, dOpN, dVar, dC, dCons, dNil, dgName, dRet, dRetN, dDrop, dNext, dLst, dTup, startE, endsD, oI, oInt1, oInt2, oNeg, oIs, oDivmod, dAnd, dOr, dNot, dAndV, dOrV, dNotV, dgSub, dgTup, dgCons, dgNil, oSetL, dPar, dPar3, dFor, diRange1, diRange2, dLc, dCall, dBM, isT, dSl, dP, dNoP, oEq, dChain, oRepr, oIsi, oBools, retD_d, isTy, dDict0, dDict, dPairs, isFl, isFls, isPy, isPys, isPyKV, look_d, look_c, lookC_lst, lookC_dct, lookC_frz, itM_some, oIx_v, ixV_lst, ixV_tup, ixV_scr, ixV_str, oAdd_v, addV_int, addV_str, addV_tup, addV_lst, oMul_v, mulV_int, mulV_lst, oLen_v, lenV_str, lenV_lst, lenV_tup, lenV_scr, oSl_v, slV_str, slV_tup, slV_lst, oIn_v, inV_lst, inV_tup, inV_sign, diSeq_v, seqV_lst, seqV_tup, seqV_str, fixW_d, fixW_c, fixV_frz, fixV_lst, fixV_dct, fixAll_nil, fixAll_cons, t_law]
  generalize hN : (if 1 < if (ns.length : Int) < 4 then (ns.length : Int) else 4 then if (ns.length : Int) < 4 then (ns.length : Int) else 4 else 1) = N
  have hN1 : N ≤ 4 := by subst hN; split <;> split at * <;> omega
  have hN0 : 0 ≤ N := by subst hN; split <;> split at * <;> omega
  refine ⟨by omega, by omega, ?_⟩
  refine forD_inv (fun _ env c => c = [] ∧ ∃ a, env = [some (.d (.scr ns)), a]) (fun _ _ _ _ => True.intro) _ 0 _ [] ⟨rfl, none, rfl⟩ (fun j x hx env c hJ D' hrt hex hbk hnx hct => ?_) fun env c hJ => ?_
  · obtain ⟨rfl, a, rfl⟩ := hJ
    obtain ⟨j', hj, rfl⟩ : ∃ j' : Nat, (j' : Int) < N ∧ x = W.d (.int j') := by
      rw [List.getElem?_map] at hx
      cases e : (List.range N.toNat)[j]? with
      | none => rw [e] at hx; cases hx
      | some q =>
        rw [e] at hx
        have := List.mem_of_getElem? e
        simp at this
        exact ⟨q, by omega, by simpa using hx.symm⟩
    simp [dSeq, dIfS, dAsg, dIf, dTest, dOp2, dOp1, dOpN, dVar, dC, dCons, dNil, dgName, dRet, dRetN, dDrop, dNext, dLst, dTup, startE, endsD, oI, oInt1, oInt2, oNeg, oIs, oDivmod, dAnd, dOr, dNot, dAndV, dOrV, dNotV, dgSub, dgTup, dgCons, dgNil, oSetL, dPar, dPar3, dFor, diRange1, diRange2, dLc, dCall, dBM, isT, dSl, dP, dNoP, oEq, dChain, oRepr, oIsi, oBools, retD_d, isTy, dDict0, dDict, dPairs, isFl, isFls, isPy, isPys, isPyKV, look_d, look_c, lookC_lst, lookC_dct, lookC_frz, itM_some, oIx_v, ixV_lst, ixV_tup, ixV_scr, ixV_str, oAdd_v, addV_int, addV_str, addV_tup, addV_lst, oMul_v, mulV_int, mulV_lst, oLen_v, lenV_str, lenV_lst, lenV_tup, lenV_scr, oSl_v, slV_str, slV_tup, slV_lst, oIn_v, inV_lst, inV_tup, inV_sign, diSeq_v, seqV_lst, seqV_tup, seqV_str, fixW_d, fixW_c, fixV_frz, fixV_lst, fixV_dct, fixAll_nil, fixAll_cons, gcS]
    refine ⟨ns, j', rfl, by omega, by omega, fun a' b' b0 b1 => ?_⟩
    simp [sp__law_cell_right, loc, locAt, locJ, namesOf, refsC, pot, getCs, inJ, toLoc, toLocC, sl__law_cell_right]
    exact ⟨a', b', ⟨rfl, rfl⟩, b0, b1, fun p q => hnx _ _ ⟨rfl, _, rfl⟩⟩
  · obtain ⟨rfl, a, rfl⟩ := hJ
    simp [dSeq, dIfS, dAsg, dIf, dTest, dOp2, dOp1, dOpN, dVar, dC, dCons, dNil, dgName, dRet, dRetN, dDrop, dNext, dLst, dTup, startE, endsD, oI, oInt1, oInt2, oNeg, oIs, oDivmod, dAnd, dOr, dNot, dAndV, dOrV, dNotV, dgSub, dgTup, dgCons, dgNil, oSetL, dPar, dPar3, dFor, diRange1, diRange2, dLc, dCall, dBM, isT, dSl, dP, dNoP, oEq, dChain, oRepr, oIsi, oBools, retD_d, isTy, dDict0, dDict, dPairs, isFl, isFls, isPy, isPys, isPyKV, look_d, look_c, lookC_lst, lookC_dct, lookC_frz, itM_some, oIx_v, ixV_lst, ixV_tup, ixV_scr, ixV_str, oAdd_v, addV_int, addV_str, addV_tup, addV_lst, oMul_v, mulV_int, mulV_lst, oLen_v, lenV_str, lenV_lst, lenV_tup, lenV_scr, oSl_v, slV_str, slV_tup, slV_lst, oIn_v, inV_lst, inV_tup, inV_sign, diSeq_v, seqV_lst, seqV_tup, seqV_str, fixW_d, fixW_c, fixV_frz, fixV_lst, fixV_dct, fixAll_nil, fixAll_cons]
    exact hq _
theorem len__law_pot : ∀ ws cs Q E, sp__law_pot ws cs Q E → ws.length = 2 := by
  intro ws cs Q E h
  have h := h
  first
    | (obtain ⟨_, rfl, _⟩ := h; rfl)
    | (obtain ⟨_, _, rfl, _⟩ := h; rfl)
    | (obtain ⟨_, _, _, rfl, _⟩ := h; rfl)
    | (obtain ⟨_, _, _, _, rfl, _⟩ := h; rfl)
theorem len__law_draw : ∀ ws cs Q E, sp__law_draw ws cs Q E → ws.length = 2 := by
  intro ws cs Q E h
  have h := h
  first
    | (obtain ⟨_, rfl, _⟩ := h; rfl)
    | (obtain ⟨_, _, rfl, _⟩ := h; rfl)
    | (obtain ⟨_, _, _, rfl, _⟩ := h; rfl)
    | (obtain ⟨_, _, _, _, rfl, _⟩ := h; rfl)
theorem len__law_name : ∀ ws cs Q E, sp__law_name ws cs Q E → ws.length = 1 := by
  intro ws cs Q E h
  have h := h
  first
    | (obtain ⟨_, rfl, _⟩ := h; rfl)
    | (obtain ⟨_, _, rfl, _⟩ := h; rfl)
    | (obtain ⟨_, _, _, rfl, _⟩ := h; rfl)
    | (obtain ⟨_, _, _, _, rfl, _⟩ := h; rfl)
theorem len__law_step : ∀ ws cs Q E, sp__law_step ws cs Q E → ws.length = 2 := by
  intro ws cs Q E h
  have h := h
  first
    | (obtain ⟨_, rfl, _⟩ := h; rfl)
    | (obtain ⟨_, _, rfl, _⟩ := h; rfl)
    | (obtain ⟨_, _, _, rfl, _⟩ := h; rfl)
    | (obtain ⟨_, _, _, _, rfl, _⟩ := h; rfl)
theorem len__law_odd_argument : ∀ ws cs Q E, sp__law_odd_argument ws cs Q E → ws.length = 2 := by
  intro ws cs Q E h
  have h := h
  first
    | (obtain ⟨_, rfl, _⟩ := h; rfl)
    | (obtain ⟨_, _, rfl, _⟩ := h; rfl)
    | (obtain ⟨_, _, _, rfl, _⟩ := h; rfl)
    | (obtain ⟨_, _, _, _, rfl, _⟩ := h; rfl)
theorem len__law_odd_step : ∀ ws cs Q E, sp__law_odd_step ws cs Q E → ws.length = 2 := by
  intro ws cs Q E h
  have h := h
  first
    | (obtain ⟨_, rfl, _⟩ := h; rfl)
    | (obtain ⟨_, _, rfl, _⟩ := h; rfl)
    | (obtain ⟨_, _, _, rfl, _⟩ := h; rfl)
    | (obtain ⟨_, _, _, _, rfl, _⟩ := h; rfl)
theorem len__law_changed : ∀ ws cs Q E, sp__law_changed ws cs Q E → ws.length = 3 := by
  intro ws cs Q E h
  have h := h
  first
    | (obtain ⟨_, rfl, _⟩ := h; rfl)
    | (obtain ⟨_, _, rfl, _⟩ := h; rfl)
    | (obtain ⟨_, _, _, rfl, _⟩ := h; rfl)
    | (obtain ⟨_, _, _, _, rfl, _⟩ := h; rfl)
theorem len_is_index : ∀ ws cs Q E, sp_is_index ws cs Q E → ws.length = 2 := by
  intro ws cs Q E h
  have h := h
  first
    | (obtain ⟨_, rfl, _⟩ := h; rfl)
    | (obtain ⟨_, _, rfl, _⟩ := h; rfl)
    | (obtain ⟨_, _, _, rfl, _⟩ := h; rfl)
    | (obtain ⟨_, _, _, _, rfl, _⟩ := h; rfl)
theorem len_is_name : ∀ ws cs Q E, sp_is_name ws cs Q E → ws.length = 1 := by
  intro ws cs Q E h
  have h := h
  first
    | (obtain ⟨_, rfl, _⟩ := h; rfl)
    | (obtain ⟨_, _, rfl, _⟩ := h; rfl)
    | (obtain ⟨_, _, _, rfl, _⟩ := h; rfl)
    | (obtain ⟨_, _, _, _, rfl, _⟩ := h; rfl)
theorem len__law_is_word : ∀ ws cs Q E, sp__law_is_word ws cs Q E → ws.length = 1 := by
  intro ws cs Q E h
  have h := h
  first
    | (obtain ⟨_, rfl, _⟩ := h; rfl)
    | (obtain ⟨_, _, rfl, _⟩ := h; rfl)
    | (obtain ⟨_, _, _, rfl, _⟩ := h; rfl)
    | (obtain ⟨_, _, _, _, rfl, _⟩ := h; rfl)
theorem len_are_arguments : ∀ ws cs Q E, sp_are_arguments ws cs Q E → ws.length = 2 := by
  intro ws cs Q E h
  have h := h
  first
    | (obtain ⟨_, rfl, _⟩ := h; rfl)
    | (obtain ⟨_, _, rfl, _⟩ := h; rfl)
    | (obtain ⟨_, _, _, rfl, _⟩ := h; rfl)
    | (obtain ⟨_, _, _, _, rfl, _⟩ := h; rfl)
theorem len__law_is_argument : ∀ ws cs Q E, sp__law_is_argument ws cs Q E → ws.length = 2 := by
  intro ws cs Q E h
  have h := h
  first
    | (obtain ⟨_, rfl, _⟩ := h; rfl)
    | (obtain ⟨_, _, rfl, _⟩ := h; rfl)
    | (obtain ⟨_, _, _, rfl, _⟩ := h; rfl)
    | (obtain ⟨_, _, _, _, rfl, _⟩ := h; rfl)
theorem len_is_step : ∀ ws cs Q E, sp_is_step ws cs Q E → ws.length = 2 := by
  intro ws cs Q E h
  have h := h
  first
    | (obtain ⟨_, rfl, _⟩ := h; rfl)
    | (obtain ⟨_, _, rfl, _⟩ := h; rfl)
    | (obtain ⟨_, _, _, rfl, _⟩ := h; rfl)
    | (obtain ⟨_, _, _, _, rfl, _⟩ := h; rfl)
theorem len__law_is_step : ∀ ws cs Q E, sp__law_is_step ws cs Q E → ws.length = 2 := by
  intro ws cs Q E h
  have h := h
  first
    | (obtain ⟨_, rfl, _⟩ := h; rfl)
    | (obtain ⟨_, _, rfl, _⟩ := h; rfl)
    | (obtain ⟨_, _, _, rfl, _⟩ := h; rfl)
    | (obtain ⟨_, _, _, _, rfl, _⟩ := h; rfl)
theorem len_is_body : ∀ ws cs Q E, sp_is_body ws cs Q E → ws.length = 2 := by
  intro ws cs Q E h
  have h := h
  first
    | (obtain ⟨_, rfl, _⟩ := h; rfl)
    | (obtain ⟨_, _, rfl, _⟩ := h; rfl)
    | (obtain ⟨_, _, _, rfl, _⟩ := h; rfl)
    | (obtain ⟨_, _, _, _, rfl, _⟩ := h; rfl)
theorem len__law_is_body : ∀ ws cs Q E, sp__law_is_body ws cs Q E → ws.length = 2 := by
  intro ws cs Q E h
  have h := h
  first
    | (obtain ⟨_, rfl, _⟩ := h; rfl)
    | (obtain ⟨_, _, rfl, _⟩ := h; rfl)
    | (obtain ⟨_, _, _, rfl, _⟩ := h; rfl)
    | (obtain ⟨_, _, _, _, rfl, _⟩ := h; rfl)
theorem len__law_right : ∀ ws cs Q E, sp__law_right ws cs Q E → ws.length = 2 := by
  intro ws cs Q E h
  have h := h
  first
    | (obtain ⟨_, rfl, _⟩ := h; rfl)
    | (obtain ⟨_, _, rfl, _⟩ := h; rfl)
    | (obtain ⟨_, _, _, rfl, _⟩ := h; rfl)
    | (obtain ⟨_, _, _, _, rfl, _⟩ := h; rfl)
theorem len__law_cell_right : ∀ ws cs Q E, sl__law_cell_right ws cs Q E → ws.length = 1 := by
  intro ws cs Q E h
  have h := h
  first
    | (obtain ⟨_, rfl, _⟩ := h; rfl)
    | (obtain ⟨_, _, rfl, _⟩ := h; rfl)
    | (obtain ⟨_, _, _, rfl, _⟩ := h; rfl)
    | (obtain ⟨_, _, _, _, rfl, _⟩ := h; rfl)
theorem len_law : ∀ ws cs Q E, sp_law ws cs Q E → ws.length = 1 := by
  intro ws cs Q E h
  have h := h
  first
    | (obtain ⟨_, rfl, _⟩ := h; rfl)
    | (obtain ⟨_, _, rfl, _⟩ := h; rfl)
    | (obtain ⟨_, _, _, rfl, _⟩ := h; rfl)
    | (obtain ⟨_, _, _, _, rfl, _⟩ := h; rfl)
theorem law_sp (ns : List Int) (hn : ns.length ≤ 63) : sp_law [.d (.scr ns)] [] (fun w _ => w = .d (.bl true)) fun _ _ => False := ⟨ns, rfl, rfl, hn, fun _ => rfl⟩
end K31
namespace K31
open PySem PySem.Spec L2 DL
open PyProof.Rows (envOfC)
def top (i : Nat) : Stmt := PySem.Challenge.pw_fewestmethods_k31_bodies_judged.main.body.getD i (.Pass ⟨0, 0, 0, 0⟩)
/-- what the head tells -/
structure Fx (K : PySem.W.Frag) (mg : Str → Option Value) where
  a__law_draw : Addr
  d__law_draw : FuncData
  F__law_draw : FunD K "_law_draw" "_law_draw" (defArgs (top 15)) (defBody (top 15)) (defScope (top 15)) [] [] a__law_draw d__law_draw
  g__law_draw : mg "_law_draw" = some (.ref a__law_draw)
  a__law_odd_argument : Addr
  d__law_odd_argument : FuncData
  F__law_odd_argument : FunD K "_law_odd_argument" "_law_odd_argument" (defArgs (top 18)) (defBody (top 18)) (defScope (top 18)) [] [] a__law_odd_argument d__law_odd_argument
  g__law_odd_argument : mg "_law_odd_argument" = some (.ref a__law_odd_argument)
  a__law_odd_step : Addr
  d__law_odd_step : FuncData
  F__law_odd_step : FunD K "_law_odd_step" "_law_odd_step" (defArgs (top 19)) (defBody (top 19)) (defScope (top 19)) [] [] a__law_odd_step d__law_odd_step
  g__law_odd_step : mg "_law_odd_step" = some (.ref a__law_odd_step)
  a__law_changed : Addr
  d__law_changed : FuncData
  F__law_changed : FunD K "_law_changed" "_law_changed" (defArgs (top 20)) (defBody (top 20)) (defScope (top 20)) [] [] a__law_changed d__law_changed
  g__law_changed : mg "_law_changed" = some (.ref a__law_changed)
  a__law_is_word : Addr
  d__law_is_word : FuncData
  F__law_is_word : FunD K "_law_is_word" "_law_is_word" (defArgs (top 21)) (defBody (top 21)) (defScope (top 21)) [] [] a__law_is_word d__law_is_word
  g__law_is_word : mg "_law_is_word" = some (.ref a__law_is_word)
  a__law_is_argument : Addr
  d__law_is_argument : FuncData
  F__law_is_argument : FunD K "_law_is_argument" "_law_is_argument" (defArgs (top 22)) (defBody (top 22)) (defScope (top 22)) [] [] a__law_is_argument d__law_is_argument
  g__law_is_argument : mg "_law_is_argument" = some (.ref a__law_is_argument)
  a__law_is_step : Addr
  d__law_is_step : FuncData
  F__law_is_step : FunD K "_law_is_step" "_law_is_step" (defArgs (top 23)) (defBody (top 23)) (defScope (top 23)) [] [] a__law_is_step d__law_is_step
  g__law_is_step : mg "_law_is_step" = some (.ref a__law_is_step)
  a__law_is_body : Addr
  d__law_is_body : FuncData
  F__law_is_body : FunD K "_law_is_body" "_law_is_body" (defArgs (top 24)) (defBody (top 24)) (defScope (top 24)) [] [] a__law_is_body d__law_is_body
  g__law_is_body : mg "_law_is_body" = some (.ref a__law_is_body)
  a_is_index : Addr
  d_is_index : FuncData
  F_is_index : FunD K "is_index" "is_index" (defArgs (top 9)) (defBody (top 9)) (defScope (top 9)) [] [] a_is_index d_is_index
  g_is_index : mg "is_index" = some (.ref a_is_index)
  a_is_name : Addr
  d_is_name : FuncData
  F_is_name : FunD K "is_name" "is_name" (defArgs (top 3)) (defBody (top 3)) (defScope (top 3)) [] [] a_is_name d_is_name
  g_is_name : mg "is_name" = some (.ref a_is_name)
  a_are_arguments : Addr
  d_are_arguments : FuncData
  F_are_arguments : FunD K "are_arguments" "are_arguments" (defArgs (top 10)) (defBody (top 10)) (defScope (top 10)) [] [] a_are_arguments d_are_arguments
  g_are_arguments : mg "are_arguments" = some (.ref a_are_arguments)
  a_is_step : Addr
  d_is_step : FuncData
  F_is_step : FunD K "is_step" "is_step" (defArgs (top 11)) (defBody (top 11)) (defScope (top 11)) [] [] a_is_step d_is_step
  g_is_step : mg "is_step" = some (.ref a_is_step)
  a_is_body : Addr
  d_is_body : FuncData
  F_is_body : FunD K "is_body" "is_body" (defArgs (top 12)) (defBody (top 12)) (defScope (top 12)) [] [] a_is_body d_is_body
  g_is_body : mg "is_body" = some (.ref a_is_body)
  a__law_right : Addr
  d__law_right : FuncData
  F__law_right : FunD K "_law_right" "_law_right" (defArgs (top 25)) (defBody (top 25)) (defScope (top 25)) [] [] a__law_right d__law_right
  g__law_right : mg "_law_right" = some (.ref a__law_right)
  a__law_name : Addr
  d__law_name : FuncData
  F__law_name : FunD K "_law_name" "_law_name" (defArgs (top 16)) (defBody (top 16)) (defScope (top 16)) [] [] a__law_name d__law_name
  g__law_name : mg "_law_name" = some (.ref a__law_name)
  a__law_step : Addr
  d__law_step : FuncData
  F__law_step : FunD K "_law_step" "_law_step" (defArgs (top 17)) (defBody (top 17)) (defScope (top 17)) [] [] a__law_step d__law_step
  g__law_step : mg "_law_step" = some (.ref a__law_step)
  a__law_cell_right : Addr
  d__law_cell_right : FuncData
  F__law_cell_right : FunD K "_law_cell_right" "_law_cell_right" (defArgs (top 26)) (defBody (top 26)) (defScope (top 26)) [] [] a__law_cell_right d__law_cell_right
  g__law_cell_right : mg "_law_cell_right" = some (.ref a__law_cell_right)
  a__law_pot : Addr
  d__law_pot : FuncData
  F__law_pot : FunD K "_law_pot" "_law_pot" (defArgs (top 14)) (defBody (top 14)) (defScope (top 14)) [] [] a__law_pot d__law_pot
  g__law_pot : mg "_law_pot" = some (.ref a__law_pot)
  a_law : Addr
  d_law : FuncData
  F_law : FunD K "law" "law" (defArgs (top 27)) (defBody (top 27)) (defScope (top 27)) [] [] a_law d_law
  g_law : mg "law" = some (.ref a_law)
  u_CALL : Value
  m_CALL : mg "CALL" = some u_CALL
  v_CALL : ∃ t, u_CALL = .str "call" t
  u_LETTERS : Value
  m_LETTERS : mg "LETTERS" = some u_LETTERS
  v_LETTERS : ∃ t, u_LETTERS = .str "abcdefghijklmnopqrstuvwxyz" t
  u_MAX_ARGUMENTS : Value
  m_MAX_ARGUMENTS : mg "MAX_ARGUMENTS" = some u_MAX_ARGUMENTS
  v_MAX_ARGUMENTS : ∃ t, u_MAX_ARGUMENTS = .int 3 t
  u_MAX_NAME_LENGTH : Value
  m_MAX_NAME_LENGTH : mg "MAX_NAME_LENGTH" = some u_MAX_NAME_LENGTH
  v_MAX_NAME_LENGTH : ∃ t, u_MAX_NAME_LENGTH = .int 8 t
  m_NEXT_STEP : mg "NEXT_STEP" = some (.ref (He.ga K "NEXT_STEP"))
  v_NEXT_STEP : tupM K "NEXT_STEP" (List.map V.str ["next"]) = true
  u_SAY : Value
  m_SAY : mg "SAY" = some u_SAY
  v_SAY : ∃ t, u_SAY = .str "say" t
  n_abs : mg "abs" = none
  n_all : mg "all" = none
  n_bool : mg "bool" = none
  n_divmod : mg "divmod" = none
  n_enumerate : mg "enumerate" = none
  n_int : mg "int" = none
  n_isinstance : mg "isinstance" = none
  n_len : mg "len" = none
  n_list : mg "list" = none
  n_max : mg "max" = none
  n_min : mg "min" = none
  n_range : mg "range" = none
  n_repr : mg "repr" = none
  n_str : mg "str" = none
  n_tuple : mg "tuple" = none
/-- the plain laws, as the walks need them -/
structure Pures : Prop where
  l__law_draw : ∀ ws cs Q E, sp__law_draw ws cs Q E → ws.length = 2
  p__law_draw : ∀ ws cs Q E, closed cs → sp__law_draw ws cs Q E → t__law_draw (endsD cs.length Q E) (startE N__law_draw ws) cs
  l__law_odd_argument : ∀ ws cs Q E, sp__law_odd_argument ws cs Q E → ws.length = 2
  p__law_odd_argument : ∀ ws cs Q E, closed cs → sp__law_odd_argument ws cs Q E → t__law_odd_argument (endsD cs.length Q E) (startE N__law_odd_argument ws) cs
  l__law_odd_step : ∀ ws cs Q E, sp__law_odd_step ws cs Q E → ws.length = 2
  p__law_odd_step : ∀ ws cs Q E, closed cs → sp__law_odd_step ws cs Q E → t__law_odd_step (endsD cs.length Q E) (startE N__law_odd_step ws) cs
  l__law_changed : ∀ ws cs Q E, sp__law_changed ws cs Q E → ws.length = 3
  p__law_changed : ∀ ws cs Q E, closed cs → sp__law_changed ws cs Q E → t__law_changed (endsD cs.length Q E) (startE N__law_changed ws) cs
  l__law_is_word : ∀ ws cs Q E, sp__law_is_word ws cs Q E → ws.length = 1
  p__law_is_word : ∀ ws cs Q E, closed cs → sp__law_is_word ws cs Q E → t__law_is_word (endsD cs.length Q E) (startE N__law_is_word ws) cs
  l__law_is_argument : ∀ ws cs Q E, sp__law_is_argument ws cs Q E → ws.length = 2
  p__law_is_argument : ∀ ws cs Q E, closed cs → sp__law_is_argument ws cs Q E → t__law_is_argument (endsD cs.length Q E) (startE N__law_is_argument ws) cs
  l__law_is_step : ∀ ws cs Q E, sp__law_is_step ws cs Q E → ws.length = 2
  p__law_is_step : ∀ ws cs Q E, closed cs → sp__law_is_step ws cs Q E → t__law_is_step (endsD cs.length Q E) (startE N__law_is_step ws) cs
  l__law_is_body : ∀ ws cs Q E, sp__law_is_body ws cs Q E → ws.length = 2
  p__law_is_body : ∀ ws cs Q E, closed cs → sp__law_is_body ws cs Q E → t__law_is_body (endsD cs.length Q E) (startE N__law_is_body ws) cs
  l_is_index : ∀ ws cs Q E, sp_is_index ws cs Q E → ws.length = 2
  p_is_index : ∀ ws cs Q E, closed cs → sp_is_index ws cs Q E → t_is_index (endsD cs.length Q E) (startE N_is_index ws) cs
  l_is_name : ∀ ws cs Q E, sp_is_name ws cs Q E → ws.length = 1
  p_is_name : ∀ ws cs Q E, closed cs → sp_is_name ws cs Q E → t_is_name (endsD cs.length Q E) (startE N_is_name ws) cs
  l_are_arguments : ∀ ws cs Q E, sp_are_arguments ws cs Q E → ws.length = 2
  p_are_arguments : ∀ ws cs Q E, closed cs → sp_are_arguments ws cs Q E → t_are_arguments (endsD cs.length Q E) (startE N_are_arguments ws) cs
  l_is_step : ∀ ws cs Q E, sp_is_step ws cs Q E → ws.length = 2
  p_is_step : ∀ ws cs Q E, closed cs → sp_is_step ws cs Q E → t_is_step (endsD cs.length Q E) (startE N_is_step ws) cs
  l_is_body : ∀ ws cs Q E, sp_is_body ws cs Q E → ws.length = 2
  p_is_body : ∀ ws cs Q E, closed cs → sp_is_body ws cs Q E → t_is_body (endsD cs.length Q E) (startE N_is_body ws) cs
  l__law_right : ∀ ws cs Q E, sp__law_right ws cs Q E → ws.length = 2
  p__law_right : ∀ ws cs Q E, closed cs → sp__law_right ws cs Q E → t__law_right (endsD cs.length Q E) (startE N__law_right ws) cs
  l__law_name : ∀ ws cs Q E, sp__law_name ws cs Q E → ws.length = 1
  p__law_name : ∀ ws cs Q E, closed cs → sp__law_name ws cs Q E → t__law_name (endsD cs.length Q E) (startE N__law_name ws) cs
  l__law_step : ∀ ws cs Q E, sp__law_step ws cs Q E → ws.length = 2
  p__law_step : ∀ ws cs Q E, closed cs → sp__law_step ws cs Q E → t__law_step (endsD cs.length Q E) (startE N__law_step ws) cs
  l__law_cell_right : ∀ ws cs Q E, sl__law_cell_right ws cs Q E → ws.length = 1
  p__law_cell_right : ∀ ws cs Q E, sl__law_cell_right ws cs Q E → t__law_cell_right (endsD cs.length Q E) (startE N__law_cell_right ws) cs
  l__law_pot : ∀ ws cs Q E, sp__law_pot ws cs Q E → ws.length = 2
  p__law_pot : ∀ ws cs Q E, closed cs → sp__law_pot ws cs Q E → t__law_pot (endsD cs.length Q E) (startE N__law_pot ws) cs
  l_law : ∀ ws cs Q E, sp_law ws cs Q E → ws.length = 1
  p_law : ∀ ws cs Q E, closed cs → sp_law ws cs Q E → t_law (endsD cs.length Q E) (startE N_law ws) cs
abbrev gm (K : PySem.W.Frag) (w : World) : Gam := ⟨K, w, fun _ => none⟩
section
variable {P : Program} {w : World} {K : PySem.W.Frag} {mg : Str → Option Value} {base : Heap}
theorem sc__law_draw : FnScope N__law_draw ["_law_pot_here", "_law_many"] (defScope (top 15)) := ⟨rfl, rfl, rfl, by decide +kernel, rfl, by decide +kernel, by decide +kernel⟩
theorem pos__law_draw (Z : Fx K mg) : BindD (gm K w) Z.d__law_draw ["_law_pot_here", "_law_many"] 2 [] (fun us _ => us) := BindD.pos (Z.F__law_draw.bindsN fun _ _ _ _ _ _ us hl => match us, hl with | [_, _], _ => rfl)
theorem sc__law_odd_argument : FnScope N__law_odd_argument ["_law_pot_here", "_law_amount"] (defScope (top 18)) := ⟨rfl, rfl, rfl, by decide +kernel, rfl, by decide +kernel, by decide +kernel⟩
theorem pos__law_odd_argument (Z : Fx K mg) : BindD (gm K w) Z.d__law_odd_argument ["_law_pot_here", "_law_amount"] 2 [] (fun us _ => us) := BindD.pos (Z.F__law_odd_argument.bindsN fun _ _ _ _ _ _ us hl => match us, hl with | [_, _], _ => rfl)
theorem sc__law_odd_step : FnScope N__law_odd_step ["_law_pot_here", "_law_amount"] (defScope (top 19)) := ⟨rfl, rfl, rfl, by decide +kernel, rfl, by decide +kernel, by decide +kernel⟩
theorem pos__law_odd_step (Z : Fx K mg) : BindD (gm K w) Z.d__law_odd_step ["_law_pot_here", "_law_amount"] 2 [] (fun us _ => us) := BindD.pos (Z.F__law_odd_step.bindsN fun _ _ _ _ _ _ us hl => match us, hl with | [_, _], _ => rfl)
theorem sc__law_changed : FnScope N__law_changed ["_law_pot_here", "_law_steps", "_law_amount"] (defScope (top 20)) := ⟨rfl, rfl, rfl, by decide +kernel, rfl, by decide +kernel, by decide +kernel⟩
theorem pos__law_changed (Z : Fx K mg) : BindD (gm K w) Z.d__law_changed ["_law_pot_here", "_law_steps", "_law_amount"] 3 [] (fun us _ => us) := BindD.pos (Z.F__law_changed.bindsN fun _ _ _ _ _ _ us hl => match us, hl with | [_, _, _], _ => rfl)
theorem sc__law_is_word : FnScope N__law_is_word ["_law_thing"] (defScope (top 21)) := ⟨rfl, rfl, rfl, by decide +kernel, rfl, by decide +kernel, by decide +kernel⟩
theorem pos__law_is_word (Z : Fx K mg) : BindD (gm K w) Z.d__law_is_word ["_law_thing"] 1 [] (fun us _ => us) := BindD.pos (Z.F__law_is_word.bindsN fun _ _ _ _ _ _ us hl => match us, hl with | [_], _ => rfl)
theorem sc__law_is_argument : FnScope N__law_is_argument ["_law_thing", "_law_amount"] (defScope (top 22)) := ⟨rfl, rfl, rfl, by decide +kernel, rfl, by decide +kernel, by decide +kernel⟩
theorem pos__law_is_argument (Z : Fx K mg) : BindD (gm K w) Z.d__law_is_argument ["_law_thing", "_law_amount"] 2 [] (fun us _ => us) := BindD.pos (Z.F__law_is_argument.bindsN fun _ _ _ _ _ _ us hl => match us, hl with | [_, _], _ => rfl)
theorem sc__law_is_step : FnScope N__law_is_step ["_law_thing", "_law_amount"] (defScope (top 23)) := ⟨rfl, rfl, rfl, by decide +kernel, rfl, by decide +kernel, by decide +kernel⟩
theorem pos__law_is_step (Z : Fx K mg) : BindD (gm K w) Z.d__law_is_step ["_law_thing", "_law_amount"] 2 [] (fun us _ => us) := BindD.pos (Z.F__law_is_step.bindsN fun _ _ _ _ _ _ us hl => match us, hl with | [_, _], _ => rfl)
theorem sc__law_is_body : FnScope N__law_is_body ["_law_thing", "_law_amount"] (defScope (top 24)) := ⟨rfl, rfl, rfl, by decide +kernel, rfl, by decide +kernel, by decide +kernel⟩
theorem pos__law_is_body (Z : Fx K mg) : BindD (gm K w) Z.d__law_is_body ["_law_thing", "_law_amount"] 2 [] (fun us _ => us) := BindD.pos (Z.F__law_is_body.bindsN fun _ _ _ _ _ _ us hl => match us, hl with | [_, _], _ => rfl)
theorem sc_is_index : FnScope N_is_index ["value", "count"] (defScope (top 9)) := ⟨rfl, rfl, rfl, by decide +kernel, rfl, by decide +kernel, by decide +kernel⟩
theorem pos_is_index (Z : Fx K mg) : BindD (gm K w) Z.d_is_index ["value", "count"] 2 [] (fun us _ => us) := BindD.pos (Z.F_is_index.bindsN fun _ _ _ _ _ _ us hl => match us, hl with | [_, _], _ => rfl)
theorem sc_is_name : FnScope N_is_name ["value"] (defScope (top 3)) := ⟨rfl, rfl, rfl, by decide +kernel, rfl, by decide +kernel, by decide +kernel⟩
theorem pos_is_name (Z : Fx K mg) : BindD (gm K w) Z.d_is_name ["value"] 1 [] (fun us _ => us) := BindD.pos (Z.F_is_name.bindsN fun _ _ _ _ _ _ us hl => match us, hl with | [_], _ => rfl)
theorem sc_are_arguments : FnScope N_are_arguments ["value", "count"] (defScope (top 10)) := ⟨rfl, rfl, rfl, by decide +kernel, rfl, by decide +kernel, by decide +kernel⟩
theorem pos_are_arguments (Z : Fx K mg) : BindD (gm K w) Z.d_are_arguments ["value", "count"] 2 [] (fun us _ => us) := BindD.pos (Z.F_are_arguments.bindsN fun _ _ _ _ _ _ us hl => match us, hl with | [_, _], _ => rfl)
theorem sc_is_step : FnScope N_is_step ["value", "count"] (defScope (top 11)) := ⟨rfl, rfl, rfl, by decide +kernel, rfl, by decide +kernel, by decide +kernel⟩
theorem pos_is_step (Z : Fx K mg) : BindD (gm K w) Z.d_is_step ["value", "count"] 2 [] (fun us _ => us) := BindD.pos (Z.F_is_step.bindsN fun _ _ _ _ _ _ us hl => match us, hl with | [_, _], _ => rfl)
theorem sc_is_body : FnScope N_is_body ["value", "count"] (defScope (top 12)) := ⟨rfl, rfl, rfl, by decide +kernel, rfl, by decide +kernel, by decide +kernel⟩
theorem pos_is_body (Z : Fx K mg) : BindD (gm K w) Z.d_is_body ["value", "count"] 2 [] (fun us _ => us) := BindD.pos (Z.F_is_body.bindsN fun _ _ _ _ _ _ us hl => match us, hl with | [_, _], _ => rfl)
theorem sc__law_right : FnScope N__law_right ["_law_thing", "_law_amount"] (defScope (top 25)) := ⟨rfl, rfl, rfl, by decide +kernel, rfl, by decide +kernel, by decide +kernel⟩
theorem pos__law_right (Z : Fx K mg) : BindD (gm K w) Z.d__law_right ["_law_thing", "_law_amount"] 2 [] (fun us _ => us) := BindD.pos (Z.F__law_right.bindsN fun _ _ _ _ _ _ us hl => match us, hl with | [_, _], _ => rfl)
theorem sc__law_name : FnScope N__law_name ["_law_pot_here"] (defScope (top 16)) := ⟨rfl, rfl, rfl, by decide +kernel, rfl, by decide +kernel, by decide +kernel⟩
theorem pos__law_name (Z : Fx K mg) : BindD (gm K w) Z.d__law_name ["_law_pot_here"] 1 [] (fun us _ => us) := BindD.pos (Z.F__law_name.bindsN fun _ _ _ _ _ _ us hl => match us, hl with | [_], _ => rfl)
theorem sc__law_step : FnScope N__law_step ["_law_pot_here", "_law_amount"] (defScope (top 17)) := ⟨rfl, rfl, rfl, by decide +kernel, rfl, by decide +kernel, by decide +kernel⟩
theorem pos__law_step (Z : Fx K mg) : BindD (gm K w) Z.d__law_step ["_law_pot_here", "_law_amount"] 2 [] (fun us _ => us) := BindD.pos (Z.F__law_step.bindsN fun _ _ _ _ _ _ us hl => match us, hl with | [_, _], _ => rfl)
theorem sc__law_cell_right : FnScope N__law_cell_right ["_law_pot_here"] (defScope (top 26)) := ⟨rfl, rfl, rfl, by decide +kernel, rfl, by decide +kernel, by decide +kernel⟩
theorem pos__law_cell_right (Z : Fx K mg) : BindD (gm K w) Z.d__law_cell_right ["_law_pot_here"] 1 [] (fun us _ => us) := BindD.pos (Z.F__law_cell_right.bindsN fun _ _ _ _ _ _ us hl => match us, hl with | [_], _ => rfl)
theorem sc__law_pot : FnScope N__law_pot ["_law_script", "_law_k"] (defScope (top 14)) := ⟨rfl, rfl, rfl, by decide +kernel, rfl, by decide +kernel, by decide +kernel⟩
theorem pos__law_pot (Z : Fx K mg) : BindD (gm K w) Z.d__law_pot ["_law_script", "_law_k"] 2 [] (fun us _ => us) := BindD.pos (Z.F__law_pot.bindsN fun _ _ _ _ _ _ us hl => match us, hl with | [_, _], _ => rfl)
theorem sc_law : FnScope N_law ["_law_script"] (defScope (top 27)) := ⟨rfl, rfl, rfl, by decide +kernel, rfl, by decide +kernel, by decide +kernel⟩
theorem bgw_is_body_0_count_value (Z : Fx K mg) : BindD (gm K w) Z.d_is_body ["value", "count"] 0 ["count", "value"] gw_is_body_0_count_value := bindK Z.F_is_body 0 ["count", "value"] gw_is_body_0_count_value
  (fun {_ _ _ a c b d} l1 l2 r1 r2 => match a, c, l1, l2, b, d, r1, r2 with | [], [w0, w1], _, _, _, _, .nil, .cons j0 (.cons j1 (.nil)) => .cons j1 (.cons j0 (.nil)))
  (fun _ _ _ _ _ _ us zs l1 l2 => match us, zs, l1, l2 with | [], [w0, w1], _, _ => rfl)
theorem b__law_draw (U : Pures) (Z : Fx K mg) (hm : (base.get? sysModules).isSome = true) {cdv : Value} {A : Around} {outer : List PySem.Env} {s : Shared} {H : Hp} {E : XK} (hgd : A.guards = some []) (hr : Room 0 (A.deeper (envOfC "_law_draw" (defScope (top 15)) s.heap.objs.size Z.a__law_draw cdv))) :
    DSs (cxOf (L2.CX P w) P w K mg base N__law_draw "_law_draw" (defScope (top 15)) Z.a__law_draw cdv A outer s H E) (gm K w) (fun c d _ H => E c d H) (defBody (top 15)) t__law_draw :=
  s_cons (s_if (t_cmp o_gt (e_sub (x_ix rfl) (ev 0) (e_int) (fun _ _ => rfl)) (e_int) (nomark _)) (s_cons (s_asg (vs := [2]) (e_callB (c_divmod) rfl Z.n_divmod bo_divmod (a_cons (e_sub (x_ix rfl) (ev 0) (e_int) (fun _ _ => rfl)) (a_cons (ev 1) (a_nil)))) (g_tup rfl rfl (gs_cons (g_sub (ev 0) (e_int) st_list) (gs_cons (g_name (i := 2) sc__law_draw.nd rfl (by first | exact Or.inl rfl | exact Or.inr rfl) (hv := by decide)) (gs_nil)))))
  (s_one (s_ret (ev 2)))) (s_nil))
  (s_cons (s_asg (vs := []) (e_bin o_mod (e_bin (o_add rfl) (e_bin o_mul (e_sub (x_ix rfl) (ev 0) (e_int) (fun _ _ => rfl)) (e_int)) (e_int)) (e_int)) (g_sub (ev 0) (e_int) st_list))
  (s_one (s_ret (e_bin o_mod (e_bin o_fdiv (e_bin o_mod (e_bin o_mul (e_sub (x_ix rfl) (ev 0) (e_int) (fun _ _ => rfl)) (e_sub (x_ix rfl) (ev 0) (e_int) (fun _ _ => rfl))) (e_int)) (e_int)) (ev 1)))))
theorem fn__law_draw (U : Pures) (Z : Fx K mg) (hm : (base.get? sysModules).isSome = true) : FnD P w K mg base (gm K w) 1 Z.a__law_draw Z.d__law_draw ["_law_pot_here", "_law_many"] sp__law_draw :=
  fnD_of Z.F__law_draw sc__law_draw U.l__law_draw (fun cdv A outer s H E hgd hr => b__law_draw U Z hm hgd hr) U.p__law_draw
theorem b__law_odd_argument (U : Pures) (Z : Fx K mg) (hm : (base.get? sysModules).isSome = true) {cdv : Value} {A : Around} {outer : List PySem.Env} {s : Shared} {H : Hp} {E : XK} (hgd : A.guards = some []) (hr : Room 1 (A.deeper (envOfC "_law_odd_argument" (defScope (top 18)) s.heap.objs.size Z.a__law_odd_argument cdv))) :
    DSs (cxOf (L2.CX P w) P w K mg base N__law_odd_argument "_law_odd_argument" (defScope (top 18)) Z.a__law_odd_argument cdv A outer s H E) (gm K w) (fun c d _ H => E c d H) (defBody (top 18)) t__law_odd_argument :=
  s_cons (s_set (i := 2) sc__law_odd_argument.nd rfl (by first | exact Or.inl rfl | exact Or.inr rfl) (e_lst (a_cons (e_non) (a_cons (e_bl) (a_cons (e_bl) (a_cons (e_un o_neg (e_int)) (a_cons (ev 1) (a_cons (e_bin o_pow (e_int) (e_int)) (a_cons (e_str) (a_cons (e_str) (a_cons (e_str) (a_cons (e_str) (a_cons (e_tup (a_nil)) (a_cons (e_lst (a_nil)) (a_cons (e_dict0) (a_cons (e_tup (a_cons (e_int) (a_nil))) (a_cons (e_str) (a_nil))))))))))))))))))
  (s_one (s_ret (e_sub (x_ix rfl) (ev 2) (e_call (fn__law_draw U Z hm) hgd (hr.mono (by decide)) (takes_of rfl rfl rfl rfl) rfl rfl Z.g__law_draw Z.F__law_draw.kp (pos__law_draw Z) (a_cons (ev 0) (a_cons (e_callB (c_len rfl) rfl Z.n_len bo_len (a_cons (ev 2) (a_nil))) (a_nil)))) (fun _ _ => rfl))))
theorem fn__law_odd_argument (U : Pures) (Z : Fx K mg) (hm : (base.get? sysModules).isSome = true) : FnD P w K mg base (gm K w) 2 Z.a__law_odd_argument Z.d__law_odd_argument ["_law_pot_here", "_law_amount"] sp__law_odd_argument :=
  fnD_of Z.F__law_odd_argument sc__law_odd_argument U.l__law_odd_argument (fun cdv A outer s H E hgd hr => b__law_odd_argument U Z hm hgd hr) U.p__law_odd_argument
theorem b__law_odd_step (U : Pures) (Z : Fx K mg) (hm : (base.get? sysModules).isSome = true) {cdv : Value} {A : Around} {outer : List PySem.Env} {s : Shared} {H : Hp} {E : XK} (hgd : A.guards = some []) (hr : Room 2 (A.deeper (envOfC "_law_odd_step" (defScope (top 19)) s.heap.objs.size Z.a__law_odd_step cdv))) :
    DSs (cxOf (L2.CX P w) P w K mg base N__law_odd_step "_law_odd_step" (defScope (top 19)) Z.a__law_odd_step cdv A outer s H E) (gm K w) (fun c d _ H => E c d H) (defBody (top 19)) t__law_odd_step :=
  s_cons (s_set (i := 2) sc__law_odd_step.nd rfl (by first | exact Or.inl rfl | exact Or.inr rfl) (e_call (fn__law_odd_argument U Z hm) hgd (hr.mono (by decide)) (takes_of rfl rfl rfl rfl) rfl rfl Z.g__law_odd_argument Z.F__law_odd_argument.kp (pos__law_odd_argument Z) (a_cons (ev 0) (a_cons (ev 1) (a_nil)))))
  (s_cons (s_set (i := 3) sc__law_odd_step.nd rfl (by first | exact Or.inl rfl | exact Or.inr rfl) (e_lst (a_cons (e_non) (a_cons (e_int) (a_cons (e_str) (a_cons (e_str) (a_cons (e_tup (a_nil)) (a_cons (e_lst (a_nil)) (a_cons (e_dict0) (a_cons (e_tup (a_cons (e_str) (a_cons (e_str) (a_nil)))) (a_cons (e_lst (a_cons (e_str) (a_nil))) (a_cons (e_tup (a_cons (e_str) (a_nil))) (a_cons (e_tup (a_cons (e_str) (a_cons (ev 2) (a_nil)))) (a_cons (e_tup (a_cons (e_str) (a_cons (e_str) (a_nil)))) (a_nil)))))))))))))))
  (s_cons (s_set (i := 3) sc__law_odd_step.nd rfl (by first | exact Or.inl rfl | exact Or.inr rfl) (e_bin (o_add rfl) (ev 3) (e_lst (a_cons (e_tup (a_cons (e_str) (a_cons (e_str) (a_cons (e_str) (a_nil))))) (a_cons (e_tup (a_cons (e_str) (a_cons (e_str) (a_nil)))) (a_cons (e_tup (a_cons (e_str) (a_cons (e_str) (a_cons (e_tup (a_nil)) (a_nil))))) (a_cons (e_tup (a_cons (e_str) (a_cons (e_str) (a_cons (e_lst (a_cons (e_int) (a_nil))) (a_nil))))) (a_cons (e_tup (a_cons (e_str) (a_cons (ev 2) (a_cons (e_tup (a_cons (e_int) (a_nil))) (a_nil))))) (a_nil)))))))))
  (s_cons (s_set (i := 3) sc__law_odd_step.nd rfl (by first | exact Or.inl rfl | exact Or.inr rfl) (e_bin (o_add rfl) (ev 3) (e_lst (a_cons (e_tup (a_cons (e_str) (a_cons (e_str) (a_cons (e_tup (a_cons (ev 2) (a_nil))) (a_nil))))) (a_cons (e_tup (a_cons (e_str) (a_cons (e_str) (a_cons (e_tup (a_cons (e_str) (a_cons (ev 2) (a_nil)))) (a_nil))))) (a_cons (e_tup (a_cons (e_str) (a_cons (e_str) (a_cons (e_tup (a_cons (e_int) (a_cons (e_str) (a_cons (e_int) (a_cons (e_str) (a_nil)))))) (a_nil))))) (a_cons (e_tup (a_cons (e_str) (a_cons (e_str) (a_nil)))) (a_nil))))))))
  (s_cons (s_set (i := 3) sc__law_odd_step.nd rfl (by first | exact Or.inl rfl | exact Or.inr rfl) (e_bin (o_add rfl) (ev 3) (e_lst (a_cons (e_tup (a_cons (e_str) (a_cons (e_str) (a_cons (e_tup (a_cons (e_int) (a_nil))) (a_cons (e_tup (a_nil)) (a_nil)))))) (a_cons (e_tup (a_cons (e_str) (a_cons (e_str) (a_cons (ev 2) (a_nil))))) (a_cons (e_tup (a_cons (ev 2) (a_cons (e_str) (a_nil)))) (a_cons (e_tup (a_cons (e_str) (a_cons (e_tup (a_nil)) (a_nil)))) (a_cons (e_tup (a_cons (e_str) (a_nil))) (a_cons (e_tup (a_cons (e_str) (a_nil))) (a_nil))))))))))
  (s_one (s_ret (e_sub (x_ix rfl) (ev 3) (e_call (fn__law_draw U Z hm) hgd (hr.mono (by decide)) (takes_of rfl rfl rfl rfl) rfl rfl Z.g__law_draw Z.F__law_draw.kp (pos__law_draw Z) (a_cons (ev 0) (a_cons (e_callB (c_len rfl) rfl Z.n_len bo_len (a_cons (ev 3) (a_nil))) (a_nil)))) (fun _ _ => rfl))))))))
theorem fn__law_odd_step (U : Pures) (Z : Fx K mg) (hm : (base.get? sysModules).isSome = true) : FnD P w K mg base (gm K w) 3 Z.a__law_odd_step Z.d__law_odd_step ["_law_pot_here", "_law_amount"] sp__law_odd_step :=
  fnD_of Z.F__law_odd_step sc__law_odd_step U.l__law_odd_step (fun cdv A outer s H E hgd hr => b__law_odd_step U Z hm hgd hr) U.p__law_odd_step
theorem b__law_changed (U : Pures) (Z : Fx K mg) (hm : (base.get? sysModules).isSome = true) {cdv : Value} {A : Around} {outer : List PySem.Env} {s : Shared} {H : Hp} {E : XK} (hgd : A.guards = some []) (hr : Room 3 (A.deeper (envOfC "_law_changed" (defScope (top 20)) s.heap.objs.size Z.a__law_changed cdv))) :
    DSs (cxOf (L2.CX P w) P w K mg base N__law_changed "_law_changed" (defScope (top 20)) Z.a__law_changed cdv A outer s H E) (gm K w) (fun c d _ H => E c d H) (defBody (top 20)) t__law_changed :=
  s_cons (s_par3 (i := 3) (j := 4) (l := 5) rfl sc__law_changed.nd rfl rfl rfl (by decide) (by decide) (by decide) rfl rfl rfl (a_cons (e_callTy (c_listOf rfl) rfl Z.n_list bo_list (a_cons (ev 1) (a_nil))) (a_cons (e_call (fn__law_draw U Z hm) hgd (hr.mono (by decide)) (takes_of rfl rfl rfl rfl) rfl rfl Z.g__law_draw Z.F__law_draw.kp (pos__law_draw Z) (a_cons (ev 0) (a_cons (e_int) (a_nil)))) (a_cons (e_call (fn__law_draw U Z hm) hgd (hr.mono (by decide)) (takes_of rfl rfl rfl rfl) rfl rfl Z.g__law_draw Z.F__law_draw.kp (pos__law_draw Z) (a_cons (ev 0) (a_cons (e_bin (o_add rfl) (e_callB (c_len rfl) rfl Z.n_len bo_len (a_cons (ev 1) (a_nil))) (e_int)) (a_nil)))) (a_nil)))) (by rfl))
  (s_cons (s_if (t_cmp (o_eq rfl hr.units) (ev 4) (e_int) (nomark _)) (s_one (s_expr (e_bm PySem.F.plainAttrs_list PySem.F.slot_list_insert PySem.F.type_list_insert rfl m_insert (ev 3) (a_cons (ev 5) (a_cons (e_call (fn__law_odd_step U Z hm) hgd (hr.mono (by decide)) (takes_of rfl rfl rfl rfl) rfl rfl Z.g__law_odd_step Z.F__law_odd_step.kp (pos__law_odd_step Z) (a_cons (ev 0) (a_cons (ev 2) (a_nil)))) (a_nil)))))) (s_nil))
  (s_cons (s_if (t_cmp (o_eq rfl hr.units) (ev 4) (e_int) (nomark _)) (s_one (s_expr (e_bm PySem.F.plainAttrs_list PySem.F.slot_list_insert PySem.F.type_list_insert rfl m_insert (ev 3) (a_cons (ev 5) (a_cons (e_tup (a_cons (e_str) (a_nil))) (a_nil)))))) (s_nil))
  (s_cons (s_if (t_bool (w_and (t_cmp (o_eq rfl hr.units) (ev 4) (e_int) (nomark _)) (w_and1 (t_cmp (o_ne rfl hr.units) (ev 1) (e_lst (a_nil)) (nomark _))))) (s_one (s_asg (vs := []) (e_call (fn__law_odd_step U Z hm) hgd (hr.mono (by decide)) (takes_of rfl rfl rfl rfl) rfl rfl Z.g__law_odd_step Z.F__law_odd_step.kp (pos__law_odd_step Z) (a_cons (ev 0) (a_cons (ev 2) (a_nil)))) (g_sub (ev 3) (e_callB (c_min2 rfl) rfl Z.n_min bo_min (a_cons (ev 5) (a_cons (e_bin o_sub (e_callB (c_len rfl) rfl Z.n_len bo_len (a_cons (ev 1) (a_nil))) (e_int)) (a_nil)))) st_list))) (s_nil))
  (s_cons (s_if (t_bool (w_and (t_cmp (o_eq rfl hr.units) (ev 4) (e_int) (nomark _)) (w_and1 (t_cmp (o_ne rfl hr.units) (ev 1) (e_lst (a_nil)) (nomark _))))) (s_one (s_asg (vs := []) (e_callTy (c_listOf rfl) rfl Z.n_list bo_list (a_cons (e_sub (x_ix rfl) (ev 3) (e_callB (c_min2 rfl) rfl Z.n_min bo_min (a_cons (ev 5) (a_cons (e_bin o_sub (e_callB (c_len rfl) rfl Z.n_len bo_len (a_cons (ev 1) (a_nil))) (e_int)) (a_nil)))) (fun _ _ => rfl)) (a_nil))) (g_sub (ev 3) (e_callB (c_min2 rfl) rfl Z.n_min bo_min (a_cons (ev 5) (a_cons (e_bin o_sub (e_callB (c_len rfl) rfl Z.n_len bo_len (a_cons (ev 1) (a_nil))) (e_int)) (a_nil)))) st_list))) (s_nil))
  (s_cons (s_if (t_bool (w_and (t_cmp (o_eq rfl hr.units) (ev 4) (e_int) (nomark _)) (w_and1 (t_cmp (o_ne rfl hr.units) (ev 1) (e_lst (a_nil)) (nomark _))))) (s_one (s_expr (e_bm PySem.F.plainAttrs_list PySem.F.slot_list_insert PySem.F.type_list_insert rfl m_insert (ev 3) (a_cons (ev 5) (a_cons (e_sub (x_ix rfl) (ev 3) (e_callB (c_min2 rfl) rfl Z.n_min bo_min (a_cons (ev 5) (a_cons (e_bin o_sub (e_callB (c_len rfl) rfl Z.n_len bo_len (a_cons (ev 1) (a_nil))) (e_int)) (a_nil)))) (fun _ _ => rfl)) (a_nil)))))) (s_nil))
  (s_cons (s_if (t_cmp (o_eq rfl hr.units) (ev 4) (e_int) (nomark _)) (s_one (s_ret (ev 3))) (s_nil))
  (s_one (s_ret (e_callTy (c_tupleOf rfl) rfl Z.n_tuple bo_tuple (a_cons (ev 3) (a_nil)))))))))))
theorem fn__law_changed (U : Pures) (Z : Fx K mg) (hm : (base.get? sysModules).isSome = true) : FnD P w K mg base (gm K w) 4 Z.a__law_changed Z.d__law_changed ["_law_pot_here", "_law_steps", "_law_amount"] sp__law_changed :=
  fnD_of Z.F__law_changed sc__law_changed U.l__law_changed (fun cdv A outer s H E hgd hr => b__law_changed U Z hm hgd hr) U.p__law_changed
theorem b__law_is_word (U : Pures) (Z : Fx K mg) (hm : (base.get? sysModules).isSome = true) {cdv : Value} {A : Around} {outer : List PySem.Env} {s : Shared} {H : Hp} {E : XK} (hgd : A.guards = some []) (hr : Room 0 (A.deeper (envOfC "_law_is_word" (defScope (top 21)) s.heap.objs.size Z.a__law_is_word cdv))) :
    DSs (cxOf (L2.CX P w) P w K mg base N__law_is_word "_law_is_word" (defScope (top 21)) Z.a__law_is_word cdv A outer s H E) (gm K w) (fun c d _ H => E c d H) (defBody (top 21)) t__law_is_word :=
  s_cons (s_if (t_bool (w_or (t_not (t_val (e_callB (c_isi rfl) rfl Z.n_isinstance bo_isinstance (a_cons (ev 0) (a_cons (e_ty rfl Z.n_str bo_str) (a_nil)))))) (w_or1 (t_not (t_chain o_lt o_lt (e_int) (e_callB (c_len rfl) rfl Z.n_len bo_len (a_cons (ev 0) (a_nil))) (e_int)))))) (s_one (s_ret (e_bl))) (s_nil))
  (s_one (s_ret (e_callB (c_all rfl rfl) rfl Z.n_all bo_all (a_cons (e_lc (own := [("_law_letter", 1)]) rfl sc__law_is_word.nd (i_seq rfl (ev 0)) (blkOk_by (own := [("_law_letter", 1)]) (N := N__law_is_word) (sc := defScope (top 21)) (by decide +kernel)) (fun _ _ _ _ _ => g_name (i := 1) sc__law_is_word.nd rfl (by first | exact Or.inl rfl | exact Or.inr rfl) (hv := by decide)) (fun _ _ _ _ _ => ts_nil) (fun _ _ _ _ _ => e_cmp (o_or (o_inSeq rfl hr.units) o_inS) (ev 1) (e_str) (by with_unfolding_all rfl))) (a_nil)))))
theorem fn__law_is_word (U : Pures) (Z : Fx K mg) (hm : (base.get? sysModules).isSome = true) : FnD P w K mg base (gm K w) 1 Z.a__law_is_word Z.d__law_is_word ["_law_thing"] sp__law_is_word :=
  fnD_of Z.F__law_is_word sc__law_is_word U.l__law_is_word (fun cdv A outer s H E hgd hr => b__law_is_word U Z hm hgd hr) U.p__law_is_word
theorem b__law_is_argument (U : Pures) (Z : Fx K mg) (hm : (base.get? sysModules).isSome = true) {cdv : Value} {A : Around} {outer : List PySem.Env} {s : Shared} {H : Hp} {E : XK} (hgd : A.guards = some []) (hr : Room 1 (A.deeper (envOfC "_law_is_argument" (defScope (top 22)) s.heap.objs.size Z.a__law_is_argument cdv))) :
    DSs (cxOf (L2.CX P w) P w K mg base N__law_is_argument "_law_is_argument" (defScope (top 22)) Z.a__law_is_argument cdv A outer s H E) (gm K w) (fun c d _ H => E c d H) (defBody (top 22)) t__law_is_argument :=
  s_cons (s_if (t_val (e_callB (c_isi rfl) rfl Z.n_isinstance bo_isinstance (a_cons (ev 0) (a_cons (e_ty rfl Z.n_bool bo_bool) (a_nil))))) (s_one (s_ret (e_bl))) (s_nil))
  (s_one (s_ret (e_or (e_call (fn__law_is_word U Z hm) hgd (hr.mono (by decide)) (takes_of rfl rfl rfl rfl) rfl rfl Z.g__law_is_word Z.F__law_is_word.kp (pos__law_is_word Z) (a_cons (ev 0) (a_nil))) (e_one (e_and (e_callB (c_isi rfl) rfl Z.n_isinstance bo_isinstance (a_cons (ev 0) (a_cons (e_ty rfl Z.n_int bo_int) (a_nil)))) (e_one (e_chain o_le o_lt (e_int) (ev 0) (ev 1))))))))
theorem fn__law_is_argument (U : Pures) (Z : Fx K mg) (hm : (base.get? sysModules).isSome = true) : FnD P w K mg base (gm K w) 2 Z.a__law_is_argument Z.d__law_is_argument ["_law_thing", "_law_amount"] sp__law_is_argument :=
  fnD_of Z.F__law_is_argument sc__law_is_argument U.l__law_is_argument (fun cdv A outer s H E hgd hr => b__law_is_argument U Z hm hgd hr) U.p__law_is_argument
theorem b__law_is_step (U : Pures) (Z : Fx K mg) (hm : (base.get? sysModules).isSome = true) {cdv : Value} {A : Around} {outer : List PySem.Env} {s : Shared} {H : Hp} {E : XK} (hgd : A.guards = some []) (hr : Room 2 (A.deeper (envOfC "_law_is_step" (defScope (top 23)) s.heap.objs.size Z.a__law_is_step cdv))) :
    DSs (cxOf (L2.CX P w) P w K mg base N__law_is_step "_law_is_step" (defScope (top 23)) Z.a__law_is_step cdv A outer s H E) (gm K w) (fun c d _ H => E c d H) (defBody (top 23)) t__law_is_step :=
  s_cons (s_if (t_bool (w_or (t_not (t_val (e_callB (c_isi rfl) rfl Z.n_isinstance bo_isinstance (a_cons (ev 0) (a_cons (e_ty rfl Z.n_tuple bo_tuple) (a_nil)))))) (w_or (t_cmp (o_eqE rfl hr.units) (ev 0) (e_tup (a_nil)) (nomark _)) (w_or1 (t_not (t_val (e_callB (c_isi rfl) rfl Z.n_isinstance bo_isinstance (a_cons (e_sub (x_ix rfl) (ev 0) (e_int) (fun _ _ => rfl)) (a_cons (e_ty rfl Z.n_str bo_str) (a_nil)))))))))) (s_one (s_ret (e_bl))) (s_nil))
  (s_cons (s_if (t_cmp (o_eq rfl hr.units) (e_sub (x_ix rfl) (ev 0) (e_int) (fun _ _ => rfl)) (e_str) (nomark _)) (s_one (s_ret (e_cmp (o_eq rfl hr.units) (e_callB (c_len rfl) rfl Z.n_len bo_len (a_cons (ev 0) (a_nil))) (e_int) (nomark _)))) (s_nil))
  (s_cons (s_if (t_cmp (o_eq rfl hr.units) (e_sub (x_ix rfl) (ev 0) (e_int) (fun _ _ => rfl)) (e_str) (nomark _)) (s_one (s_ret (e_and (e_cmp (o_eq rfl hr.units) (e_callB (c_len rfl) rfl Z.n_len bo_len (a_cons (ev 0) (a_nil))) (e_int) (nomark _)) (e_one (e_call (fn__law_is_word U Z hm) hgd (hr.mono (by decide)) (takes_of rfl rfl rfl rfl) rfl rfl Z.g__law_is_word Z.F__law_is_word.kp (pos__law_is_word Z) (a_cons (e_sub (x_ix rfl) (ev 0) (e_int) (fun _ _ => rfl)) (a_nil))))))) (s_nil))
  (s_cons (s_if (t_bool (w_or (t_cmp (o_ne rfl hr.units) (e_sub (x_ix rfl) (ev 0) (e_int) (fun _ _ => rfl)) (e_str) (nomark _)) (w_or (t_cmp (o_ne rfl hr.units) (e_callB (c_len rfl) rfl Z.n_len bo_len (a_cons (ev 0) (a_nil))) (e_int) (nomark _)) (w_or (t_not (t_val (e_call (fn__law_is_word U Z hm) hgd (hr.mono (by decide)) (takes_of rfl rfl rfl rfl) rfl rfl Z.g__law_is_word Z.F__law_is_word.kp (pos__law_is_word Z) (a_cons (e_sub (x_ix rfl) (ev 0) (e_int) (fun _ _ => rfl)) (a_nil))))) (w_or1 (t_not (t_val (e_callB (c_isi rfl) rfl Z.n_isinstance bo_isinstance (a_cons (e_sub (x_ix rfl) (ev 0) (e_int) (fun _ _ => rfl)) (a_cons (e_ty rfl Z.n_tuple bo_tuple) (a_nil))))))))))) (s_one (s_ret (e_bl))) (s_nil))
  (s_one (s_ret (e_and (e_chain o_lt o_lt (e_int) (e_callB (c_len rfl) rfl Z.n_len bo_len (a_cons (e_sub (x_ix rfl) (ev 0) (e_int) (fun _ _ => rfl)) (a_nil))) (e_int)) (e_one (e_callB (c_all rfl rfl) rfl Z.n_all bo_all (a_cons (e_lc (own := [("_law_one", 2)]) rfl sc__law_is_step.nd (i_seq rfl (e_sub (x_ix rfl) (ev 0) (e_int) (fun _ _ => rfl))) (blkOk_by (own := [("_law_one", 2)]) (N := N__law_is_step) (sc := defScope (top 23)) (by decide +kernel)) (fun _ _ _ _ _ => g_name (i := 2) sc__law_is_step.nd rfl (by first | exact Or.inl rfl | exact Or.inr rfl) (hv := by decide)) (fun _ _ _ _ _ => ts_nil) (fun _ _ _ _ _ => e_call (fn__law_is_argument U Z hm) hgd (hr.mono (by decide)) tkF rfl rfl Z.g__law_is_argument Z.F__law_is_argument.kp (pos__law_is_argument Z) (a_cons (ev 2) (a_cons (ev 1) (a_nil))))) (a_nil))))))))))
theorem fn__law_is_step (U : Pures) (Z : Fx K mg) (hm : (base.get? sysModules).isSome = true) : FnD P w K mg base (gm K w) 3 Z.a__law_is_step Z.d__law_is_step ["_law_thing", "_law_amount"] sp__law_is_step :=
  fnD_of Z.F__law_is_step sc__law_is_step U.l__law_is_step (fun cdv A outer s H E hgd hr => b__law_is_step U Z hm hgd hr) U.p__law_is_step
theorem b__law_is_body (U : Pures) (Z : Fx K mg) (hm : (base.get? sysModules).isSome = true) {cdv : Value} {A : Around} {outer : List PySem.Env} {s : Shared} {H : Hp} {E : XK} (hgd : A.guards = some []) (hr : Room 3 (A.deeper (envOfC "_law_is_body" (defScope (top 24)) s.heap.objs.size Z.a__law_is_body cdv))) :
    DSs (cxOf (L2.CX P w) P w K mg base N__law_is_body "_law_is_body" (defScope (top 24)) Z.a__law_is_body cdv A outer s H E) (gm K w) (fun c d _ H => E c d H) (defBody (top 24)) t__law_is_body :=
  s_cons (s_if (t_not (t_val (e_callB (c_isi rfl) rfl Z.n_isinstance bo_isinstance (a_cons (ev 0) (a_cons (e_ty rfl Z.n_tuple bo_tuple) (a_nil)))))) (s_one (s_ret (e_bl))) (s_nil))
  (s_cons (s_setLc (i := 2) (own := [("_law_step_here", 3)]) rfl sc__law_is_body.nd rfl rfl (sw_true rfl rfl rfl (by decide +kernel)) (i_seq rfl (ev 0)) (blkOk_by (own := [("_law_step_here", 3)]) (N := N__law_is_body) (sc := defScope (top 24)) (by decide +kernel)) (fun _ _ _ _ _ => g_name (i := 3) sc__law_is_body.nd rfl (by first | exact Or.inl rfl | exact Or.inr rfl) (hv := by decide)) (fun _ _ _ _ _ => ts_one (t_bool (w_and (t_val (e_callB (c_isi rfl) rfl Z.n_isinstance bo_isinstance (a_cons (ev 3) (a_cons (e_ty rfl Z.n_tuple bo_tuple) (a_nil))))) (w_and1 (t_cmp (o_eq rfl hr.units) (e_callB (c_len rfl) rfl Z.n_len bo_len (a_cons (ev 3) (a_nil))) (e_int) (nomark _)))))) (fun _ _ _ _ _ => ev 3))
  (s_one (s_ret (e_and (e_callB (c_all rfl rfl) rfl Z.n_all bo_all (a_cons (e_lc (own := [("_law_step_here", 3)]) rfl sc__law_is_body.nd (i_seq rfl (ev 0)) (blkOk_by (own := [("_law_step_here", 3)]) (N := N__law_is_body) (sc := defScope (top 24)) (by decide +kernel)) (fun _ _ _ _ _ => g_name (i := 3) sc__law_is_body.nd rfl (by first | exact Or.inl rfl | exact Or.inr rfl) (hv := by decide)) (fun _ _ _ _ _ => ts_nil) (fun _ _ _ _ _ => e_call (fn__law_is_step U Z hm) hgd (hr.mono (by decide)) tkF rfl rfl Z.g__law_is_step Z.F__law_is_step.kp (pos__law_is_step Z) (a_cons (ev 3) (a_cons (ev 1) (a_nil))))) (a_nil))) (e_one (e_cmp o_lt (e_callB (c_len rfl) rfl Z.n_len bo_len (a_cons (ev 2) (a_nil))) (e_int) (nomark _)))))))
theorem fn__law_is_body (U : Pures) (Z : Fx K mg) (hm : (base.get? sysModules).isSome = true) : FnD P w K mg base (gm K w) 4 Z.a__law_is_body Z.d__law_is_body ["_law_thing", "_law_amount"] sp__law_is_body :=
  fnD_of Z.F__law_is_body sc__law_is_body U.l__law_is_body (fun cdv A outer s H E hgd hr => b__law_is_body U Z hm hgd hr) U.p__law_is_body
theorem b_is_index (U : Pures) (Z : Fx K mg) (hm : (base.get? sysModules).isSome = true) {cdv : Value} {A : Around} {outer : List PySem.Env} {s : Shared} {H : Hp} {E : XK} (hgd : A.guards = some []) (hr : Room 0 (A.deeper (envOfC "is_index" (defScope (top 9)) s.heap.objs.size Z.a_is_index cdv))) :
    DSs (cxOf (L2.CX P w) P w K mg base N_is_index "is_index" (defScope (top 9)) Z.a_is_index cdv A outer s H E) (gm K w) (fun c d _ H => E c d H) (defBody (top 9)) t_is_index :=
  s_one (s_ret (e_and (e_callB (c_isi rfl) rfl Z.n_isinstance bo_isinstance (a_cons (ev 0) (a_cons (e_ty rfl Z.n_int bo_int) (a_nil)))) (e_and (e_not (e_callB (c_isi rfl) rfl Z.n_isinstance bo_isinstance (a_cons (ev 0) (a_cons (e_ty rfl Z.n_bool bo_bool) (a_nil))))) (e_one (e_chain o_le o_lt (e_int) (ev 0) (ev 1))))))
theorem fn_is_index (U : Pures) (Z : Fx K mg) (hm : (base.get? sysModules).isSome = true) : FnD P w K mg base (gm K w) 1 Z.a_is_index Z.d_is_index ["value", "count"] sp_is_index :=
  fnD_of Z.F_is_index sc_is_index U.l_is_index (fun cdv A outer s H E hgd hr => b_is_index U Z hm hgd hr) U.p_is_index
theorem b_is_name (U : Pures) (Z : Fx K mg) (hm : (base.get? sysModules).isSome = true) {cdv : Value} {A : Around} {outer : List PySem.Env} {s : Shared} {H : Hp} {E : XK} (hgd : A.guards = some []) (hr : Room 0 (A.deeper (envOfC "is_name" (defScope (top 3)) s.heap.objs.size Z.a_is_name cdv))) :
    DSs (cxOf (L2.CX P w) P w K mg base N_is_name "is_name" (defScope (top 3)) Z.a_is_name cdv A outer s H E) (gm K w) (fun c d _ H => E c d H) (defBody (top 3)) t_is_name :=
  s_cons (s_if (t_bool (w_or (t_not (t_val (e_callB (c_isi rfl) rfl Z.n_isinstance bo_isinstance (a_cons (ev 0) (a_cons (e_ty rfl Z.n_str bo_str) (a_nil)))))) (w_or1 (t_not (t_chain o_le o_le (e_int) (e_callB (c_len rfl) rfl Z.n_len bo_len (a_cons (ev 0) (a_nil))) (e_gint rfl Z.m_MAX_NAME_LENGTH Z.v_MAX_NAME_LENGTH)))))) (s_one (s_ret (e_bl))) (s_nil))
  (s_one (s_ret (e_callB (c_all rfl rfl) rfl Z.n_all bo_all (a_cons (e_lc (own := [("character", 1)]) rfl sc_is_name.nd (i_seq rfl (ev 0)) (blkOk_by (own := [("character", 1)]) (N := N_is_name) (sc := defScope (top 3)) (by decide +kernel)) (fun _ _ _ _ _ => g_name (i := 1) sc_is_name.nd rfl (by first | exact Or.inl rfl | exact Or.inr rfl) (hv := by decide)) (fun _ _ _ _ _ => ts_nil) (fun _ _ _ _ _ => e_cmp (o_or (o_inSeq rfl hr.units) o_inS) (ev 1) (e_gstr rfl Z.m_LETTERS Z.v_LETTERS (by decide +kernel)) (by with_unfolding_all rfl))) (a_nil)))))
theorem fn_is_name (U : Pures) (Z : Fx K mg) (hm : (base.get? sysModules).isSome = true) : FnD P w K mg base (gm K w) 1 Z.a_is_name Z.d_is_name ["value"] sp_is_name :=
  fnD_of Z.F_is_name sc_is_name U.l_is_name (fun cdv A outer s H E hgd hr => b_is_name U Z hm hgd hr) U.p_is_name
theorem b_are_arguments (U : Pures) (Z : Fx K mg) (hm : (base.get? sysModules).isSome = true) {cdv : Value} {A : Around} {outer : List PySem.Env} {s : Shared} {H : Hp} {E : XK} (hgd : A.guards = some []) (hr : Room 1 (A.deeper (envOfC "are_arguments" (defScope (top 10)) s.heap.objs.size Z.a_are_arguments cdv))) :
    DSs (cxOf (L2.CX P w) P w K mg base N_are_arguments "are_arguments" (defScope (top 10)) Z.a_are_arguments cdv A outer s H E) (gm K w) (fun c d _ H => E c d H) (defBody (top 10)) t_are_arguments :=
  s_cons (s_if (t_bool (w_or (t_not (t_val (e_callB (c_isi rfl) rfl Z.n_isinstance bo_isinstance (a_cons (ev 0) (a_cons (e_ty rfl Z.n_tuple bo_tuple) (a_nil)))))) (w_or1 (t_not (t_chain o_le o_le (e_int) (e_callB (c_len rfl) rfl Z.n_len bo_len (a_cons (ev 0) (a_nil))) (e_gint rfl Z.m_MAX_ARGUMENTS Z.v_MAX_ARGUMENTS)))))) (s_one (s_ret (e_bl))) (s_nil))
  (s_one (s_ret (e_callB (c_all rfl rfl) rfl Z.n_all bo_all (a_cons (e_lc (own := [("item", 2)]) rfl sc_are_arguments.nd (i_seq rfl (ev 0)) (blkOk_by (own := [("item", 2)]) (N := N_are_arguments) (sc := defScope (top 10)) (by decide +kernel)) (fun _ _ _ _ _ => g_name (i := 2) sc_are_arguments.nd rfl (by first | exact Or.inl rfl | exact Or.inr rfl) (hv := by decide)) (fun _ _ _ _ _ => ts_nil) (fun _ _ _ _ _ => e_or (e_call (fn_is_name U Z hm) hgd (hr.mono (by decide)) tkF rfl rfl Z.g_is_name Z.F_is_name.kp (pos_is_name Z) (a_cons (ev 2) (a_nil))) (e_one (e_call (fn_is_index U Z hm) hgd (hr.mono (by decide)) tkF rfl rfl Z.g_is_index Z.F_is_index.kp (pos_is_index Z) (a_cons (ev 2) (a_cons (ev 1) (a_nil))))))) (a_nil)))))
theorem fn_are_arguments (U : Pures) (Z : Fx K mg) (hm : (base.get? sysModules).isSome = true) : FnD P w K mg base (gm K w) 2 Z.a_are_arguments Z.d_are_arguments ["value", "count"] sp_are_arguments :=
  fnD_of Z.F_are_arguments sc_are_arguments U.l_are_arguments (fun cdv A outer s H E hgd hr => b_are_arguments U Z hm hgd hr) U.p_are_arguments
theorem b_is_step (U : Pures) (Z : Fx K mg) (hm : (base.get? sysModules).isSome = true) {cdv : Value} {A : Around} {outer : List PySem.Env} {s : Shared} {H : Hp} {E : XK} (hgd : A.guards = some []) (hr : Room 2 (A.deeper (envOfC "is_step" (defScope (top 11)) s.heap.objs.size Z.a_is_step cdv))) :
    DSs (cxOf (L2.CX P w) P w K mg base N_is_step "is_step" (defScope (top 11)) Z.a_is_step cdv A outer s H E) (gm K w) (fun c d _ H => E c d H) (defBody (top 11)) t_is_step :=
  s_cons (s_if (t_not (t_val (e_callB (c_isi rfl) rfl Z.n_isinstance bo_isinstance (a_cons (ev 0) (a_cons (e_ty rfl Z.n_tuple bo_tuple) (a_nil)))))) (s_one (s_ret (e_bl))) (s_nil))
  (s_cons (s_if (t_cmp (o_or (o_eq rfl hr.units) (o_eqD rfl hr.units)) (e_callB (c_len rfl) rfl Z.n_len bo_len (a_cons (ev 0) (a_nil))) (e_int) (nomark _)) (s_one (s_ret (e_and (e_cmp (o_or (o_eq rfl hr.units) (o_eqD rfl hr.units)) (e_sub (x_ix rfl) (ev 0) (e_int) (fun _ _ => rfl)) (e_gstr rfl Z.m_SAY Z.v_SAY (by decide +kernel)) (nomark _)) (e_one (e_call (fn_is_name U Z hm) hgd (hr.mono (by decide)) (takes_of rfl rfl rfl rfl) rfl rfl Z.g_is_name Z.F_is_name.kp (pos_is_name Z) (a_cons (e_sub (x_ix rfl) (ev 0) (e_int) (fun _ _ => rfl)) (a_nil))))))) (s_nil))
  (s_cons (s_if (t_cmp (o_or (o_eq rfl hr.units) (o_eqD rfl hr.units)) (e_callB (c_len rfl) rfl Z.n_len bo_len (a_cons (ev 0) (a_nil))) (e_int) (nomark _)) (s_one (s_ret (e_and (e_cmp (o_or (o_eq rfl hr.units) (o_eqD rfl hr.units)) (e_sub (x_ix rfl) (ev 0) (e_int) (fun _ _ => rfl)) (e_gstr rfl Z.m_CALL Z.v_CALL (by decide +kernel)) (nomark _)) (e_and (e_call (fn_is_name U Z hm) hgd (hr.mono (by decide)) (takes_of rfl rfl rfl rfl) rfl rfl Z.g_is_name Z.F_is_name.kp (pos_is_name Z) (a_cons (e_sub (x_ix rfl) (ev 0) (e_int) (fun _ _ => rfl)) (a_nil))) (e_one (e_call (fn_are_arguments U Z hm) hgd (hr.mono (by decide)) (takes_of rfl rfl rfl rfl) rfl rfl Z.g_are_arguments Z.F_are_arguments.kp (pos_are_arguments Z) (a_cons (e_sub (x_ix rfl) (ev 0) (e_int) (fun _ _ => rfl)) (a_cons (ev 1) (a_nil))))))))) (s_nil))
  (s_one (s_ret (e_cmp (o_or (o_eq rfl hr.units) (o_eqD rfl hr.units)) (ev 0) (e_gtup (ts := ["next"]) rfl Z.m_NEXT_STEP rfl Z.v_NEXT_STEP (by decide +kernel)) (nomark _))))))
theorem fn_is_step (U : Pures) (Z : Fx K mg) (hm : (base.get? sysModules).isSome = true) : FnD P w K mg base (gm K w) 3 Z.a_is_step Z.d_is_step ["value", "count"] sp_is_step :=
  fnD_of Z.F_is_step sc_is_step U.l_is_step (fun cdv A outer s H E hgd hr => b_is_step U Z hm hgd hr) U.p_is_step
theorem b_is_body (U : Pures) (Z : Fx K mg) (hm : (base.get? sysModules).isSome = true) {cdv : Value} {A : Around} {outer : List PySem.Env} {s : Shared} {H : Hp} {E : XK} (hgd : A.guards = some []) (hr : Room 3 (A.deeper (envOfC "is_body" (defScope (top 12)) s.heap.objs.size Z.a_is_body cdv))) :
    DSs (cxOf (L2.CX P w) P w K mg base N_is_body "is_body" (defScope (top 12)) Z.a_is_body cdv A outer s H E) (gm K w) (fun c d _ H => E c d H) (defBody (top 12)) t_is_body :=
  s_cons (s_if (t_bool (w_or (t_not (t_val (e_callB (c_isi rfl) rfl Z.n_isinstance bo_isinstance (a_cons (ev 0) (a_cons (e_ty rfl Z.n_tuple bo_tuple) (a_nil)))))) (w_or1 (t_not (t_val (e_callB (c_all rfl rfl) rfl Z.n_all bo_all (a_cons (e_lc (own := [("step", 2)]) rfl sc_is_body.nd (i_seq rfl (ev 0)) (blkOk_by (own := [("step", 2)]) (N := N_is_body) (sc := defScope (top 12)) (by decide +kernel)) (fun _ _ _ _ _ => g_name (i := 2) sc_is_body.nd rfl (by first | exact Or.inl rfl | exact Or.inr rfl) (hv := by decide)) (fun _ _ _ _ _ => ts_nil) (fun _ _ _ _ _ => e_call (fn_is_step U Z hm) hgd (hr.mono (by decide)) tkF rfl rfl Z.g_is_step Z.F_is_step.kp (pos_is_step Z) (a_cons (ev 2) (a_cons (ev 1) (a_nil))))) (a_nil)))))))) (s_one (s_ret (e_bl))) (s_nil))
  (s_one (s_ret (e_cmp o_le (e_bm PySem.F.plainAttrs_tuple PySem.F.slot_tuple_count PySem.F.type_tuple_count rfl (m_count rfl hr.units) (ev 0) (a_cons (e_gtup (ts := ["next"]) rfl Z.m_NEXT_STEP rfl Z.v_NEXT_STEP (by decide +kernel)) (a_nil))) (e_int) (nomark _))))
theorem fn_is_body (U : Pures) (Z : Fx K mg) (hm : (base.get? sysModules).isSome = true) : FnD P w K mg base (gm K w) 4 Z.a_is_body Z.d_is_body ["value", "count"] sp_is_body :=
  fnD_of Z.F_is_body sc_is_body U.l_is_body (fun cdv A outer s H E hgd hr => b_is_body U Z hm hgd hr) U.p_is_body
theorem b__law_right (U : Pures) (Z : Fx K mg) (hm : (base.get? sysModules).isSome = true) {cdv : Value} {A : Around} {outer : List PySem.Env} {s : Shared} {H : Hp} {E : XK} (hgd : A.guards = some []) (hr : Room 4 (A.deeper (envOfC "_law_right" (defScope (top 25)) s.heap.objs.size Z.a__law_right cdv))) :
    DSs (cxOf (L2.CX P w) P w K mg base N__law_right "_law_right" (defScope (top 25)) Z.a__law_right cdv A outer s H E) (gm K w) (fun c d _ H => E c d H) (defBody (top 25)) t__law_right :=
  s_cons (s_par (i := 2) (j := 3) rfl sc__law_right.nd rfl rfl (by decide) rfl rfl (a_cons (e_callB (c_repr rfl hr.units hgd hm) rfl Z.n_repr bo_repr (a_cons (ev 0) (a_nil))) (a_cons (e_callB (c_repr rfl hr.units hgd hm) rfl Z.n_repr bo_repr (a_cons (e_call (fn__law_is_body U Z hm) hgd (hr.mono (by decide)) (takes_of rfl rfl rfl rfl) rfl rfl Z.g__law_is_body Z.F__law_is_body.kp (pos__law_is_body Z) (a_cons (ev 0) (a_cons (ev 1) (a_nil)))) (a_nil))) (a_nil))) (by rfl))
  (s_cons (s_set (i := 4) sc__law_right.nd rfl (by first | exact Or.inl rfl | exact Or.inr rfl) (e_lst (a_cons (e_call (fn_is_body U Z hm) hgd (hr.mono (by decide)) (takes_of rfl rfl rfl rfl) rfl rfl Z.g_is_body Z.F_is_body.kp (pos_is_body Z) (a_cons (ev 0) (a_cons (ev 1) (a_nil)))) (a_cons (e_callK0 (ks := ["count", "value"]) (fn_is_body U Z hm) hgd (hr.mono (by decide)) (takes_of rfl rfl rfl rfl) rfl rfl Z.g_is_body Z.F_is_body.kp (bgw_is_body_0_count_value Z) (k_cons (ev 1) (k_cons (ev 0) (k_nil)))) (a_nil)))))
  (s_one (s_ret (e_and (e_cmp (o_eq rfl hr.units) (e_lc (own := [("_law_one", 5)]) rfl sc__law_right.nd (i_seq rfl (ev 4)) (blkOk_by (own := [("_law_one", 5)]) (N := N__law_right) (sc := defScope (top 25)) (by decide +kernel)) (fun _ _ _ _ _ => g_name (i := 5) sc__law_right.nd rfl (by first | exact Or.inl rfl | exact Or.inr rfl) (hv := by decide)) (fun _ _ _ _ _ => ts_nil) (fun _ _ _ _ _ => e_callB (c_repr rfl hr.units hgd hm) rfl Z.n_repr bo_repr (a_cons (ev 5) (a_nil)))) (e_lst (a_cons (ev 3) (a_cons (ev 3) (a_nil)))) (nomark _)) (e_one (e_cmp (o_eq rfl hr.units) (e_callB (c_repr rfl hr.units hgd hm) rfl Z.n_repr bo_repr (a_cons (ev 0) (a_nil))) (ev 2) (nomark _)))))))
theorem fn__law_right (U : Pures) (Z : Fx K mg) (hm : (base.get? sysModules).isSome = true) : FnD P w K mg base (gm K w) 5 Z.a__law_right Z.d__law_right ["_law_thing", "_law_amount"] sp__law_right :=
  fnD_of Z.F__law_right sc__law_right U.l__law_right (fun cdv A outer s H E hgd hr => b__law_right U Z hm hgd hr) U.p__law_right
theorem b__law_name (U : Pures) (Z : Fx K mg) (hm : (base.get? sysModules).isSome = true) {cdv : Value} {A : Around} {outer : List PySem.Env} {s : Shared} {H : Hp} {E : XK} (hgd : A.guards = some []) (hr : Room 1 (A.deeper (envOfC "_law_name" (defScope (top 16)) s.heap.objs.size Z.a__law_name cdv))) :
    DSs (cxOf (L2.CX P w) P w K mg base N__law_name "_law_name" (defScope (top 16)) Z.a__law_name cdv A outer s H E) (gm K w) (fun c d _ H => E c d H) (defBody (top 16)) t__law_name :=
  s_cons (s_set (i := 1) sc__law_name.nd rfl (by first | exact Or.inl rfl | exact Or.inr rfl) (e_str))
  (s_one (s_ret (e_bm PySem.F.plainAttrs_str PySem.F.slot_str_join PySem.F.type_str_join rfl (m_join rfl) (e_str) (a_cons (e_lc (own := [("_law_turn", 2)]) rfl sc__law_name.nd (i_range1 rfl Z.n_range (a_cons (e_sub (x_ix rfl) (e_lst (a_cons (e_int) (a_cons (e_int) (a_cons (e_int) (a_nil))))) (e_call (fn__law_draw U Z hm) hgd (hr.mono (by decide)) (takes_of rfl rfl rfl rfl) rfl rfl Z.g__law_draw Z.F__law_draw.kp (pos__law_draw Z) (a_cons (ev 0) (a_cons (e_int) (a_nil)))) (fun _ _ => rfl)) (a_nil))) (blkOk_by (own := [("_law_turn", 2)]) (N := N__law_name) (sc := defScope (top 16)) (by decide +kernel)) (fun _ _ _ _ _ => g_name (i := 2) sc__law_name.nd rfl (by first | exact Or.inl rfl | exact Or.inr rfl) (hv := by decide)) (fun _ _ _ _ _ => ts_nil) (fun _ _ _ _ _ => e_sub (x_ix rfl) (ev 1) (e_call (fn__law_draw U Z hm) hgd (hr.mono (by decide)) tkF rfl rfl Z.g__law_draw Z.F__law_draw.kp (pos__law_draw Z) (a_cons (ev 0) (a_cons (e_int) (a_nil)))) (fun _ _ => rfl))) (a_nil)))))
theorem fn__law_name (U : Pures) (Z : Fx K mg) (hm : (base.get? sysModules).isSome = true) : FnD P w K mg base (gm K w) 2 Z.a__law_name Z.d__law_name ["_law_pot_here"] sp__law_name :=
  fnD_of Z.F__law_name sc__law_name U.l__law_name (fun cdv A outer s H E hgd hr => b__law_name U Z hm hgd hr) U.p__law_name
theorem b__law_step (U : Pures) (Z : Fx K mg) (hm : (base.get? sysModules).isSome = true) {cdv : Value} {A : Around} {outer : List PySem.Env} {s : Shared} {H : Hp} {E : XK} (hgd : A.guards = some []) (hr : Room 2 (A.deeper (envOfC "_law_step" (defScope (top 17)) s.heap.objs.size Z.a__law_step cdv))) :
    DSs (cxOf (L2.CX P w) P w K mg base N__law_step "_law_step" (defScope (top 17)) Z.a__law_step cdv A outer s H E) (gm K w) (fun c d _ H => E c d H) (defBody (top 17)) t__law_step :=
  s_cons (s_set (i := 2) sc__law_step.nd rfl (by first | exact Or.inl rfl | exact Or.inr rfl) (e_call (fn__law_draw U Z hm) hgd (hr.mono (by decide)) (takes_of rfl rfl rfl rfl) rfl rfl Z.g__law_draw Z.F__law_draw.kp (pos__law_draw Z) (a_cons (ev 0) (a_cons (e_int) (a_nil)))))
  (s_cons (s_if (t_cmp (o_eq rfl hr.units) (ev 2) (e_int) (nomark _)) (s_one (s_ret (e_tup (a_cons (e_str) (a_nil))))) (s_nil))
  (s_cons (s_if (t_cmp (o_eq rfl hr.units) (ev 2) (e_int) (nomark _)) (s_one (s_ret (e_tup (a_cons (e_str) (a_cons (e_call (fn__law_name U Z hm) hgd (hr.mono (by decide)) (takes_of rfl rfl rfl rfl) rfl rfl Z.g__law_name Z.F__law_name.kp (pos__law_name Z) (a_cons (ev 0) (a_nil))) (a_nil)))))) (s_nil))
  (s_cons (s_set (i := 3) sc__law_step.nd rfl (by first | exact Or.inl rfl | exact Or.inr rfl) (e_lst (a_nil)))
  (s_cons (s_for (passes_of rfl) rfl (vs := [4]) (i_range1 rfl Z.n_range (a_cons (e_bin (o_add rfl) (e_int) (e_call (fn__law_draw U Z hm) hgd (hr.mono (by decide)) (takes_of rfl rfl rfl rfl) rfl rfl Z.g__law_draw Z.F__law_draw.kp (pos__law_draw Z) (a_cons (ev 0) (a_cons (e_int) (a_nil))))) (a_nil))) (g_name (i := 4) sc__law_step.nd rfl (by first | exact Or.inl rfl | exact Or.inr rfl) (hv := by decide)) (s_one (s_expr (e_bm PySem.F.plainAttrs_list PySem.F.slot_list_append PySem.F.type_list_append rfl m_append (ev 3) (a_cons (e_ifExp (t_cmp (o_eq rfl hr.units) (e_call (fn__law_draw U Z hm) hgd (hr.mono (by decide)) (takes_of rfl rfl rfl rfl) rfl rfl Z.g__law_draw Z.F__law_draw.kp (pos__law_draw Z) (a_cons (ev 0) (a_cons (e_int) (a_nil)))) (e_int) (nomark _)) (e_call (fn__law_name U Z hm) hgd (hr.mono (by decide)) (takes_of rfl rfl rfl rfl) rfl rfl Z.g__law_name Z.F__law_name.kp (pos__law_name Z) (a_cons (ev 0) (a_nil))) (e_call (fn__law_draw U Z hm) hgd (hr.mono (by decide)) (takes_of rfl rfl rfl rfl) rfl rfl Z.g__law_draw Z.F__law_draw.kp (pos__law_draw Z) (a_cons (ev 0) (a_cons (ev 1) (a_nil))))) (a_nil))))))
  (s_one (s_ret (e_tup (a_cons (e_str) (a_cons (e_call (fn__law_name U Z hm) hgd (hr.mono (by decide)) (takes_of rfl rfl rfl rfl) rfl rfl Z.g__law_name Z.F__law_name.kp (pos__law_name Z) (a_cons (ev 0) (a_nil))) (a_cons (e_callTy (c_tupleOf rfl) rfl Z.n_tuple bo_tuple (a_cons (ev 3) (a_nil))) (a_nil)))))))))))
theorem fn__law_step (U : Pures) (Z : Fx K mg) (hm : (base.get? sysModules).isSome = true) : FnD P w K mg base (gm K w) 3 Z.a__law_step Z.d__law_step ["_law_pot_here", "_law_amount"] sp__law_step :=
  fnD_of Z.F__law_step sc__law_step U.l__law_step (fun cdv A outer s H E hgd hr => b__law_step U Z hm hgd hr) U.p__law_step
theorem b__law_cell_right (U : Pures) (Z : Fx K mg) (hm : (base.get? sysModules).isSome = true) {cdv : Value} {A : Around} {outer : List PySem.Env} {s : Shared} {H : Hp} {E : XK} (hgd : A.guards = some []) (hr : Room 5 (A.deeper (envOfC "_law_cell_right" (defScope (top 26)) s.heap.objs.size Z.a__law_cell_right cdv))) :
    DSs (cxOf (L2.CX P w) P w K mg base N__law_cell_right "_law_cell_right" (defScope (top 26)) Z.a__law_cell_right cdv A outer s H E) (gm K w) (fun c d _ H => E c d H) (defBody (top 26)) t__law_cell_right :=
  s_cons (s_set (i := 1) sc__law_cell_right.nd rfl (by first | exact Or.inl rfl | exact Or.inr rfl) (e_bin (o_add rfl) (e_int) (e_call (fn__law_draw U Z hm) hgd (hr.mono (by decide)) (takes_of rfl rfl rfl rfl) rfl rfl Z.g__law_draw Z.F__law_draw.kp (pos__law_draw Z) (a_cons (ev 0) (a_cons (e_int) (a_nil))))))
  (s_cons (s_for (passes_of rfl) rfl (vs := [2]) (i_range1 rfl Z.n_range (a_cons (e_int) (a_nil))) (g_name (i := 2) sc__law_cell_right.nd rfl (by first | exact Or.inl rfl | exact Or.inr rfl) (hv := by decide)) (ss_gc (s_cons (s_set (i := 3) sc__law_cell_right.nd rfl (by first | exact Or.inl rfl | exact Or.inr rfl) (e_lc (own := [("_law_step_here", 4)]) rfl sc__law_cell_right.nd (i_range1 rfl Z.n_range (a_cons (e_call (fn__law_draw U Z hm) hgd (hr.mono (by decide)) (takes_of rfl rfl rfl rfl) rfl rfl Z.g__law_draw Z.F__law_draw.kp (pos__law_draw Z) (a_cons (ev 0) (a_cons (e_int) (a_nil)))) (a_nil))) (blkOk_by (own := [("_law_step_here", 4)]) (N := N__law_cell_right) (sc := defScope (top 26)) (by decide +kernel)) (fun _ _ _ _ _ => g_name (i := 4) sc__law_cell_right.nd rfl (by first | exact Or.inl rfl | exact Or.inr rfl) (hv := by decide)) (fun _ _ _ _ _ => ts_nil) (fun _ _ _ _ _ => e_call (fn__law_step U Z hm) hgd (hr.mono (by decide)) tkF rfl rfl Z.g__law_step Z.F__law_step.kp (pos__law_step Z) (a_cons (ev 0) (a_cons (ev 1) (a_nil))))))
  (s_cons (s_setLc (i := 5) (own := [("_law_place", 6), ("_law_step_here", 4)]) rfl sc__law_cell_right.nd rfl rfl (sw_true rfl rfl rfl (by decide +kernel)) (i_enum rfl rfl Z.n_enumerate (a_cons (ev 3) (a_nil))) (blkOk_by (own := [("_law_place", 6), ("_law_step_here", 4)]) (N := N__law_cell_right) (sc := defScope (top 26)) (by decide +kernel)) (fun _ _ _ _ _ => g_tup rfl rfl (gs_cons (g_name (i := 6) sc__law_cell_right.nd rfl (by first | exact Or.inl rfl | exact Or.inr rfl) (hv := by decide)) (gs_cons (g_name (i := 4) sc__law_cell_right.nd rfl (by first | exact Or.inl rfl | exact Or.inr rfl) (hv := by decide)) (gs_nil)))) (fun _ _ _ _ _ => ts_one (t_bool (w_or (t_cmp (o_ne rfl hr.units) (ev 4) (e_tup (a_cons (e_str) (a_nil))) (nomark _)) (w_or1 (t_cmp (o_or (o_notInSeq rfl hr.units) o_notInS) (e_tup (a_cons (e_str) (a_nil))) (e_slice rfl (ev 3) (p_none) (p_some (ev 6))) (by with_unfolding_all rfl)))))) (fun _ _ _ _ _ => ev 4))
  (s_cons (s_if (t_bool (w_or (t_cmp o_notBl (e_call (fn_is_body U Z hm) hgd (hr.mono (by decide)) (takes_of rfl rfl rfl rfl) rfl rfl Z.g_is_body Z.F_is_body.kp (pos_is_body Z) (a_cons (e_callTy (c_tupleOf rfl) rfl Z.n_tuple bo_tuple (a_cons (ev 5) (a_nil))) (a_cons (ev 1) (a_nil)))) (e_bl) (nomark _)) (w_or1 (t_not (t_val (e_call (fn__law_right U Z hm) hgd (hr.mono (by decide)) (takes_of rfl rfl rfl rfl) rfl rfl Z.g__law_right Z.F__law_right.kp (pos__law_right Z) (a_cons (e_callTy (c_tupleOf rfl) rfl Z.n_tuple bo_tuple (a_cons (ev 3) (a_nil))) (a_cons (ev 1) (a_nil))))))))) (s_one (s_ret (e_bl))) (s_nil))
  (s_cons (s_set (i := 7) sc__law_cell_right.nd rfl (by first | exact Or.inl rfl | exact Or.inr rfl) (e_call (fn__law_changed U Z hm) hgd (hr.mono (by decide)) (takes_of rfl rfl rfl rfl) rfl rfl Z.g__law_changed Z.F__law_changed.kp (pos__law_changed Z) (a_cons (ev 0) (a_cons (ev 5) (a_cons (ev 1) (a_nil))))))
  (s_cons (s_if (t_not (t_val (e_callB (c_all rfl rfl) rfl Z.n_all bo_all (a_cons (e_lc (own := [("_law_each", 8)]) rfl sc__law_cell_right.nd (i_seq rfl (e_lst (a_cons (ev 1) (a_cons (e_int) (a_cons (e_int) (a_cons (e_int) (a_nil))))))) (blkOk_by (own := [("_law_each", 8)]) (N := N__law_cell_right) (sc := defScope (top 26)) (by decide +kernel)) (fun _ _ _ _ _ => g_name (i := 8) sc__law_cell_right.nd rfl (by first | exact Or.inl rfl | exact Or.inr rfl) (hv := by decide)) (fun _ _ _ _ _ => ts_nil) (fun _ _ _ _ _ => e_call (fn__law_right U Z hm) hgd (hr.mono (by decide)) tkF rfl rfl Z.g__law_right Z.F__law_right.kp (pos__law_right Z) (a_cons (ev 7) (a_cons (ev 8) (a_nil))))) (a_nil))))) (s_one (s_ret (e_bl))) (s_nil))
  (s_one (s_if (t_not (t_val (e_call (fn__law_right U Z hm) hgd (hr.mono (by decide)) (takes_of rfl rfl rfl rfl) rfl rfl Z.g__law_right Z.F__law_right.kp (pos__law_right Z) (a_cons (e_call (fn__law_odd_step U Z hm) hgd (hr.mono (by decide)) (takes_of rfl rfl rfl rfl) rfl rfl Z.g__law_odd_step Z.F__law_odd_step.kp (pos__law_odd_step Z) (a_cons (ev 0) (a_cons (ev 1) (a_nil)))) (a_cons (ev 1) (a_nil)))))) (s_one (s_ret (e_bl))) (s_nil))))))))))
  (s_one (s_ret (e_and (e_cmp o_isBl (e_call (fn_is_body U Z hm) hgd (hr.mono (by decide)) (takes_of rfl rfl rfl rfl) rfl rfl Z.g_is_body Z.F_is_body.kp (pos_is_body Z) (a_cons (e_tup (a_nil)) (a_cons (ev 1) (a_nil)))) (e_bl) (nomark _)) (e_one (e_cmp o_isBl (e_call (fn_is_body U Z hm) hgd (hr.mono (by decide)) (takes_of rfl rfl rfl rfl) rfl rfl Z.g_is_body Z.F_is_body.kp (pos_is_body Z) (a_cons (e_lst (a_nil)) (a_cons (ev 1) (a_nil)))) (e_bl) (nomark _)))))))
theorem fn__law_cell_right (U : Pures) (Z : Fx K mg) (hm : (base.get? sysModules).isSome = true) : FnD P w K mg base (gm K w) 6 Z.a__law_cell_right Z.d__law_cell_right ["_law_pot_here"] sp__law_cell_right :=
  FnD.loc (fnD_of (sp := sl__law_cell_right) Z.F__law_cell_right sc__law_cell_right U.l__law_cell_right (fun cdv A outer s H E hgd hr => b__law_cell_right U Z hm hgd hr) fun ws cs Q E _ h => U.p__law_cell_right ws cs Q E h)
theorem b__law_pot (U : Pures) (Z : Fx K mg) (hm : (base.get? sysModules).isSome = true) {cdv : Value} {A : Around} {outer : List PySem.Env} {s : Shared} {H : Hp} {E : XK} (hgd : A.guards = some []) (hr : Room 0 (A.deeper (envOfC "_law_pot" (defScope (top 14)) s.heap.objs.size Z.a__law_pot cdv))) :
    DSs (cxOf (L2.CX P w) P w K mg base N__law_pot "_law_pot" (defScope (top 14)) Z.a__law_pot cdv A outer s H E) (gm K w) (fun c d _ H => E c d H) (defBody (top 14)) t__law_pot :=
  s_cons (s_set (i := 2) sc__law_pot.nd rfl (by first | exact Or.inl rfl | exact Or.inr rfl) (e_ifExp (t_cmp o_lt (ev 1) (e_callB (c_len rfl) rfl Z.n_len bo_len (a_cons (ev 0) (a_nil))) (nomark _)) (e_sub (x_ix rfl) (ev 0) (ev 1) (fun _ _ => rfl)) (e_int)))
  (s_one (s_ret (e_lst (a_cons (e_callB (c_max2 rfl) rfl Z.n_max bo_max (a_cons (e_int) (a_cons (e_bin o_sub (e_callB (c_abs) rfl Z.n_abs bo_abs (a_cons (ev 2) (a_nil))) (e_bin o_pow (e_int) (e_int))) (a_nil)))) (a_cons (e_bin o_mod (e_bin (o_add rfl) (e_bin (o_add rfl) (e_bin o_mul (e_bin o_mod (e_callB (c_abs) rfl Z.n_abs bo_abs (a_cons (ev 2) (a_nil))) (e_int)) (e_int)) (e_bin o_mul (e_int) (ev 1))) (e_int)) (e_int)) (a_nil))))))
theorem fn__law_pot (U : Pures) (Z : Fx K mg) (hm : (base.get? sysModules).isSome = true) : FnD P w K mg base (gm K w) 1 Z.a__law_pot Z.d__law_pot ["_law_script", "_law_k"] sp__law_pot :=
  fnD_of Z.F__law_pot sc__law_pot U.l__law_pot (fun cdv A outer s H E hgd hr => b__law_pot U Z hm hgd hr) U.p__law_pot
theorem b_law (U : Pures) (Z : Fx K mg) (hm : (base.get? sysModules).isSome = true) {cdv : Value} {A : Around} {outer : List PySem.Env} {s : Shared} {H : Hp} {E : XK} (hgd : A.guards = some []) (hr : Room 6 (A.deeper (envOfC "law" (defScope (top 27)) s.heap.objs.size Z.a_law cdv))) :
    DSs (cxOf (L2.CX P w) P w K mg base N_law "law" (defScope (top 27)) Z.a_law cdv A outer s H E) (gm K w) (fun c d _ H => E c d H) (defBody (top 27)) t_law :=
  s_cons (s_for (passes_of rfl) rfl (vs := [1]) (i_range1 rfl Z.n_range (a_cons (e_callB (c_max2 rfl) rfl Z.n_max bo_max (a_cons (e_int) (a_cons (e_callB (c_min2 rfl) rfl Z.n_min bo_min (a_cons (e_int) (a_cons (e_callB (c_len rfl) rfl Z.n_len bo_len (a_cons (ev 0) (a_nil))) (a_nil)))) (a_nil)))) (a_nil))) (g_name (i := 1) sc_law.nd rfl (by first | exact Or.inl rfl | exact Or.inr rfl) (hv := by decide)) (ss_gc (s_one (s_if (t_not (t_val (e_call (fn__law_cell_right U Z hm) hgd (hr.mono (by decide)) (takes_of rfl rfl rfl rfl) rfl rfl Z.g__law_cell_right Z.F__law_cell_right.kp (pos__law_cell_right Z) (a_cons (e_call (fn__law_pot U Z hm) hgd (hr.mono (by decide)) (takes_of rfl rfl rfl rfl) rfl rfl Z.g__law_pot Z.F__law_pot.kp (pos__law_pot Z) (a_cons (ev 0) (a_cons (ev 1) (a_nil)))) (a_nil))))) (s_one (s_ret (e_bl))) (s_nil)))))
  (s_one (s_ret (e_bl)))
theorem fn_law (U : Pures) (Z : Fx K mg) (hm : (base.get? sysModules).isSome = true) : FnD P w K mg base (gm K w) 7 Z.a_law Z.d_law ["_law_script"] sp_law :=
  fnD_of Z.F_law sc_law U.l_law (fun cdv A outer s H E hgd hr => b_law U Z hm hgd hr) U.p_law
end
end K31
set_option maxHeartbeats 0
namespace K31
open PySem PySem.Spec L2 DL
theorem pures : Pures where
  l__law_draw := len__law_draw
  p__law_draw := p__law_draw
  l__law_odd_argument := len__law_odd_argument
  p__law_odd_argument := p__law_odd_argument
  l__law_odd_step := len__law_odd_step
  p__law_odd_step := p__law_odd_step
  l__law_changed := len__law_changed
  p__law_changed := p__law_changed
  l__law_is_word := len__law_is_word
  p__law_is_word := p__law_is_word
  l__law_is_argument := len__law_is_argument
  p__law_is_argument := p__law_is_argument
  l__law_is_step := len__law_is_step
  p__law_is_step := p__law_is_step
  l__law_is_body := len__law_is_body
  p__law_is_body := p__law_is_body
  l_is_index := len_is_index
  p_is_index := p_is_index
  l_is_name := len_is_name
  p_is_name := p_is_name
  l_are_arguments := len_are_arguments
  p_are_arguments := p_are_arguments
  l_is_step := len_is_step
  p_is_step := p_is_step
  l_is_body := len_is_body
  p_is_body := p_is_body
  l__law_right := len__law_right
  p__law_right := p__law_right
  l__law_name := len__law_name
  p__law_name := p__law_name
  l__law_step := len__law_step
  p__law_step := p__law_step
  l__law_cell_right := len__law_cell_right
  p__law_cell_right := p__law_cell_right
  l__law_pot := len__law_pot
  p__law_pot := p__law_pot
  l_law := len_law
  p_law := p_law
def fn0 : List He.DefD := [⟨("_law_draw", none), "_law_draw", "_law_draw", defArgs (top 15), defBody (top 15), defScope (top 15), [], []⟩, ⟨("_law_odd_argument", none), "_law_odd_argument", "_law_odd_argument", defArgs (top 18), defBody (top 18), defScope (top 18), [], []⟩, ⟨("_law_odd_step", none), "_law_odd_step", "_law_odd_step", defArgs (top 19), defBody (top 19), defScope (top 19), [], []⟩, ⟨("_law_changed", none), "_law_changed", "_law_changed", defArgs (top 20), defBody (top 20), defScope (top 20), [], []⟩, ⟨("_law_is_word", none), "_law_is_word", "_law_is_word", defArgs (top 21), defBody (top 21), defScope (top 21), [], []⟩, ⟨("_law_is_argument", none), "_law_is_argument", "_law_is_argument", defArgs (top 22), defBody (top 22), defScope (top 22), [], []⟩, ⟨("_law_is_step", none), "_law_is_step", "_law_is_step", defArgs (top 23), defBody (top 23), defScope (top 23), [], []⟩, ⟨("_law_is_body", none), "_law_is_body", "_law_is_body", defArgs (top 24), defBody (top 24), defScope (top 24), [], []⟩, ⟨("is_index", none), "is_index", "is_index", defArgs (top 9), defBody (top 9), defScope (top 9), [], []⟩, ⟨("is_name", none), "is_name", "is_name", defArgs (top 3), defBody (top 3), defScope (top 3), [], []⟩, ⟨("are_arguments", none), "are_arguments", "are_arguments", defArgs (top 10), defBody (top 10), defScope (top 10), [], []⟩, ⟨("is_step", none), "is_step", "is_step", defArgs (top 11), defBody (top 11), defScope (top 11), [], []⟩, ⟨("is_body", none), "is_body", "is_body", defArgs (top 12), defBody (top 12), defScope (top 12), [], []⟩, ⟨("_law_right", none), "_law_right", "_law_right", defArgs (top 25), defBody (top 25), defScope (top 25), [], []⟩, ⟨("_law_name", none), "_law_name", "_law_name", defArgs (top 16), defBody (top 16), defScope (top 16), [], []⟩, ⟨("_law_step", none), "_law_step", "_law_step", defArgs (top 17), defBody (top 17), defScope (top 17), [], []⟩, ⟨("_law_cell_right", none), "_law_cell_right", "_law_cell_right", defArgs (top 26), defBody (top 26), defScope (top 26), [], []⟩, ⟨("_law_pot", none), "_law_pot", "_law_pot", defArgs (top 14), defBody (top 14), defScope (top 14), [], []⟩, ⟨("law", none), "law", "law", defArgs (top 27), defBody (top 27), defScope (top 27), [], []⟩]
def fn : List He.DefD := fn0
def fa0 : List He.Fa := [.glo "_law_draw", .glo "_law_odd_argument", .glo "_law_odd_step", .glo "_law_changed", .glo "_law_is_word", .glo "_law_is_argument", .glo "_law_is_step", .glo "_law_is_body", .glo "is_index", .glo "is_name", .glo "are_arguments", .glo "is_step", .glo "is_body", .glo "_law_right", .glo "_law_name", .glo "_law_step", .glo "_law_cell_right", .glo "_law_pot", .glo "law", .free "abs"]
def fa1 : List He.Fa := [.free "all", .free "bool", .free "divmod", .free "enumerate", .free "int", .free "isinstance", .free "len", .free "list", .free "max", .free "min", .free "range", .free "repr", .free "str", .free "tuple", .str "CALL" "call", .str "LETTERS" "abcdefghijklmnopqrstuvwxyz", .int "MAX_ARGUMENTS" 3, .int "MAX_NAME_LENGTH" 8, .glo "NEXT_STEP", .str "SAY" "say"]
def fa : List He.Fa := fa0 ++ fa1
def loose0 : List Str := ["LETTERS", "MAX_NAME_LENGTH", "is_name", "SAY", "CALL", "NEXT_STEP", "MAX_ARGUMENTS", "is_index", "are_arguments", "is_step", "is_body", "_law_pot", "_law_draw", "_law_name", "_law_step", "_law_odd_argument", "_law_odd_step", "_law_changed", "_law_is_word", "_law_is_argument"]
def loose1 : List Str := ["_law_is_step", "_law_is_body", "_law_right", "_law_cell_right"]
def loose : List Str := loose0 ++ loose1
abbrev R : PySem.W.OpenRow := PySem.W.OpenLaw.row PySem.Challenge.rw_fewestmethods_k31_bodies_judged
def ck (K : PySem.W.Frag) : Bool := tupM K "NEXT_STEP" (List.map V.str ["next"]) && true
abbrev hk : PySem.W.Hook := hookM 4 fa fn ck
def ob (s : PySem.W.SharedT) : AlM := obsM 4 fa fn ck (HandSHeadRun.getT s)
theorem ob_eq (s : PySem.W.SharedT) : ob s = hk.obs s.abs := obsM_eq (HandSHeadRun.getT_eq s)
theorem run (w : World) : HandSHeadRun.RunEq R (PySem.W.view R.prog [27]) hk ob 20000 loose w := by
  intro os
  kernel_rfl
theorem facts {K : PySem.W.Frag} {h : Heap} {mg : Str → Option Value} (X : K.In h) (ns : h.Ns mainGlobals mg) (c : He.SaysD fa fn K) (cc : ck K = true) : ∃ Z : Fx K mg, Z.a_law = He.ga K "law" := by
  obtain ⟨d0, F0⟩ := c.def_ 0 rfl
  obtain ⟨d1, F1⟩ := c.def_ 1 rfl
  obtain ⟨d2, F2⟩ := c.def_ 2 rfl
  obtain ⟨d3, F3⟩ := c.def_ 3 rfl
  obtain ⟨d4, F4⟩ := c.def_ 4 rfl
  obtain ⟨d5, F5⟩ := c.def_ 5 rfl
  obtain ⟨d6, F6⟩ := c.def_ 6 rfl
  obtain ⟨d7, F7⟩ := c.def_ 7 rfl
  obtain ⟨d8, F8⟩ := c.def_ 8 rfl
  obtain ⟨d9, F9⟩ := c.def_ 9 rfl
  obtain ⟨d10, F10⟩ := c.def_ 10 rfl
  obtain ⟨d11, F11⟩ := c.def_ 11 rfl
  obtain ⟨d12, F12⟩ := c.def_ 12 rfl
  obtain ⟨d13, F13⟩ := c.def_ 13 rfl
  obtain ⟨d14, F14⟩ := c.def_ 14 rfl
  obtain ⟨d15, F15⟩ := c.def_ 15 rfl
  obtain ⟨d16, F16⟩ := c.def_ 16 rfl
  obtain ⟨d17, F17⟩ := c.def_ 17 rfl
  obtain ⟨d18, F18⟩ := c.def_ 18 rfl
  obtain ⟨t34, m34⟩ := He.str_ok X ns (c.fact 34 (f := .str "CALL" "call") rfl)
  obtain ⟨t35, m35⟩ := He.str_ok X ns (c.fact 35 (f := .str "LETTERS" "abcdefghijklmnopqrstuvwxyz") rfl)
  obtain ⟨t36, m36⟩ := He.int_ok X ns (c.fact 36 (f := .int "MAX_ARGUMENTS" 3) rfl)
  obtain ⟨t37, m37⟩ := He.int_ok X ns (c.fact 37 (f := .int "MAX_NAME_LENGTH" 8) rfl)
  obtain ⟨t39, m39⟩ := He.str_ok X ns (c.fact 39 (f := .str "SAY" "say") rfl)
  unfold ck at cc
  simp only [Bool.and_eq_true] at cc
  exact ⟨{
    a__law_draw := _, d__law_draw := d0, F__law_draw := F0, g__law_draw := He.glo_ok X ns (c.fact 0 (f := .glo "_law_draw") rfl),
    a__law_odd_argument := _, d__law_odd_argument := d1, F__law_odd_argument := F1, g__law_odd_argument := He.glo_ok X ns (c.fact 1 (f := .glo "_law_odd_argument") rfl),
    a__law_odd_step := _, d__law_odd_step := d2, F__law_odd_step := F2, g__law_odd_step := He.glo_ok X ns (c.fact 2 (f := .glo "_law_odd_step") rfl),
    a__law_changed := _, d__law_changed := d3, F__law_changed := F3, g__law_changed := He.glo_ok X ns (c.fact 3 (f := .glo "_law_changed") rfl),
    a__law_is_word := _, d__law_is_word := d4, F__law_is_word := F4, g__law_is_word := He.glo_ok X ns (c.fact 4 (f := .glo "_law_is_word") rfl),
    a__law_is_argument := _, d__law_is_argument := d5, F__law_is_argument := F5, g__law_is_argument := He.glo_ok X ns (c.fact 5 (f := .glo "_law_is_argument") rfl),
    a__law_is_step := _, d__law_is_step := d6, F__law_is_step := F6, g__law_is_step := He.glo_ok X ns (c.fact 6 (f := .glo "_law_is_step") rfl),
    a__law_is_body := _, d__law_is_body := d7, F__law_is_body := F7, g__law_is_body := He.glo_ok X ns (c.fact 7 (f := .glo "_law_is_body") rfl),
    a_is_index := _, d_is_index := d8, F_is_index := F8, g_is_index := He.glo_ok X ns (c.fact 8 (f := .glo "is_index") rfl),
    a_is_name := _, d_is_name := d9, F_is_name := F9, g_is_name := He.glo_ok X ns (c.fact 9 (f := .glo "is_name") rfl),
    a_are_arguments := _, d_are_arguments := d10, F_are_arguments := F10, g_are_arguments := He.glo_ok X ns (c.fact 10 (f := .glo "are_arguments") rfl),
    a_is_step := _, d_is_step := d11, F_is_step := F11, g_is_step := He.glo_ok X ns (c.fact 11 (f := .glo "is_step") rfl),
    a_is_body := _, d_is_body := d12, F_is_body := F12, g_is_body := He.glo_ok X ns (c.fact 12 (f := .glo "is_body") rfl),
    a__law_right := _, d__law_right := d13, F__law_right := F13, g__law_right := He.glo_ok X ns (c.fact 13 (f := .glo "_law_right") rfl),
    a__law_name := _, d__law_name := d14, F__law_name := F14, g__law_name := He.glo_ok X ns (c.fact 14 (f := .glo "_law_name") rfl),
    a__law_step := _, d__law_step := d15, F__law_step := F15, g__law_step := He.glo_ok X ns (c.fact 15 (f := .glo "_law_step") rfl),
    a__law_cell_right := _, d__law_cell_right := d16, F__law_cell_right := F16, g__law_cell_right := He.glo_ok X ns (c.fact 16 (f := .glo "_law_cell_right") rfl),
    a__law_pot := _, d__law_pot := d17, F__law_pot := F17, g__law_pot := He.glo_ok X ns (c.fact 17 (f := .glo "_law_pot") rfl),
    a_law := _, d_law := d18, F_law := F18, g_law := He.glo_ok X ns (c.fact 18 (f := .glo "law") rfl),
    n_abs := He.free_ok X ns (c.fact 19 (f := .free "abs") rfl),
    n_all := He.free_ok X ns (c.fact 20 (f := .free "all") rfl),
    n_bool := He.free_ok X ns (c.fact 21 (f := .free "bool") rfl),
    n_divmod := He.free_ok X ns (c.fact 22 (f := .free "divmod") rfl),
    n_enumerate := He.free_ok X ns (c.fact 23 (f := .free "enumerate") rfl),
    n_int := He.free_ok X ns (c.fact 24 (f := .free "int") rfl),
    n_isinstance := He.free_ok X ns (c.fact 25 (f := .free "isinstance") rfl),
    n_len := He.free_ok X ns (c.fact 26 (f := .free "len") rfl),
    n_list := He.free_ok X ns (c.fact 27 (f := .free "list") rfl),
    n_max := He.free_ok X ns (c.fact 28 (f := .free "max") rfl),
    n_min := He.free_ok X ns (c.fact 29 (f := .free "min") rfl),
    n_range := He.free_ok X ns (c.fact 30 (f := .free "range") rfl),
    n_repr := He.free_ok X ns (c.fact 31 (f := .free "repr") rfl),
    n_str := He.free_ok X ns (c.fact 32 (f := .free "str") rfl),
    n_tuple := He.free_ok X ns (c.fact 33 (f := .free "tuple") rfl),
    u_CALL := _, m_CALL := m34, v_CALL := ⟨t34, rfl⟩,
    u_LETTERS := _, m_LETTERS := m35, v_LETTERS := ⟨t35, rfl⟩,
    u_MAX_ARGUMENTS := _, m_MAX_ARGUMENTS := m36, v_MAX_ARGUMENTS := ⟨t36, rfl⟩,
    u_MAX_NAME_LENGTH := _, m_MAX_NAME_LENGTH := m37, v_MAX_NAME_LENGTH := ⟨t37, rfl⟩,
    m_NEXT_STEP := He.glo_ok X ns (c.fact 38 (f := .glo "NEXT_STEP") rfl), v_NEXT_STEP := cc.1,
    u_SAY := _, m_SAY := m39, v_SAY := ⟨t39, rfl⟩ }, rfl⟩
end K31
open PySem PySem.W PySem.Calls PyProof.Rows
theorem PySem.Challenge.cw_fewestmethods_k31_bodies_judged_holds : PySem.Challenge.rw_fewestmethods_k31_bodies_judged.Holds := by
  w_on
  o_law
  refine HandSHeadRun.head_any (H := K31.hk) (ob := K31.ob) (q := view (OpenLaw.row PySem.Challenge.rw_fewestmethods_k31_bodies_judged).prog [27]) (M := 20000)
    (loose := K31.loose) (d := HandSHeadRun.topDef (OpenLaw.row PySem.Challenge.rw_fewestmethods_k31_bodies_judged).prog 27) (kwd := []) K31.ob_eq (by kernel_rfl) (fun s => by kernel_rfl) K31.run
    (by kernel_rfl) (by kernel_rfl) (by kernel_rfl) (by rfl) (by first | assumption | decide +kernel) (by decide +kernel) ⟨rfl, rfl, rfl, rfl, rfl, by decide +kernel⟩ ?ow ?oc
  case ow => w_witness2
  case oc =>
    refine DL.end_of (l := PySem.Challenge.rw_fewestmethods_k31_bodies_judged) (n := 63) (k := 7) (x := "_law_script") rfl (by decide) (by kernel_rfl) ⟨rfl, by decide, by decide⟩ ?walk
    intro w mg fa h Y ns hm
    obtain ⟨K, inK, c, sys⟩ := Y
    have hm : mg ("law" : PySem.Str) = some (.ref fa) := by
      rw [← hm]
      exact congrArg mg (by kernel_rfl)
    obtain ⟨Z, ez⟩ := K31.facts inK ns c (Bool.and_eq_true_iff.mp sys).2
    have e : fa = Z.a_law := by
      have := hm.symm.trans Z.g_law
      cases this
      rfl
    subst e
    refine ⟨K31.gm K w, Z.d_law, K31.sp_law, inK, fun s u => ?_, fun ns hn => K31.law_sp ns hn, fun base inB _ => K31.fn_law K31.pures Z (DL.sys_in sys inB)⟩
    exact L2.FunD.bindsA (ps := ["_law_script"]) Z.F_law (fun _ _ _ _ _ _ us hl => match us, hl with | [_], _ => rfl) s [u] rfl
