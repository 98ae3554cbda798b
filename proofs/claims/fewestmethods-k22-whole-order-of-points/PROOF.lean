import PyProof.Rows.All
import HandS.Codes
import HandS.Defaults
import HandS.Ends
import HandS.Exc
import HandS.ForMost
import HandS.Head0
import HandS.Head1
import HandS.Head2
import HandS.HeadEnd
import HandS.HeadHook1
import HandS.HeadHook2
import HandS.HeadHook3
import HandS.IsInst
import HandS.Iter
import HandS.MapJoin
import HandS.More
import HandS.Star
import HandS.StrMore
import HandS.Strs
import HandS.Style
import HandS.Text
import HandS.TupAny
import HandS.Wide
import HandS.WideBits
import HandS.WordsExc
import HandS.Zip
import KE.DataFind
import KE.GoesEnum
import KE.KDictCopyH
import KE.KDictDisplayH
import KE.KDictKeyed
import KE.KDictWalk
import KE.KItemsList
import KE.KStateDown
import OpenK.AllK
import PyProof.P3In
import PyProof.ReprRoads
import PySem.Challenge.RW_fewestmethods_k22_whole_order_of_points
import Wide.All
import Wide.FinOn
set_option Elab.async false
set_option linter.all false
set_option maxRecDepth 100000
set_option maxHeartbeats 2000000
namespace DL
open PySem PySem.Spec L2
inductive D where
  | non | bl (b : Bool) | int (i : Int) | str (x : Str)
  | tup (xs : List D) | lst (xs : List D) | dct (kvs : List (D × D))
  | obj (c : Nat) (fs : List D) | oth (v : V) | scr (ns : List Int)
  deriving Inhabited
/-- what a name, an expression stands for: data, or a cell -/
inductive W where
  | d (x : D) | c (i : Nat) | dead | tp (xs : List D)
  deriving Inhabited
/-- an owned object -/
inductive Cell where
  | lst (xs : List D) | dct (kvs : List (D × D)) (o : Obj) | obj (c : Nat) (fs : List (Option W)) | frz (x : D)
mutual
def key : D → Option NestedKey
  | .non => some .none
  | .bl b => some (.num (if b then 1 else 0))
  | .int i => some (.num i)
  | .str x => some (.text x)
  | .tup ds => (keys ds).map .tup
  | _ => none
def keys : List D → Option (List NestedKey)
  | [] => some []
  | d :: ds => match key d, keys ds with
    | some k, some ks => some (k :: ks)
    | _, _ => none
end
def isTupK : NestedKey → Bool
  | .tup _ => true
  | _ => false
/-- the raw entries of a dict, by values: the keys' hashes are those of ks -/
def RawE (w : World) : List NestedKey → List (V × V) → List DictEntry → Prop
  | [], ps, es => ps = [] ∧ es = []
  | k :: ks, ps, es => ∃ p q e f, ps = p :: q ∧ es = e :: f ∧ e.hash = k.hash w ∧ RelV p.1 e.key ∧ RelV p.2 e.val ∧ RawE w ks q f
/-- the keys are of one kind, apart, not deep -/
structure KeysOk (ks : List NestedKey) : Prop where
  nd : ks.Nodup
  one : (∀ k ∈ ks, isTupK k = false) ∨ ∀ k ∈ ks, isTupK k = true
  deep : ∀ k ∈ ks, k.depth ≤ 8
structure RawO (w : World) (ks : List NestedKey) (ps : List (V × V)) (o : Obj) : Prop where
  ex : o.ExactDict
  dat : ∃ es ep, o.data = .dict es ep ∧ RawE w ks ps es.toList
  ok : KeysOk ks
  len : ks.length ≤ sizeLine
/-- the very object at a, tracked -/
def dcx (a : Addr) (o : Obj) : HO := .ext fun h => h.get? a = some o
/-- what is fixed through a law: the written part, the world, the classes (their address, the names of their fields) -/
structure Gam where
  K : PySem.W.Frag
  w : World
  cls : Nat → Option (Addr × List Str)
def DcAt (G : Gam) (F : Hp) (a : Addr) (o : Obj) : Prop := (a == sysModules) = false ∧ (F a = some (dcx a o) ∨ G.K.lookup a = some o)
/-- at a stands a tuple that has no dict of its own -/
def PTu (K : PySem.W.Frag) (F : Hp) (a : Addr) (xs : List V) : Prop := ∃ o : Obj, o.dict = none ∧ (F a = some (.frz o (.tup xs)) ∨
  ∃ (its : Array Value) (n : Nat), K.lookup a = some o ∧ o.cls = .type "tuple" ∧ o.data = .seq its n ∧ its.size ≤ sizeLine ∧ Vals xs its.toList)
theorem PTu.sq {K : PySem.W.Frag} {F : Hp} {a : Addr} {xs : List V} (h : PTu K F a xs) : SqT K F a xs := by
  obtain ⟨o, _, h | ⟨its, n, h1, h2, h3, h4, h5⟩⟩ := h
  · exact .inl (.inr ⟨o, h⟩)
  · exact .inr ⟨o, its, n, h1, h2, h3, h4, h5⟩
theorem PTu.mono {K : PySem.W.Frag} {F F' : Hp} {a : Addr} {xs : List V} (e : Same F F') (h : PTu K F a xs) : PTu K F' a xs := by
  obtain ⟨o, h0, h⟩ := h
  exact ⟨o, h0, h.imp (e _ _) id⟩
/-- the fields nm of an instance stand for vs, nothing else is there -/
def FldsAt (nm : List Str) (gs : List (Str × V)) (vs : List (Option V)) : Prop :=
  vs.length = nm.length ∧ (nm.length ≤ 900 ∧ nm.Nodup ∧ (gs.map (·.1)).Nodup) ∧ (∀ (i : Nat) f, nm[i]? = some f → gs.lookup f = (vs[i]?).join) ∧ ∀ f, f ∉ nm → gs.lookup f = none
mutual
/-- the value v stands for the datum, by what is fixed (F) -/
def Rep (G : Gam) (F : Hp) : D → V → Prop
  | .non, v => v = .non
  | .bl b, v => v = .bl b
  | .int i, v => v = .int i
  | .str x, v => v = .str x ∧ PyData.strOk x = true
  | .tup ds, v => ∃ a vs, v = .ref a ∧ PTu G.K F a vs ∧ Reps G F ds vs
  | .lst ds, v => ∃ a vs, v = .ref a ∧ F a = some (.lst vs) ∧ Reps G F ds vs
  | .dct kvs, v => ∃ a o ks ps, v = .ref a ∧ DcAt G F a o ∧ RawO G.w ks ps o ∧ RepKV G F kvs ks ps
  | .obj c ds, v => ∃ a C nm dx gs vs, v = .ref a ∧ G.cls c = some (C, nm) ∧ F a = some (.ins C dx gs) ∧ FldsAt nm gs (vs.map some) ∧ Reps G F ds vs
  | .oth u, v => v = u
  | .scr ns, v => ∃ a, v = .ref a ∧ SqL G.K F a (ns.map V.int)
def Reps (G : Gam) (F : Hp) : List D → List V → Prop
  | [], vs => vs = []
  | d :: ds, vs => ∃ v r, vs = v :: r ∧ Rep G F d v ∧ Reps G F ds r
def RepKV (G : Gam) (F : Hp) : List (D × D) → List NestedKey → List (V × V) → Prop
  | [], ks, ps => ks = [] ∧ ps = []
  | (a, b) :: kvs, ks, ps => ∃ k p r q, ks = k :: r ∧ ps = p :: q ∧ key a = some k ∧ Rep G F a p.1 ∧ Rep G F b p.2 ∧ RepKV G F kvs r q
end
theorem SqL.mono {K : PySem.W.Frag} {F F' : Hp} {a : Addr} {xs : List V} (e : Same F F') (h : SqL K F a xs) : SqL K F' a xs := e.seq h
theorem SqT.mono {K : PySem.W.Frag} {F F' : Hp} {a : Addr} {xs : List V} (e : Same F F') (h : SqT K F a xs) : SqT K F' a xs := by
  rcases h with (h | ⟨o, h⟩) | h
  · exact .inl (.inl (e _ _ h))
  · exact .inl (.inr ⟨o, e _ _ h⟩)
  · exact .inr h
theorem DcAt.mono {G : Gam} {F F' : Hp} {a : Addr} {o : Obj} (e : Same F F') (h : DcAt G F a o) : DcAt G F' a o := ⟨h.1, h.2.imp (e _ _) id⟩
mutual
theorem Rep.mono {G : Gam} {F F' : Hp} (e : Same F F') : ∀ (x : D) (v : V), Rep G F x v → Rep G F' x v
  | .non, _, h | .bl _, _, h | .int _, _, h | .str _, _, h | .oth _, _, h => by simpa only [Rep] using h
  | .tup ds, v, h => by
    simp only [Rep] at h ⊢
    obtain ⟨a, vs, h1, h2, h3⟩ := h
    exact ⟨a, vs, h1, PTu.mono e h2, Reps.mono e ds vs h3⟩
  | .lst ds, v, h => by
    simp only [Rep] at h ⊢
    obtain ⟨a, vs, h1, h2, h3⟩ := h
    exact ⟨a, vs, h1, e _ _ h2, Reps.mono e ds vs h3⟩
  | .dct kvs, v, h => by
    simp only [Rep] at h ⊢
    obtain ⟨a, o, ks, ps, h1, h2, h3, h4⟩ := h
    exact ⟨a, o, ks, ps, h1, h2.mono e, h3, RepKV.mono e kvs ks ps h4⟩
  | .obj c ds, v, h => by
    simp only [Rep] at h ⊢
    obtain ⟨a, C, nm, dx, gs, vs, h1, h2, h3, h4, h5⟩ := h
    exact ⟨a, C, nm, dx, gs, vs, h1, h2, e _ _ h3, h4, Reps.mono e ds vs h5⟩
  | .scr ns, v, h => by
    simp only [Rep] at h ⊢
    obtain ⟨a, h1, h2⟩ := h
    exact ⟨a, h1, SqL.mono e h2⟩
theorem Reps.mono {G : Gam} {F F' : Hp} (e : Same F F') : ∀ (xs : List D) (vs : List V), Reps G F xs vs → Reps G F' xs vs
  | [], _, h => by simpa only [Reps] using h
  | d :: ds, vs, h => by
    simp only [Reps] at h ⊢
    obtain ⟨v, r, h1, h2, h3⟩ := h
    exact ⟨v, r, h1, Rep.mono e d v h2, Reps.mono e ds r h3⟩
theorem RepKV.mono {G : Gam} {F F' : Hp} (e : Same F F') : ∀ (kvs : List (D × D)) (ks : List NestedKey) (ps : List (V × V)), RepKV G F kvs ks ps → RepKV G F' kvs ks ps
  | [], _, _, h => by simpa only [RepKV] using h
  | (a, b) :: kvs, ks, ps, h => by
    simp only [RepKV] at h ⊢
    obtain ⟨k, p, r, q, h1, h2, h3, h4, h5, h6⟩ := h
    exact ⟨k, p, r, q, h1, h2, h3, Rep.mono e a p.1 h4, Rep.mono e b p.2 h5, RepKV.mono e kvs r q h6⟩
end
theorem Reps.length {G : Gam} {F : Hp} : ∀ {xs : List D} {vs : List V}, Reps G F xs vs → vs.length = xs.length
  | [], vs, h => by simp only [Reps] at h; subst h; rfl
  | d :: ds, vs, h => by
    simp only [Reps] at h
    obtain ⟨v, r, rfl, _, h3⟩ := h
    simp [Reps.length h3]
theorem Reps.get {G : Gam} {F : Hp} : ∀ {xs : List D} {vs : List V} {i : Nat} {x : D}, Reps G F xs vs → xs[i]? = some x → ∃ v, vs[i]? = some v ∧ Rep G F x v
  | [], vs, i, x, h, e => by simp at e
  | d :: ds, vs, 0, x, h, e => by
    simp only [Reps] at h
    obtain ⟨v, r, rfl, h2, h3⟩ := h
    simp at e; subst e
    exact ⟨v, rfl, h2⟩
  | d :: ds, vs, i + 1, x, h, e => by
    simp only [Reps] at h
    obtain ⟨v, r, rfl, h2, h3⟩ := h
    obtain ⟨u, e1, e2⟩ := Reps.get (i := i) h3 (by simpa using e)
    exact ⟨u, by simpa using e1, e2⟩
theorem Reps.append {G : Gam} {F : Hp} : ∀ {xs ys : List D} {vs us : List V}, Reps G F xs vs → Reps G F ys us → Reps G F (xs ++ ys) (vs ++ us)
  | [], ys, vs, us, h, k => by simp only [Reps] at h; subst h; exact k
  | d :: ds, ys, vs, us, h, k => by
    simp only [Reps] at h
    obtain ⟨v, r, rfl, h2, h3⟩ := h
    simp only [List.cons_append, Reps]
    exact ⟨v, r ++ us, rfl, h2, Reps.append h3 k⟩
theorem Reps.one {G : Gam} {F : Hp} {x : D} {v : V} (h : Rep G F x v) : Reps G F [x] [v] := by
  simp only [Reps]; exact ⟨v, [], rfl, h, rfl⟩
theorem Reps.nil {G : Gam} {F : Hp} : Reps G F [] [] := by simp only [Reps]
theorem Reps.cons {G : Gam} {F : Hp} {x : D} {v : V} {xs : List D} {vs : List V} (h : Rep G F x v) (k : Reps G F xs vs) : Reps G F (x :: xs) (v :: vs) := by
  simp only [Reps]; exact ⟨v, vs, rfl, h, k⟩
/-- where the cells stand; what stands apart from all that is told -/
structure Pl where
  l : List Addr
  R : Hp
def Pl.add (ι : Pl) (p : Addr) : Pl := ⟨ι.l ++ [p], ι.R⟩
def Pl.cut (ι : Pl) (n : Nat) : Pl := ⟨ι.l.take n, ι.R⟩
abbrev Nv := List (Option W)
abbrev Cs := List Cell
def RepW (G : Gam) (F : Hp) (ι : Pl) : W → V → Prop
  | .d x, v => Rep G F x v
  | .c i, v => ∃ a, ι.l[i]? = some a ∧ v = .ref a
  | .dead, _ => True
  | .tp xs, v => ∃ a vs, v = .ref a ∧ SqT G.K F a vs ∧ Reps G F xs vs
def RepWO (G : Gam) (F : Hp) (ι : Pl) : Option W → Option V → Prop
  | none, none => True
  | some x, some v => RepW G F ι x v
  | _, _ => False
def CellAt (G : Gam) (F : Hp) (ι : Pl) (H : Hp) (a : Addr) : Cell → Prop
  | .lst xs => F a = none ∧ ∃ vs, H a = some (.lst vs) ∧ Reps G F xs vs
  | .dct kvs o => F a = none ∧ (a == sysModules) = false ∧ ∃ ks ps, H a = some (dcx a o) ∧ RawO G.w ks ps o ∧ RepKV G F kvs ks ps
  | .obj c fs => F a = none ∧ ∃ C nm dx gs vs, H a = some (.ins C dx gs) ∧ G.cls c = some (C, nm) ∧ FldsAt nm gs vs ∧ Paired (RepWO G F ι) fs vs
  | .frz x => F a ≠ none ∧ Rep G F x (.ref a)
/-- no address twice, but for what is fixed -/
def NdF (F : Hp) (l : List Addr) : Prop := ∀ (i j : Nat) (a : Addr), l[i]? = some a → l[j]? = some a → F a = none → i = j
theorem NdF.nil {F : Hp} : NdF F [] := fun i j a h => by simp at h
theorem NdF.mono {F F' : Hp} {l : List Addr} (e : Same F F') (h : NdF F l) : NdF F' l := fun i j a h1 h2 h3 => h i j a h1 h2 (e.free h3)
theorem NdF.snoc {F : Hp} {l : List Addr} {p : Addr} (h : NdF F l) (hp : p ∉ l) : NdF F (l ++ [p]) := fun i j a h1 h2 h3 => by
  by_cases hi : i < l.length
  · rw [List.getElem?_append_left hi] at h1
    by_cases hj : j < l.length
    · rw [List.getElem?_append_left hj] at h2
      exact h i j a h1 h2 h3
    · rw [List.getElem?_append_right (by omega)] at h2
      have h2 := List.mem_of_getElem? h2
      simp at h2; subst h2
      exact absurd (List.mem_of_getElem? h1) hp
  · have h1' := (List.getElem?_eq_some_iff.mp h1).1
    simp at h1'
    rw [List.getElem?_append_right (by omega)] at h1
    have h1 := List.mem_of_getElem? h1
    simp at h1; subst h1
    by_cases hj : j < l.length
    · rw [List.getElem?_append_left hj] at h2
      exact absurd (List.mem_of_getElem? h2) hp
    · have h2' := (List.getElem?_eq_some_iff.mp h2).1
      simp at h2'
      omega
theorem NdF.take {F : Hp} {l : List Addr} (h : NdF F l) (n : Nat) : NdF F (l.take n) := fun i j a h1 h2 h3 => by
  have f : ∀ {k : Nat}, (l.take n)[k]? = some a → l[k]? = some a := fun {k} q => by
    rw [List.getElem?_take] at q
    split at q
    · exact q
    · cases q
  exact h i j a (f h1) (f h2) h3
structure Sim (G : Gam) (F : Hp) (ι : Pl) (cs : Cs) (H : Hp) : Prop where
  same : Same F H
  len : ι.l.length = cs.length
  nd : NdF F ι.l
  cell : ∀ (i : Nat) x, cs[i]? = some x → ∃ a, ι.l[i]? = some a ∧ CellAt G F ι H a x
  fr : Same ι.R H
  ap : ∀ a, ι.R a ≠ none → F a = none ∧ a ∉ ι.l
def RepEnv (G : Gam) (F : Hp) (ι : Pl) (env : Nv) (σ : St) : Prop :=
  env.length = σ.length ∧ ∀ (i : Nat) x, env[i]? = some (some x) → ∃ v, σ[i]? = some (some v) ∧ RepW G F ι x v
/-- what grows -/
structure Ext (F F' : Hp) (ι ι' : Pl) : Prop where
  same : Same F F'
  pre : ι.l <+: ι'.l
  eR : ι'.R = ι.R
/-- the same, whatever stands apart -/
structure Ext0 (F F' : Hp) (ι ι' : Pl) : Prop where
  same : Same F F'
  pre : ι.l <+: ι'.l
theorem Ext.to0 {F F' : Hp} {ι ι' : Pl} (e : Ext F F' ι ι') : Ext0 F F' ι ι' := ⟨e.same, e.pre⟩
theorem Ext0.at_ {F F' : Hp} {ι ι' : Pl} (e : Ext0 F F' ι ι') {i : Nat} {a : Addr} (h : ι.l[i]? = some a) : ι'.l[i]? = some a := by
  obtain ⟨r, e⟩ := e.pre
  rw [← e, List.getElem?_append_left (List.getElem?_eq_some_iff.mp h).1]
  exact h
theorem Ext.refl {F : Hp} {ι : Pl} : Ext F F ι ι := ⟨Same.refl _, List.prefix_refl _, rfl⟩
theorem Ext.trans {F F' F'' : Hp} {ι ι' ι'' : Pl} (a : Ext F F' ι ι') (b : Ext F' F'' ι' ι'') : Ext F F'' ι ι'' := ⟨a.same.trans b.same, a.pre.trans b.pre, b.eR.trans a.eR⟩
theorem Ext.at_ {F F' : Hp} {ι ι' : Pl} (e : Ext F F' ι ι') {i : Nat} {a : Addr} (h : ι.l[i]? = some a) : ι'.l[i]? = some a := by
  obtain ⟨r, e⟩ := e.pre
  rw [← e, List.getElem?_append_left (List.getElem?_eq_some_iff.mp h).1]
  exact h
theorem RepW.mono {G : Gam} {F F' : Hp} {ι ι' : Pl} (e : Ext F F' ι ι') {x : W} {v : V} (h : RepW G F ι x v) : RepW G F' ι' x v := by
  cases x with
  | d x => exact Rep.mono e.same x v h
  | c i => obtain ⟨a, h1, h2⟩ := h; exact ⟨a, e.at_ h1, h2⟩
  | dead => exact True.intro
  | tp xs => obtain ⟨a, vs, h1, h2, h3⟩ := h; exact ⟨a, vs, h1, SqT.mono e.same h2, Reps.mono e.same _ _ h3⟩
theorem RepW.mono0 {G : Gam} {F F' : Hp} {ι ι' : Pl} (e : Ext0 F F' ι ι') {x : W} {v : V} (h : RepW G F ι x v) : RepW G F' ι' x v := by
  cases x with
  | d x => exact Rep.mono e.same x v h
  | c i => obtain ⟨a, h1, h2⟩ := h; exact ⟨a, e.at_ h1, h2⟩
  | dead => exact True.intro
  | tp xs => obtain ⟨a, vs, h1, h2, h3⟩ := h; exact ⟨a, vs, h1, SqT.mono e.same h2, Reps.mono e.same _ _ h3⟩
theorem RepWO.mono {G : Gam} {F F' : Hp} {ι ι' : Pl} (e : Ext F F' ι ι') {x : Option W} {v : Option V} (h : RepWO G F ι x v) : RepWO G F' ι' x v := by
  cases x <;> cases v <;> first | exact h | exact RepW.mono e h
theorem RepEnv.mono {G : Gam} {F F' : Hp} {ι ι' : Pl} (e : Ext F F' ι ι') {env : Nv} {σ : St} (h : RepEnv G F ι env σ) : RepEnv G F' ι' env σ :=
  ⟨h.1, fun i x q => let ⟨v, h1, h2⟩ := h.2 i x q; ⟨v, h1, h2.mono e⟩⟩
theorem Paired.imp' {α β : Type} {P Q : α → β → Prop} (f : ∀ a b, P a b → Q a b) : ∀ {l : List α} {m : List β}, Paired P l m → Paired Q l m
  | _, _, .nil => .nil
  | _, _, .cons h t => .cons (f _ _ h) (Paired.imp' f t)
/-- an exception: its class, its fields -/
structure Xc where
  cls : Value
  fs : List (Str × D)
abbrev DQ := W → Cs → Prop
abbrev DX := Xc → Cs → Prop
abbrev DT := Nv → Cs → DQ → DX → Prop
/-- how an exception lies in the heap -/
def RepX (G : Gam) (F : Hp) (x : Xc) (cls : Value) (od : Option Addr) (H : Hp) : Prop :=
  cls = x.cls ∧ (x.fs = [] ∨ ∃ d gs, od = some d ∧ H d = some (.xd gs) ∧ ∀ f v, (f, v) ∈ x.fs → ∃ u, gs.lookup f = some u ∧ Rep G F v u)
/-- from the data to the heap: Wx is what is wished of an exception -/
def upE (G : Gam) (Wx : WX) (t : DT) : TE := fun σ H Q => ∃ F ι env cs Q0 E0, Sim G F ι cs H ∧ RepEnv G F ι env σ ∧ t env cs Q0 E0 ∧
  (∀ F' ι' cs' w v H', Ext F F' ι ι' → Sim G F' ι' cs' H' → RepW G F' ι' w v → Q0 w cs' → Q v H') ∧
  ∀ F' ι' cs' x cls od H', Ext F F' ι ι' → Sim G F' ι' cs' H' → RepX G F' x cls od H' → E0 x cs' → Wx cls od σ H'
def DE (X : Cx) (G : Gam) (Wx : WX) (e : Expr) (t : DT) : Prop := PE X e (upE G Wx t)
abbrev DA := Nv → Cs → (List W → Cs → Prop) → DX → Prop
def upA (G : Gam) (Wx : WX) (t : DA) : TA := fun σ H Q => ∃ F ι env cs Q0 E0, Sim G F ι cs H ∧ RepEnv G F ι env σ ∧ t env cs Q0 E0 ∧
  (∀ F' ι' cs' ws vs H', Ext F F' ι ι' → Sim G F' ι' cs' H' → Paired (RepW G F' ι') ws vs → Q0 ws cs' → Q vs H') ∧
  ∀ F' ι' cs' x cls od H', Ext F F' ι ι' → Sim G F' ι' cs' H' → RepX G F' x cls od H' → E0 x cs' → Wx cls od σ H'
def DAs (X : Cx) (G : Gam) (Wx : WX) (es : List Expr) (t : DA) : Prop := PA X es (upA G Wx t)
abbrev DB := Nv → Cs → (Bool → Cs → Prop) → DX → Prop
def upT (G : Gam) (Wx : WX) (t : DB) : TT := fun σ H Q => ∃ F ι env cs Q0 E0, Sim G F ι cs H ∧ RepEnv G F ι env σ ∧ t env cs Q0 E0 ∧
  (∀ F' ι' cs' b H', Ext F F' ι ι' → Sim G F' ι' cs' H' → Q0 b cs' → Q b H') ∧
  ∀ F' ι' cs' x cls od H', Ext F F' ι ι' → Sim G F' ι' cs' H' → RepX G F' x cls od H' → E0 x cs' → Wx cls od σ H'
def DTst (X : Cx) (G : Gam) (Wx : WX) (e : Expr) (t : DB) : Prop := PT X e (upT G Wx t)
/-- the ends of a statement over data -/
structure DEnds where
  nx : Nv → Cs → Prop
  rt : DQ
  bk : Nv → Cs → Prop := fun _ _ => False
  ct : Nv → Cs → Prop := fun _ _ => False
  ex : Xc → Nv → Cs → Prop := fun _ _ _ => False
abbrev DS := DEnds → Nv → Cs → Prop
def upS (G : Gam) (Wx : WX) (t : DS) : TS := fun D σ H => ∃ F ι env cs D0, Sim G F ι cs H ∧ RepEnv G F ι env σ ∧ t D0 env cs ∧
  (∀ F' ι' cs' env' σ' H', Ext F F' ι ι' → Sim G F' ι' cs' H' → RepEnv G F' ι' env' σ' → D0.nx env' cs' → D.nx σ' H') ∧
  (∀ F' ι' cs' w v H', Ext F F' ι ι' → Sim G F' ι' cs' H' → RepW G F' ι' w v → D0.rt w cs' → D.rt v H') ∧
  (∀ F' ι' cs' env' σ' H', Ext F F' ι ι' → Sim G F' ι' cs' H' → RepEnv G F' ι' env' σ' → D0.bk env' cs' → D.bk σ' H') ∧
  (∀ F' ι' cs' env' σ' H', Ext F F' ι ι' → Sim G F' ι' cs' H' → RepEnv G F' ι' env' σ' → D0.ct env' cs' → D.ct σ' H') ∧
  ∀ F' ι' cs' x cls od env' σ' H', Ext F F' ι ι' → Sim G F' ι' cs' H' → RepEnv G F' ι' env' σ' → RepX G F' x cls od H' → D0.ex x env' cs' → Wx cls od σ' H'
def DSt (X : Cx) (G : Gam) (Wx : WX) (st : Stmt) (t : DS) : Prop := PS X st (upS G Wx t)
def DSs (X : Cx) (G : Gam) (Wx : WX) (st : List Stmt) (t : DS) : Prop := PSs X st (upS G Wx t)
theorem PE.imp {X : Cx} {e : Expr} {t u : TE} (h : PE X e t) (f : ∀ σ H Q, u σ H Q → t σ H Q) : PE X e u := ⟨fun pins s σ H Q I q => h.run pins s σ H Q I (f σ H Q q)⟩
theorem PT.imp {X : Cx} {e : Expr} {t u : TT} (h : PT X e t) (f : ∀ σ H Q, u σ H Q → t σ H Q) : PT X e u := ⟨fun pins s σ H Q I q => h.run pins s σ H Q I (f σ H Q q)⟩
theorem PA.imp {X : Cx} {e : List Expr} {t u : TA} (h : PA X e t) (f : ∀ σ H Q, u σ H Q → t σ H Q) : PA X e u := ⟨fun pos pins s σ H Q I q => h.run pos pins s σ H Q I (f σ H Q q)⟩
theorem PS.imp {X : Cx} {e : Stmt} {t u : TS} (h : PS X e t) (f : ∀ D σ H, u D σ H → t D σ H) : PS X e u := ⟨fun pins s σ H D I q => h.run pins s σ H D I (f D σ H q)⟩
theorem PSs.imp {X : Cx} {e : List Stmt} {t u : TS} (h : PSs X e t) (f : ∀ D σ H, u D σ H → t D σ H) : PSs X e u := ⟨fun pins s σ H D I q => h.run pins s σ H D I (f D σ H q)⟩
end DL
namespace DL
open PySem PySem.Spec L2
section
variable {G : Gam} {Wx : WX}
theorem Sim.dead {F : Hp} {ι : Pl} {cs : Cs} {H : Hp} (S : Sim G F ι cs H) {p : Addr} (h : H p = none) : F p = none := S.same.free h
theorem RepEnv.set {F : Hp} {ι : Pl} {env : Nv} {σ : St} {i : Nat} {w : W} {v : V} (R : RepEnv G F ι env σ) (r : RepW G F ι w v) : RepEnv G F ι (env.set i (some w)) (σ.set i (some v)) := by
  refine ⟨by simp [R.1], fun j x e => ?_⟩
  by_cases hj : i = j
  · subst hj
    by_cases hi : i < env.length
    · rw [List.getElem?_set_self hi] at e; cases e
      exact ⟨v, by rw [List.getElem?_set_self (by rw [← R.1]; exact hi)], r⟩
    · rw [List.getElem?_eq_none (by simpa using hi)] at e; cases e
  · rw [List.getElem?_set_ne hj] at e
    obtain ⟨u, h1, h2⟩ := R.2 j x e
    exact ⟨u, by rw [List.getElem?_set_ne hj]; exact h1, h2⟩
end
def dVar (i : Nat) : DT := fun env cs Q _ => match env[i]? with
  | some (some w) => Q w cs
  | _ => False
def dC (x : D) : DT := fun _ cs Q _ => Q (.d x) cs
abbrev Op2 := W → W → Cs → DQ → Prop
abbrev Op1 := W → Cs → DQ → Prop
abbrev OpN := List W → Cs → DQ → Prop
def dOp2 (o : Op2) (ta tb : DT) : DT := fun env cs Q E => ta env cs (fun x cs1 => tb env cs1 (fun y cs2 => o x y cs2 Q) E) E
def dOp1 (o : Op1) (ta : DT) : DT := fun env cs Q E => ta env cs (fun x cs1 => o x cs1 Q) E
def dOpN (o : OpN) (t : DA) : DT := fun env cs Q E => t env cs (fun xs cs1 => o xs cs1 Q) E
def upR (G : Gam) (o : Op2) : R2 := fun x y H Q => ∃ F ι cs wx wy Q0, Sim G F ι cs H ∧ RepW G F ι wx x ∧ RepW G F ι wy y ∧ o wx wy cs Q0 ∧
  ∀ F' ι' cs' w v H', Ext F F' ι ι' → Sim G F' ι' cs' H' → RepW G F' ι' w v → Q0 w cs' → Q v H'
def upRN (G : Gam) (o : OpN) : List V → Hp → VK → Prop := fun xs H Q => ∃ F ι cs ws Q0, Sim G F ι cs H ∧ Paired (RepW G F ι) ws xs ∧ o ws cs Q0 ∧
  ∀ F' ι' cs' w v H', Ext F F' ι ι' → Sim G F' ι' cs' H' → RepW G F' ι' w v → Q0 w cs' → Q v H'
def dNil : DA := fun _ cs Q _ => Q [] cs
def dCons (ta : DT) (tr : DA) : DA := fun env cs Q E => ta env cs (fun x cs1 => tr env cs1 (fun xs cs2 => Q (x :: xs) cs2) E) E
section
variable {X : Cx} {G : Gam} {Wx : WX} {a b : Expr} {ta tb : DT} {pos : Pos}
theorem op2_up {o : Op2} {σ : St} {H : Hp} {Q : VK} (h : upE G Wx (dOp2 o ta tb) σ H Q) : tOp (upR G o) (upE G Wx ta) (upE G Wx tb) σ H Q := by
  obtain ⟨F, ι, env, cs, Q0, E0, S, R, t, hq, he⟩ := h
  refine ⟨F, ι, env, cs, fun x cs1 => tb env cs1 (fun y cs2 => o x y cs2 Q0) E0, E0, S, R, t, fun F1 ι1 cs1 x v H1 e1 S1 r1 q1 => ?_, he⟩
  refine ⟨F1, ι1, env, cs1, fun y cs2 => o x y cs2 Q0, E0, S1, R.mono e1, q1, fun F2 ι2 cs2 y u H2 e2 S2 r2 q2 => ?_, fun F2 ι2 cs2 z cls od H2 e2 => he F2 ι2 cs2 z cls od H2 (e1.trans e2)⟩
  exact ⟨F2, ι2, cs2, x, y, Q0, S2, r1.mono e2, r2, q2, fun F3 ι3 cs3 w v' H3 e3 => hq F3 ι3 cs3 w v' H3 (e1.trans (e2.trans e3))⟩
theorem opN_up {o : OpN} {t : DA} {σ : St} {H : Hp} {Q : VK} (h : upE G Wx (dOpN o t) σ H Q) : upA G Wx t σ H fun xs H1 => upRN G o xs H1 Q := by
  obtain ⟨F, ι, env, cs, Q0, E0, S, R, t, hq, he⟩ := h
  refine ⟨F, ι, env, cs, fun x cs1 => o x cs1 Q0, E0, S, R, t, fun F1 ι1 cs1 x v H1 e1 S1 r1 q1 => ?_, he⟩
  exact ⟨F1, ι1, cs1, x, Q0, S1, r1, q1, fun F3 ι3 cs3 w v' H3 e3 => hq F3 ι3 cs3 w v' H3 (e1.trans e3)⟩
theorem e_var {i : Nat} {x : Str} (hN : X.N[i]? = some x) (hv : Vis X.env.scope x) (hd : (x == ("__debug__" : Str)) = false := by decide) (hcd : (x == ("__classdict__" : Str)) = false := by decide) : DE X G Wx (.Name x pos) (dVar i) := by
  refine PE.imp (pe_var hN hv hd hcd) fun σ H Q h => ?_
  obtain ⟨F, ι, env, cs, Q0, E0, S, R, t, hq, he⟩ := h
  unfold dVar at t
  cases e : env[i]? with
  | none => rw [e] at t; cases t
  | some w =>
    rw [e] at t
    cases w with
    | none => cases t
    | some w =>
      obtain ⟨v, h1, h2⟩ := R.2 i w e
      exact ⟨v, h1, hq F ι cs w v H .refl S h2 t⟩
/-- a value that is told by itself -/
theorem e_tC {e : Expr} {v : V} {x : D} (h : PE X e (tC v)) (r : ∀ F, Rep G F x v) : DE X G Wx e (dC x) := by
  refine PE.imp h fun σ H Q h => ?_
  obtain ⟨F, ι, env, cs, Q0, E0, S, R, t, hq, he⟩ := h
  exact hq F ι cs (.d x) v H .refl S (r F) t
theorem e_int {i j} : DE X G Wx (.Constant (.int i) j pos) (dC (.int i)) := e_tC pe_int fun F => by simp only [Rep]
theorem e_bl {b j} : DE X G Wx (.Constant (.bool b) j pos) (dC (.bl b)) := e_tC pe_bl fun F => by simp only [Rep]
theorem e_non {j} : DE X G Wx (.Constant .none j pos) (dC .non) := e_tC pe_non fun F => by simp only [Rep]
theorem e_str {x j} (hx : PyData.strOk x = true := by decide +kernel) : DE X G Wx (.Constant (.str x) j pos) (dC (.str x)) := e_tC pe_str fun F => by simp only [Rep]; exact ⟨True.intro, hx⟩
theorem e_glob {x : Str} {v : V} {u : Value} {y : D} (hg : Gl X x) (hm : X.mg x = some u) (r : RelV v u) (ry : ∀ F, Rep G F y v) (hd : (x == ("__debug__" : Str)) = false := by decide) : DE X G Wx (.Name x pos) (dC y) := e_tC (pe_glob hg hm r hd) ry
theorem e_bin {op : Operator} {o : Op2} (ho : OpR X (binaryOp op) (upR G o)) (ha : DE X G Wx a ta) (hb : DE X G Wx b tb) : DE X G Wx (.BinOp a op b pos) (dOp2 o ta tb) :=
  PE.imp (pe_op ho ha hb) fun _ _ _ => op2_up
theorem e_cmp {op : CmpOp} {o : Op2} (ho : OpR X (compareOp op) (upR G o)) (ha : DE X G Wx a ta) (hb : DE X G Wx b tb) (hm : behindInMarks op b = false) : DE X G Wx (.Compare a [op] [b] pos) (dOp2 o ta tb) :=
  PE.imp (pe_cmpR ho ha hb hm) fun _ _ _ => op2_up
theorem e_sub {o : Op2} (ho : IxR X (upR G o)) (ha : DE X G Wx a ta) (hb : DE X G Wx b tb) (hs : PlainIx b) : DE X G Wx (.Subscript a b pos) (dOp2 o ta tb) :=
  PE.imp (pe_ix ho ha hb hs) fun _ _ _ => op2_up
theorem a_nil : DAs X G Wx [] dNil := PA.imp pa_nil fun σ H Q h => by
  obtain ⟨F, ι, env, cs, Q0, E0, S, R, t, hq, he⟩ := h
  exact hq F ι cs [] [] H .refl S .nil t
theorem a_cons {e : Expr} {es : List Expr} {te : DT} {t : DA} (ha : DE X G Wx e te) (hr : DAs X G Wx es t) (hs : starEach (e :: es) X.env = (false, eval e X.env) :: starEach es X.env := by rfl) : DAs X G Wx (e :: es) (dCons te t) :=
  PA.imp (pa_cons ha hr hs) fun σ H Q h => by
    obtain ⟨F, ι, env, cs, Q0, E0, S, R, t, hq, he⟩ := h
    refine ⟨F, ι, env, cs, _, E0, S, R, t, fun F1 ι1 cs1 x v H1 e1 S1 r1 q1 => ?_, he⟩
    refine ⟨F1, ι1, env, cs1, _, E0, S1, R.mono e1, q1, fun F2 ι2 cs2 ys us H2 e2 S2 r2 q2 => ?_, fun F2 ι2 cs2 z cls od H2 e2 => he F2 ι2 cs2 z cls od H2 (e1.trans e2)⟩
    exact hq F2 ι2 cs2 (x :: ys) (v :: us) H2 (e1.trans e2) S2 (.cons (r1.mono e2) r2) q2
def dTest (t : DT) : DB := fun env cs Q E => t env cs (fun w cs1 => match w with
  | .d (.bl b) => Q b cs1
  | _ => False) E
def dAnd (t u : DB) : DB := fun env cs Q E => t env cs (fun c cs1 => if c = true then u env cs1 Q E else Q false cs1) E
def dOr (t u : DB) : DB := fun env cs Q E => t env cs (fun c cs1 => if c = true then Q true cs1 else u env cs1 Q E) E
def dNot (t : DB) : DB := fun env cs Q E => t env cs (fun c cs1 => Q (!c) cs1) E
def dIf (c : DB) (ta tb : DT) : DT := fun env cs Q E => c env cs (fun b cs1 => if b = true then ta env cs1 Q E else tb env cs1 Q E) E
variable {tA tB : DB} {rest : List Expr} {e : Expr} {te : DT}
theorem test_up {σ : St} {H : Hp} {Q : Bool → Hp → Prop} (h : upT G Wx (dTest te) σ H Q) : upE G Wx te σ H fun x H1 => ∃ c, x = .bl c ∧ Q c H1 := by
  obtain ⟨F, ι, env, cs, Q0, E0, S, R, t, hq, he⟩ := h
  refine ⟨F, ι, env, cs, _, E0, S, R, t, fun F1 ι1 cs1 x v H1 e1 S1 r1 q1 => ?_, he⟩
  cases x with
  | c i => cases q1
  | dead => cases q1
  | tp xs => cases q1
  | d x =>
    cases x with
    | bl b =>
      have r1 : Rep G F1 (.bl b) v := r1
      simp only [Rep] at r1
      exact ⟨b, r1, hq F1 ι1 cs1 b H1 e1 S1 q1⟩
    | _ => cases q1
theorem t_val (h : DE X G Wx e te) (he : ∀ whole, isTrue e X.env whole = (do let v ← whole; standAt e.pos; holding [v] (truthy v)) := by intro _; rfl) : DTst X G Wx e (dTest te) :=
  PT.imp (pt_val h he) fun σ H Q => test_up
/-- a comparison as a test -/
theorem t_cmp {op : CmpOp} {o : Op2} (ho : OpR X (compareOp op) (upR G o)) (ha : DE X G Wx a ta) (hb : DE X G Wx b tb) (hm : behindInMarks op b = false) : DTst X G Wx (.Compare a [op] [b] pos) (dTest (dOp2 o ta tb)) :=
  PT.imp (pt_cmpR ho ha hb hm) fun σ H Q h => by
    have h1 := test_up h
    obtain ⟨F, ι, env, cs, Q0, E0, S, R, t, hq, he⟩ := h1
    exact op2_up ⟨F, ι, env, cs, Q0, E0, S, R, t, hq, he⟩
theorem and_up {σ : St} {H : Hp} {Q : Bool → Hp → Prop} (h : upT G Wx (dAnd tA tB) σ H Q) : tAnd (upT G Wx tA) (upT G Wx tB) σ H Q := by
  obtain ⟨F, ι, env, cs, Q0, E0, S, R, t, hq, he⟩ := h
  refine ⟨F, ι, env, cs, _, E0, S, R, t, fun F1 ι1 cs1 b H1 e1 S1 q1 => ?_, he⟩
  (try dsimp only); split
  · rename_i hb
    rw [if_pos hb] at q1
    exact ⟨F1, ι1, env, cs1, Q0, E0, S1, R.mono e1, q1, fun F2 ι2 cs2 z H2 e2 => hq F2 ι2 cs2 z H2 (e1.trans e2), fun F2 ι2 cs2 z cls od H2 e2 => he F2 ι2 cs2 z cls od H2 (e1.trans e2)⟩
  · rename_i hb
    rw [if_neg hb] at q1
    exact hq F1 ι1 cs1 false H1 e1 S1 q1
theorem or_up {σ : St} {H : Hp} {Q : Bool → Hp → Prop} (h : upT G Wx (dOr tA tB) σ H Q) : tOr (upT G Wx tA) (upT G Wx tB) σ H Q := by
  obtain ⟨F, ι, env, cs, Q0, E0, S, R, t, hq, he⟩ := h
  refine ⟨F, ι, env, cs, _, E0, S, R, t, fun F1 ι1 cs1 b H1 e1 S1 q1 => ?_, he⟩
  (try dsimp only); split
  · rename_i hb
    rw [if_pos hb] at q1
    exact hq F1 ι1 cs1 true H1 e1 S1 q1
  · rename_i hb
    rw [if_neg hb] at q1
    exact ⟨F1, ι1, env, cs1, Q0, E0, S1, R.mono e1, q1, fun F2 ι2 cs2 z H2 e2 => hq F2 ι2 cs2 z H2 (e1.trans e2), fun F2 ι2 cs2 z cls od H2 e2 => he F2 ι2 cs2 z cls od H2 (e1.trans e2)⟩
/-- and, or, as chains -/
def DW (X : Cx) (G : Gam) (Wx : WX) (e : Expr) (t : DB) : Prop := PW X e (upT G Wx t)
theorem PW.imp {e : Expr} {t u : TT} (h : PW X e t) (f : ∀ σ H Q, u σ H Q → t σ H Q) : PW X e u := ⟨fun wh pins s σ H Q I q => h.run wh pins s σ H Q I (f σ H Q q)⟩
theorem w_and1 (ha : DTst X G Wx a tA) : DW X G Wx (.BoolOp .And [a] pos) tA := pw_and1 ha
theorem w_or1 (ha : DTst X G Wx a tA) : DW X G Wx (.BoolOp .Or [a] pos) tA := pw_or1 ha
theorem w_and (ha : DTst X G Wx a tA) (hb : DW X G Wx (.BoolOp .And (b :: rest) pos) tB) : DW X G Wx (.BoolOp .And (a :: b :: rest) pos) (dAnd tA tB) := PW.imp (pw_and ha hb) fun _ _ _ => and_up
theorem w_or (ha : DTst X G Wx a tA) (hb : DW X G Wx (.BoolOp .Or (b :: rest) pos) tB) : DW X G Wx (.BoolOp .Or (a :: b :: rest) pos) (dOr tA tB) := PW.imp (pw_or ha hb) fun _ _ _ => or_up
theorem t_bool (h : DW X G Wx e tA) : DTst X G Wx e tA := h.pt
theorem t_not (ha : DTst X G Wx a tA) : DTst X G Wx (.UnaryOp .Not a pos) (dNot tA) := PT.imp (pt_not ha) fun σ H Q h => by
  obtain ⟨F, ι, env, cs, Q0, E0, S, R, t, hq, he⟩ := h
  exact ⟨F, ι, env, cs, _, E0, S, R, t, fun F1 ι1 cs1 b H1 e1 S1 q1 => hq F1 ι1 cs1 (!b) H1 e1 S1 q1, he⟩
theorem e_ifExp {c : Expr} {tc : DB} (hc : DTst X G Wx c tc) (ha : DE X G Wx a ta) (hb : DE X G Wx b tb) : DE X G Wx (.IfExp c a b pos) (dIf tc ta tb) := PE.imp (pe_ifExp hc ha hb) fun σ H Q h => by
  obtain ⟨F, ι, env, cs, Q0, E0, S, R, t, hq, he⟩ := h
  refine ⟨F, ι, env, cs, _, E0, S, R, t, fun F1 ι1 cs1 b H1 e1 S1 q1 => ?_, he⟩
  (try dsimp only); split
  · rename_i hb
    rw [if_pos hb] at q1
    exact ⟨F1, ι1, env, cs1, Q0, E0, S1, R.mono e1, q1, fun F2 ι2 cs2 z v H2 e2 => hq F2 ι2 cs2 z v H2 (e1.trans e2), fun F2 ι2 cs2 z cls od H2 e2 => he F2 ι2 cs2 z cls od H2 (e1.trans e2)⟩
  · rename_i hb
    rw [if_neg hb] at q1
    exact ⟨F1, ι1, env, cs1, Q0, E0, S1, R.mono e1, q1, fun F2 ι2 cs2 z v H2 e2 => hq F2 ι2 cs2 z v H2 (e1.trans e2), fun F2 ι2 cs2 z cls od H2 e2 => he F2 ι2 cs2 z cls od H2 (e1.trans e2)⟩
/-- and, or, not as values: bools -/
def dAndV (ta tb : DT) : DT := fun env cs Q E => ta env cs (fun w cs1 => match w with
  | .d (.bl c) => if c = true then tb env cs1 Q E else Q (.d (.bl false)) cs1
  | _ => False) E
def dOrV (ta tb : DT) : DT := fun env cs Q E => ta env cs (fun w cs1 => match w with
  | .d (.bl c) => if c = true then Q (.d (.bl true)) cs1 else tb env cs1 Q E
  | _ => False) E
def dNotV (ta : DT) : DT := fun env cs Q E => ta env cs (fun w cs1 => match w with
  | .d (.bl c) => Q (.d (.bl (!c))) cs1
  | _ => False) E
theorem e_one {op} (h : DE X G Wx a ta) : DE X G Wx (.BoolOp op [a] pos) ta := pe_one h
theorem e_and (ha : DE X G Wx a ta) (hb : DE X G Wx (.BoolOp .And (b :: rest) pos) tb) : DE X G Wx (.BoolOp .And (a :: b :: rest) pos) (dAndV ta tb) := PE.imp (pe_and ha hb) fun σ H Q h => by
  obtain ⟨F, ι, env, cs, Q0, E0, S, R, t, hq, he⟩ := h
  refine ⟨F, ι, env, cs, _, E0, S, R, t, fun F1 ι1 cs1 x v H1 e1 S1 r1 q1 => ?_, he⟩
  cases x with
  | c i => cases q1
  | dead => cases q1
  | tp xs => cases q1
  | d x =>
    cases x with
    | bl b =>
      have r1 : Rep G F1 (.bl b) v := r1
      simp only [Rep] at r1
      refine ⟨b, r1, ?_⟩
      have q1 : if b = true then tb env cs1 Q0 E0 else Q0 (.d (.bl false)) cs1 := q1
      (try dsimp only); split
      · rename_i hb
        rw [if_pos hb] at q1
        exact ⟨F1, ι1, env, cs1, Q0, E0, S1, R.mono e1, q1, fun F2 ι2 cs2 z v H2 e2 => hq F2 ι2 cs2 z v H2 (e1.trans e2), fun F2 ι2 cs2 z cls od H2 e2 => he F2 ι2 cs2 z cls od H2 (e1.trans e2)⟩
      · rename_i hb
        rw [if_neg hb] at q1
        exact hq F1 ι1 cs1 _ _ H1 e1 S1 (by simp only [RepW, Rep]) q1
    | _ => cases q1
theorem e_not (ha : DE X G Wx a ta) : DE X G Wx (.UnaryOp .Not a pos) (dNotV ta) := PE.imp (pe_not ha) fun σ H Q h => by
  obtain ⟨F, ι, env, cs, Q0, E0, S, R, t, hq, he⟩ := h
  refine ⟨F, ι, env, cs, _, E0, S, R, t, fun F1 ι1 cs1 x v H1 e1 S1 r1 q1 => ?_, he⟩
  cases x with
  | c i => cases q1
  | dead => cases q1
  | tp xs => cases q1
  | d x =>
    cases x with
    | bl b =>
      have r1 : Rep G F1 (.bl b) v := r1
      simp only [Rep] at r1
      exact ⟨b, r1, hq F1 ι1 cs1 _ _ H1 e1 S1 (by simp only [RepW, Rep]) q1⟩
    | _ => cases q1
def dNext : DS := fun D env cs => D.nx env cs
def dSeq (t u : DS) : DS := fun D env cs => t { D with nx := u D } env cs
def dRet (t : DT) : DS := fun D env cs => t env cs D.rt fun x cs1 => D.ex x env cs1
def dRetN : DS := fun D _ cs => D.rt (.d .non) cs
def dDrop (t : DT) : DS := fun D env cs => t env cs (fun _ cs1 => D.nx env cs1) fun x cs1 => D.ex x env cs1
def dIfS (c : DB) (t u : DS) : DS := fun D env cs => c env cs (fun b cs1 => if b = true then t D env cs1 else u D env cs1) fun x cs1 => D.ex x env cs1
def dNever : DS := fun _ _ _ => False
abbrev DG := W → Nv → Cs → (Nv → Cs → Prop) → Prop
def dAsg (t : DT) (g : DG) : DS := fun D env cs => t env cs (fun w cs1 => g w env cs1 D.nx) fun x cs1 => D.ex x env cs1
def dgName (i : Nat) : DG := fun w env cs Q => Q (env.set i (some w)) cs
def upG (G : Gam) (vs : List Nat) (t : DG) : TG := fun v σ H Q => ∃ F ι env cs w Q0, Sim G F ι cs H ∧ RepEnv G F ι env σ ∧ RepW G F ι w v ∧ t w env cs Q0 ∧
  ∀ F' ι' cs' env' σ' H', Ext F F' ι ι' → Sim G F' ι' cs' H' → RepEnv G F' ι' env' σ' → wipe σ' vs = wipe σ vs → Q0 env' cs' → Q σ' H'
theorem wipe_set {i : Nat} {v : Option V} : ∀ {vs : List Nat} {σ : St}, i ∈ vs → wipe (σ.set i v) vs = wipe σ vs
  | u :: vs, σ, h => by
    unfold wipe
    by_cases hu : i ∈ vs
    · rw [wipe_set hu]
    · have e : i = u := by
        rcases List.mem_cons.mp h with z | z
        · exact z
        · exact absurd z hu
      subst e
      rw [wipe_set_out hu, List.set_set]
where
  wipe_set_out {i : Nat} {v : Option V} : ∀ {vs : List Nat} {σ : St}, i ∉ vs → wipe (σ.set i v) vs = (wipe σ vs).set i v
    | [], _, _ => rfl
    | u :: vs, σ, h => by
      unfold wipe
      rw [wipe_set_out fun z => h (List.mem_cons_of_mem _ z)]
      exact List.set_comm _ _ fun z => h (z ▸ List.mem_cons_self)
def DGt (X : Cx) (G : Gam) (vs : List Nat) (tg : Expr) (t : DG) : Prop := PG X tg (upG G vs t)
theorem PG.imp {e : Expr} {t u : TG} (h : PG X e t) (f : ∀ v σ H Q, u v σ H Q → t v σ H Q) : PG X e u := ⟨fun pins s σ H v w Q I r q => h.run pins s σ H v w Q I r (f v σ H Q q)⟩
variable {st : Stmt} {rs : List Stmt} {t u : DS}
theorem s_nil : DSs X G Wx [] dNext := PSs.imp pss_nil fun D σ H h => by
  obtain ⟨F, ι, env, cs, D0, S, R, t, h1, h2, h3, h4, h5⟩ := h
  exact h1 F ι cs env σ H .refl S R t
theorem s_cons (h1 : DSt X G Wx st t) (h2 : DSs X G Wx rs u) : DSs X G Wx (st :: rs) (dSeq t u) := PSs.imp (pss_cons h1 h2) fun D σ H h => by
  obtain ⟨F, ι, env, cs, D0, S, R, t, g1, g2, g3, g4, g5⟩ := h
  refine ⟨F, ι, env, cs, _, S, R, t, fun F1 ι1 cs1 env1 σ1 H1 e1 S1 R1 q1 => ?_, g2, g3, g4, g5⟩
  exact ⟨F1, ι1, env1, cs1, D0, S1, R1, q1, fun F2 ι2 cs2 z σ2 H2 e2 => g1 F2 ι2 cs2 z σ2 H2 (e1.trans e2), fun F2 ι2 cs2 z v H2 e2 => g2 F2 ι2 cs2 z v H2 (e1.trans e2), fun F2 ι2 cs2 z σ2 H2 e2 => g3 F2 ι2 cs2 z σ2 H2 (e1.trans e2),
    fun F2 ι2 cs2 z σ2 H2 e2 => g4 F2 ι2 cs2 z σ2 H2 (e1.trans e2), fun F2 ι2 cs2 x cls od z σ2 H2 e2 => g5 F2 ι2 cs2 x cls od z σ2 H2 (e1.trans e2)⟩
theorem s_one (h1 : DSt X G Wx st t) : DSs X G Wx [st] t := pss_one h1
theorem s_never : DSt X G Wx st dNever := PS.imp (ps_never (X := X)) fun D σ H h => by
  obtain ⟨F, ι, env, cs, D0, S, R, t, _⟩ := h
  exact t
theorem s_expr (he : DE X G Wx e te) (hs : swapsWith e none pos.line X.env = pure false := by rfl) : DSt X G Wx (.Expr e pos) (dDrop te) := PS.imp (ps_expr he hs) fun D σ H h => by
  obtain ⟨F, ι, env, cs, D0, S, R, t, h1, h2, h3, h4, h5⟩ := h
  exact ⟨F, ι, env, cs, _, _, S, R, t, fun F1 ι1 cs1 x v H1 e1 S1 r1 q1 => h1 F1 ι1 cs1 env σ H1 e1 S1 (R.mono e1) q1, fun F1 ι1 cs1 x cls od H1 e1 S1 r1 q1 => h5 F1 ι1 cs1 x cls od env σ H1 e1 S1 (R.mono e1) r1 q1⟩
theorem s_ret (he : DE X G Wx e te) : DSt X G Wx (.Return (some e) pos) (dRet te) := PS.imp (ps_ret he) fun D σ H h => by
  obtain ⟨F, ι, env, cs, D0, S, R, t, h1, h2, h3, h4, h5⟩ := h
  exact ⟨F, ι, env, cs, _, _, S, R, t, fun F1 ι1 cs1 x v H1 e1 S1 r1 q1 => h2 F1 ι1 cs1 x v H1 e1 S1 r1 q1, fun F1 ι1 cs1 x cls od H1 e1 S1 r1 q1 => h5 F1 ι1 cs1 x cls od env σ H1 e1 S1 (R.mono e1) r1 q1⟩
theorem s_if {c : Expr} {as bs : List Stmt} {tc : DB} (hc : DTst X G Wx c tc) (ha : DSs X G Wx as t) (hb : DSs X G Wx bs u) : DSt X G Wx (.If c as bs pos) (dIfS tc t u) := PS.imp (ps_if hc ha hb) fun D σ H h => by
  obtain ⟨F, ι, env, cs, D0, S, R, t, g1, g2, g3, g4, g5⟩ := h
  refine ⟨F, ι, env, cs, _, _, S, R, t, fun F1 ι1 cs1 b H1 e1 S1 q1 => ?_, fun F1 ι1 cs1 x cls od H1 e1 S1 r1 q1 => g5 F1 ι1 cs1 x cls od env σ H1 e1 S1 (R.mono e1) r1 q1⟩
  (try dsimp only); split
  all_goals
    rename_i hb
    first | rw [if_pos hb] at q1 | rw [if_neg hb] at q1
    exact ⟨F1, ι1, env, cs1, D0, S1, R.mono e1, q1, fun F2 ι2 cs2 z σ2 H2 e2 => g1 F2 ι2 cs2 z σ2 H2 (e1.trans e2), fun F2 ι2 cs2 z v H2 e2 => g2 F2 ι2 cs2 z v H2 (e1.trans e2), fun F2 ι2 cs2 z σ2 H2 e2 => g3 F2 ι2 cs2 z σ2 H2 (e1.trans e2),
      fun F2 ι2 cs2 z σ2 H2 e2 => g4 F2 ι2 cs2 z σ2 H2 (e1.trans e2), fun F2 ι2 cs2 x cls od z σ2 H2 e2 => g5 F2 ι2 cs2 x cls od z σ2 H2 (e1.trans e2)⟩
theorem g_name {i : Nat} {x : Str} (hN : X.N.Nodup) (hi : X.N[i]? = some x) (hx : Loc X.env.scope x) (hf : X.fn x = true ∨ X.env.scope.names.lookup x = some .local := by first | exact .inl rfl | exact .inr rfl | assumption) {vs : List Nat} (hv : i ∈ vs) : DGt X G vs (.Name x pos) (dgName i) :=
  PG.imp (pg_name hN hi hx hf) fun v σ H Q h => by
    obtain ⟨F, ι, env, cs, w, Q0, S, R, r, t, hq⟩ := h
    exact hq F ι cs _ _ H .refl S (R.set r) (wipe_set hv) t
theorem s_asg {tg : Expr} {g : DG} {vs : List Nat} (he : DE X G Wx e te) (hg : DGt X G vs tg g) (hs : swapsWithSole [tg] e pos.line X.env = pure false := by rfl) (hw : swappedStores [tg] e X.env = pure none := by rfl)
    (h1 : (assignEach [tg] X.env).map (·.2) = [assign tg X.env] := by rfl) : DSt X G Wx (.Assign [tg] e pos) (dAsg te g) :=
  PS.imp (ps_asg he hg hs hw h1) fun D σ H h => by
    obtain ⟨F, ι, env, cs, D0, S, R, t, h1, h2, h3, h4, h5⟩ := h
    refine ⟨F, ι, env, cs, _, _, S, R, t, fun F1 ι1 cs1 x v H1 e1 S1 r1 q1 => ?_, fun F1 ι1 cs1 x cls od H1 e1 S1 r1 q1 => h5 F1 ι1 cs1 x cls od env σ H1 e1 S1 (R.mono e1) r1 q1⟩
    exact ⟨F1, ι1, env, cs1, x, _, S1, R.mono e1, r1, q1, fun F2 ι2 cs2 z σ2 H2 e2 S2 R2 _ => h1 F2 ι2 cs2 z σ2 H2 (e1.trans e2) S2 R2⟩
end
end DL
namespace DL
open PySem PySem.Spec L2
section
variable {G : Gam} {F H : Hp} {ι : Pl} {cs : Cs}
theorem CellAt.mono {F' H' : Hp} {ι' : Pl} {a : Addr} {x : Cell} (h : CellAt G F ι H a x) (e : Ext F F' ι ι') (hF : F a = none → F' a = none) (hH : ∀ o, H a = some o → H' a = some o) : CellAt G F' ι' H' a x := by
  cases x with
  | lst xs =>
    obtain ⟨h1, vs, h2, h3⟩ := h
    exact ⟨hF h1, vs, hH _ h2, Reps.mono e.same _ _ h3⟩
  | dct kvs o =>
    obtain ⟨h1, h0, ks, ps, h2, h3, h4⟩ := h
    exact ⟨hF h1, h0, ks, ps, hH _ h2, h3, RepKV.mono e.same _ _ _ h4⟩
  | obj c fs =>
    obtain ⟨h1, C, nm, dx, gs, vs, h2, h3, h4, h5⟩ := h
    exact ⟨hF h1, C, nm, dx, gs, vs, hH _ h2, h3, h4, Paired.imp' (fun _ _ q => q.mono e) h5⟩
  | frz x =>
    obtain ⟨h1, h2⟩ := h
    refine ⟨fun z => h1 ?_, Rep.mono e.same _ _ h2⟩
    exact e.same.free z
theorem CellAt.there {a : Addr} {x : Cell} (s : Same F H) (h : CellAt G F ι H a x) : ∃ o, H a = some o := by
  cases x with
  | lst xs => obtain ⟨_, vs, h2, _⟩ := h; exact ⟨_, h2⟩
  | dct kvs o => obtain ⟨_, _, ks, ps, h2, _⟩ := h; exact ⟨_, h2⟩
  | obj c fs => obtain ⟨_, C, nm, dx, gs, vs, h2, _⟩ := h; exact ⟨_, h2⟩
  | frz x =>
    obtain ⟨h1, _⟩ := h
    cases q : F a with
    | none => exact absurd q h1
    | some o => exact ⟨o, s _ _ q⟩
theorem Sim.live (S : Sim G F ι cs H) {i : Nat} {a : Addr} (h : ι.l[i]? = some a) : ∃ o, H a = some o := by
  have hi : i < cs.length := by rw [← S.len]; exact (List.getElem?_eq_some_iff.mp h).1
  obtain ⟨a', e, c⟩ := S.cell i _ (List.getElem?_eq_getElem hi)
  rw [h] at e; cases e
  exact c.there S.same
/-- a new object that is fixed at once -/
theorem Sim.fixed (S : Sim G F ι cs H) {p : Addr} {o : HO} (hp : H p = none) : Ext F (upd F p o) ι ι ∧ Sim G (upd F p o) ι cs (upd H p o) := by
  have hF : F p = none := S.dead hp
  have hR : ι.R p = none := S.fr.free hp
  have e : Ext F (upd F p o) ι ι := ⟨fun b u q => by rw [upd_ne (ne_of_none q hF)]; exact q, List.prefix_refl _, rfl⟩
  refine ⟨e, fun b u q => ?_, S.len, S.nd.mono e.same, fun i x q => ?_, fun b u q => by rw [upd_ne (ne_of_none q hR)]; exact S.fr _ _ q, fun b q => ?_⟩
  · by_cases hb : b = p
    · subst hb; rw [upd_same] at q ⊢; exact q
    · rw [upd_ne hb] at q ⊢; exact S.same _ _ q
  · obtain ⟨a, h1, h2⟩ := S.cell i x q
    obtain ⟨u, hu⟩ := S.live h1
    have ha : a ≠ p := ne_of_none hu hp
    exact ⟨a, h1, h2.mono e (fun z => by rw [upd_ne ha]; exact z) fun v z => by rw [upd_ne ha]; exact z⟩
  · have hb : b ≠ p := fun z => q (z ▸ hR)
    rw [upd_ne hb]
    exact S.ap b q
/-- a new object that is owned -/
theorem Sim.owned (S : Sim G F ι cs H) {p : Addr} {o : HO} {x : Cell} (hp : H p = none) (hx : ∀ ι', CellAt G F ι' (upd H p o) p x) : Ext F F ι (ι.add p) ∧ Sim G F (ι.add p) (cs ++ [x]) (upd H p o) := by
  have hF : F p = none := S.dead hp
  have hR : ι.R p = none := S.fr.free hp
  have e : Ext F F ι (ι.add p) := ⟨Same.refl _, List.prefix_append _ _, rfl⟩
  have hn : p ∉ ι.l := fun hm => by
    obtain ⟨i, hi⟩ := List.mem_iff_getElem?.mp hm
    obtain ⟨u, hu⟩ := S.live hi
    rw [hp] at hu; cases hu
  refine ⟨e, fun b u q => ?_, by simp [Pl.add, S.len], ?_, fun i y q => ?_, fun b u q => by rw [upd_ne (ne_of_none q hR)]; exact S.fr _ _ q, fun b q => ⟨(S.ap b q).1, fun z => ?_⟩⟩
  · rw [upd_ne (ne_of_none q hF)]; exact S.same _ _ q
  · exact S.nd.snoc hn
  · by_cases hi : i < cs.length
    · rw [List.getElem?_append_left hi] at q
      obtain ⟨a, h1, h2⟩ := S.cell i y q
      obtain ⟨u, hu⟩ := S.live h1
      have ha : a ≠ p := ne_of_none hu hp
      exact ⟨a, e.at_ h1, h2.mono e id fun v z => by rw [upd_ne ha]; exact z⟩
    · have hi' : i = cs.length := by
        have := (List.getElem?_eq_some_iff.mp q).1
        simp at this; omega
      subst hi'
      rw [List.getElem?_append_right (Nat.le_refl _)] at q
      simp at q; subst q
      exact ⟨p, by rw [← S.len]; simp [Pl.add], hx _⟩
  · have z' : b ∈ ι.l ++ [p] := z
    rcases List.mem_append.mp z' with z | z
    · exact (S.ap b q).2 z
    · simp at z; subst z; exact q hR
/-- an owned object is written -/
theorem Sim.write (S : Sim G F ι cs H) {i : Nat} {a : Addr} {o : HO} {x y : Cell} (h : ι.l[i]? = some a) (hy : cs[i]? = some y) (hF : F a = none) (hx : CellAt G F ι (upd H a o) a x) : Sim G F ι (cs.set i x) (upd H a o) := by
  have hR : ∀ b u, ι.R b = some u → b ≠ a := fun b u q z => (S.ap b (by rw [q]; simp)).2 (z ▸ List.mem_of_getElem? h)
  refine ⟨fun b u q => by rw [upd_ne (ne_of_none q hF)]; exact S.same _ _ q, by simp [S.len], S.nd, fun j z q => ?_, fun b u q => by rw [upd_ne (hR b u q)]; exact S.fr _ _ q, S.ap⟩
  by_cases hj : i = j
  · subst hj
    have hi : i < cs.length := (List.getElem?_eq_some_iff.mp hy).1
    rw [List.getElem?_set_self hi] at q; cases q
    exact ⟨a, h, hx⟩
  · rw [List.getElem?_set_ne hj] at q
    obtain ⟨b, h1, h2⟩ := S.cell j z q
    have hb : b ≠ a := fun z => by
      subst z
      exact hj (S.nd i j b h h1 hF)
    exact ⟨b, h1, h2.mono .refl id fun v z => by rw [upd_ne hb]; exact z⟩
/-- an owned object is fixed from now on -/
theorem Sim.freeze (S : Sim G F ι cs H) {i : Nat} {a : Addr} {o : HO} {y : Cell} {x : D} (h : ι.l[i]? = some a) (hy : cs[i]? = some y) (hF : F a = none) (hH : H a = some o) (hx : Rep G (upd F a o) x (.ref a)) :
    Ext F (upd F a o) ι ι ∧ Sim G (upd F a o) ι (cs.set i (.frz x)) H := by
  have e : Ext F (upd F a o) ι ι := ⟨fun b u q => by rw [upd_ne (ne_of_none q hF)]; exact q, List.prefix_refl _, rfl⟩
  refine ⟨e, fun b u q => ?_, by simp [S.len], S.nd.mono e.same, fun j z q => ?_, S.fr, fun b q => ?_⟩
  · by_cases hb : b = a
    · subst hb; rw [upd_same] at q; cases q; exact hH
    · rw [upd_ne hb] at q; exact S.same _ _ q
  · by_cases hj : i = j
    · subst hj
      have hi : i < cs.length := (List.getElem?_eq_some_iff.mp hy).1
      rw [List.getElem?_set_self hi] at q; cases q
      exact ⟨a, h, by rw [upd_same]; simp, hx⟩
    · rw [List.getElem?_set_ne hj] at q
      obtain ⟨b, h1, h2⟩ := S.cell j z q
      have hb : b ≠ a := fun z => by
        subst z
        exact hj (S.nd i j b h h1 hF)
      exact ⟨b, h1, h2.mono e (fun z => by rw [upd_ne hb]; exact z) fun _ z => z⟩
  · have hb : b ≠ a := fun z => (S.ap b q).2 (z ▸ List.mem_of_getElem? h)
    rw [upd_ne hb]
    exact S.ap b q
end
def fixC (i : Nat) (cs : Cs) (Q : D → Cs → Prop) : Prop := match cs[i]? with
  | some (.frz x) => Q x cs
  | some (.lst xs) => Q (.lst xs) (cs.set i (.frz (.lst xs)))
  | some (.dct kvs _) => Q (.dct kvs) (cs.set i (.frz (.dct kvs)))
  | _ => False
def fixW (w : W) (cs : Cs) (Q : D → Cs → Prop) : Prop := match w with
  | .d x => Q x cs
  | .c i => fixC i cs Q
  | .dead => False
  | .tp _ => False
def fixAll : List W → Cs → (List D → Cs → Prop) → Prop
  | [], cs, Q => Q [] cs
  | w :: ws, cs, Q => fixW w cs fun x cs1 => fixAll ws cs1 fun xs cs2 => Q (x :: xs) cs2
section
variable {G : Gam} {F H : Hp} {ι : Pl} {cs : Cs}
theorem fixW_ok (S : Sim G F ι cs H) {w : W} {v : V} (r : RepW G F ι w v) {Q : D → Cs → Prop} (h : fixW w cs Q) : ∃ F' cs' x, Ext F F' ι ι ∧ Sim G F' ι cs' H ∧ Rep G F' x v ∧ Q x cs' := by
  cases w with
  | d x => exact ⟨F, cs, x, .refl, S, r, h⟩
  | dead => cases h
  | tp xs => cases h
  | c i =>
    obtain ⟨a, ha, rfl⟩ := r
    have h : fixC i cs Q := h
    unfold fixC at h
    cases e : cs[i]? with
    | none => rw [e] at h; cases h
    | some y =>
      rw [e] at h
      obtain ⟨a', e', c⟩ := S.cell i y e
      rw [ha] at e'; cases e'
      cases y with
      | frz x => exact ⟨F, cs, x, .refl, S, c.2, h⟩
      | lst xs =>
        obtain ⟨h1, vs, h2, h3⟩ := c
        obtain ⟨E1, S1⟩ := S.freeze (x := .lst xs) ha e h1 h2 (by
          simp only [Rep]
          exact ⟨a, vs, rfl, upd_same, Reps.mono (fun b u q => by rw [upd_ne (ne_of_none q h1)]; exact q) _ _ h3⟩)
        exact ⟨_, _, _, E1, S1, by
          simp only [Rep]
          exact ⟨a, vs, rfl, upd_same, Reps.mono E1.same _ _ h3⟩, h⟩
      | dct kvs o =>
        obtain ⟨h1, h0, ks, ps, h2, h3, h4⟩ := c
        obtain ⟨E1, S1⟩ := S.freeze (x := .dct kvs) ha e h1 h2 (by
          simp only [Rep]
          exact ⟨a, o, ks, ps, rfl, ⟨h0, .inl upd_same⟩, h3, RepKV.mono (fun b u q => by rw [upd_ne (ne_of_none q h1)]; exact q) _ _ _ h4⟩)
        exact ⟨_, _, _, E1, S1, by
          simp only [Rep]
          exact ⟨a, o, ks, ps, rfl, ⟨h0, .inl upd_same⟩, h3, RepKV.mono E1.same _ _ _ h4⟩, h⟩
      | obj c fs => cases h
theorem fixAll_ok : ∀ {ws : List W} {vs : List V} {F : Hp} {cs : Cs} {Q : List D → Cs → Prop}, Sim G F ι cs H → Paired (RepW G F ι) ws vs → fixAll ws cs Q → ∃ F' cs' xs, Ext F F' ι ι ∧ Sim G F' ι cs' H ∧ Reps G F' xs vs ∧ Q xs cs'
  | [], _, F, cs, Q, S, .nil, h => ⟨F, cs, [], .refl, S, Reps.nil, h⟩
  | w :: ws, _, F, cs, Q, S, .cons r t, h => by
    obtain ⟨F1, cs1, x, e1, S1, r1, h1⟩ := fixW_ok S r h
    obtain ⟨F2, cs2, xs, e2, S2, r2, h2⟩ := fixAll_ok S1 (Paired.imp' (fun _ _ q => q.mono e1) t) h1
    exact ⟨F2, cs2, x :: xs, e1.trans e2, S2, Reps.cons (Rep.mono e2.same _ _ r1) r2, h2⟩
end
def dTup (t : DA) : DT := fun env cs Q E => t env cs (fun ws cs1 => fixAll ws cs1 fun ds cs2 => ds.length ≤ sizeLine ∧ Q (.d (.tup ds)) cs2) E
def dLst (t : DA) : DT := fun env cs Q E => t env cs (fun ws cs1 => fixAll ws cs1 fun ds cs2 => ds.length ≤ sizeLine ∧ Q (.c cs2.length) (cs2 ++ [.lst ds])) E
section
variable {X : Cx} {G : Gam} {Wx : WX} {pos : Pos} {es : List Expr} {t : DA}
/-- a tuple as it is made -/
def tupO (us : List Value) : Obj := { cls := .type "tuple", data := .seq us.toArray }
theorem tup_laid {pins : List (Addr × Obj)} {s : Shared} {σ : L2.St} {H : Hp} {vs : List V} {us : List Value} {tk : Nat} (I : Inv X pins σ H s) (r : Vals vs us) (hz : vs.length ≤ sizeLine) :
    Inv X pins σ (upd H s.heap.objs.size (.frz (tupO us) (.tup vs))) { s with heap := s.heap.push (tupO us), toks := tk } :=
  I.laid (fun b u e => Heap.get?_push_of_some _ e) (Nat.le_refl _) ⟨Heap.get?_push_size _ rfl, hz, us, r, ⟨tupO us, Heap.get?_push_size _ rfl, rfl, 0, rfl⟩⟩
/-- the datum over it -/
theorem tup_rep {F : Hp} {p : Addr} {o : Obj} {vs : List V} {xs : List D} (h : F p = some (.frz o (.tup vs))) (ho : o.dict = none) (r : Reps G F xs vs) : Rep G F (.tup xs) (.ref p) := by
  simp only [Rep]
  exact ⟨p, vs, rfl, ⟨o, ho, .inl h⟩, r⟩
theorem e_tup {k} (h : DAs X G Wx es t) : DE X G Wx (.Tuple es k pos) (dTup t) := ⟨fun pins s σ H Q I hh => by
  obtain ⟨F, ι, env, cs, Q0, E0, S, R, t, hq, he⟩ := hh
  refine wpAny_Tuple_spliced (thn (h.run pos pins s σ H (fun vs H1 => vs.length ≤ sizeLine ∧ ∀ p us, H1 p = none → Q (.ref p) (upd H1 p (.frz (tupO us) (.tup vs)))) I ⟨F, ι, env, cs, _, E0, S, R, t, fun F1 ι1 cs1 ws vs H1 e1 S1 r1 q1 => ?_, he⟩) fun us s1 ⟨vs, H1, I1, r, z, q⟩ => ⟨by rw [← r.length]; exact z, ?_⟩)
  · obtain ⟨F2, cs2, ds, e2, S2, r2, hl, q2⟩ := fixAll_ok S1 r1 q1
    refine ⟨by rw [r2.length]; exact hl, fun p us hp => ?_⟩
    obtain ⟨e3, S3⟩ := S2.fixed (o := .frz (tupO us) (.tup vs)) hp
    exact hq _ _ _ (.d (.tup ds)) _ _ (e1.trans (e2.trans e3)) S3 (tup_rep upd_same rfl (Reps.mono e3.same _ _ r2)) q2
  · exact ⟨.ref s1.heap.objs.size, _, tup_laid (tk := s1.toks) I1 r z, rfl, q _ us (I1.hok.fresh (Nat.le_refl _))⟩⟩
theorem e_lst (h : DAs X G Wx es t) : DE X G Wx (.List es pos) (dLst t) := PE.imp (pe_lst h) fun σ H Q h => by
  obtain ⟨F, ι, env, cs, Q0, E0, S, R, t, hq, he⟩ := h
  refine ⟨F, ι, env, cs, _, E0, S, R, t, fun F1 ι1 cs1 ws vs H1 e1 S1 r1 q1 => ?_, he⟩
  obtain ⟨F2, cs2, ds, e2, S2, r2, hl, q2⟩ := fixAll_ok S1 r1 q1
  refine ⟨by rw [r2.length]; exact hl, fun p hp => ?_⟩
  obtain ⟨e3, S3⟩ := S2.owned (o := .lst vs) (x := .lst ds) hp fun ι' => ⟨S2.dead hp, vs, upd_same, r2⟩
  exact hq _ _ _ (.c cs2.length) _ _ (e1.trans (e2.trans e3)) S3 ⟨p, by rw [← S2.len]; simp [Pl.add], rfl⟩ q2
abbrev DGs := List D → Nv → Cs → (Nv → Cs → Prop) → Prop
def dgNil : DGs := fun xs env cs Q => xs = [] ∧ Q env cs
def dgCons (g : DG) (u : DGs) : DGs := fun xs env cs Q => match xs with
  | [] => False
  | x :: r => g (.d x) env cs fun env1 cs1 => u r env1 cs1 Q
/-- (a, b, ..) = a tuple of that length -/
def dgTup (n : Nat) (u : DGs) : DG := fun w env cs Q => match w with
  | .d (.tup xs) => xs.length = n ∧ u xs env cs Q
  | .tp xs => xs.length = n ∧ u xs env cs Q
  | _ => False
def upGs (G : Gam) (us : List Nat) (t : DGs) : TGs := fun vs σ H Q => ∃ F ι env cs xs Q0, Sim G F ι cs H ∧ RepEnv G F ι env σ ∧ Reps G F xs vs ∧ t xs env cs Q0 ∧
  ∀ F' ι' cs' env' σ' H', Ext F F' ι ι' → Sim G F' ι' cs' H' → RepEnv G F' ι' env' σ' → wipe σ' us = wipe σ us → Q0 env' cs' → Q σ' H'
def DGts (X : Cx) (G : Gam) (us : List Nat) (ts : List Expr) (t : DGs) : Prop := PGs X ts (upGs G us t)
theorem PGs.imp {e : List Expr} {t u : TGs} (h : PGs X e t) (f : ∀ v σ H Q, u v σ H Q → t v σ H Q) : PGs X e u := ⟨fun pins s σ H v w Q I r q => h.run pins s σ H v w Q I r (f v σ H Q q)⟩
theorem gs_nil {us : List Nat} : DGts X G us [] dgNil := PGs.imp pgs_nil fun vs σ H Q h => by
  obtain ⟨F, ι, env, cs, xs, Q0, S, R, r, ⟨rfl, t⟩, hq⟩ := h
  simp only [Reps] at r
  exact ⟨r, hq F ι cs env σ H .refl S R rfl t⟩
theorem gs_cons {e : Expr} {g : DG} {u : DGs} {us : List Nat} (h1 : DGt X G us e g) (h2 : DGts X G us es u) (hs : (assignEach (e :: es) X.env).map (·.2) = assign e X.env :: (assignEach es X.env).map (·.2) := by rfl) : DGts X G us (e :: es) (dgCons g u) :=
  PGs.imp (pgs_cons h1 h2 hs) fun vs σ H Q h => by
    obtain ⟨F, ι, env, cs, xs, Q0, S, R, r, t, hq⟩ := h
    cases xs with
    | nil => cases t
    | cons x xs =>
      simp only [Reps] at r
      obtain ⟨v, vr, rfl, r1, r2⟩ := r
      refine ⟨v, vr, rfl, F, ι, env, cs, .d x, _, S, R, r1, t, fun F1 ι1 cs1 env1 σ1 H1 e1 S1 R1 w1 q1 => ?_⟩
      exact ⟨F1, ι1, env1, cs1, xs, Q0, S1, R1, Reps.mono e1.same _ _ r2, q1, fun F2 ι2 cs2 z σ2 H2 e2 S2 R2 w2 => hq F2 ι2 cs2 z σ2 H2 (e1.trans e2) S2 R2 (w2.trans w1)⟩
theorem g_tup {k : Nat} {u : DGs} {n : Nat} {us : List Nat} (hc : X.calm = true) (hK : X.K = G.K) (h : DGts X G us es u)
    (hn : (assignEach es X.env).length = n := by rfl) (hst : (assignEach es X.env).findIdx? (·.1) = none := by rfl) : DGt X G us (.Tuple es k pos) (dgTup n u) :=
  PG.imp (pg_tup hc h hn hst) fun v σ H Q h => by
    obtain ⟨F, ι, env, cs, w, Q0, S, R, r, t, hq⟩ := h
    cases w with
    | c i => cases t
    | dead => cases t
    | tp xs =>
      obtain ⟨t1, t2⟩ := (show xs.length = n ∧ u xs env cs Q0 from t)
      obtain ⟨a, vs, rfl, h1, h2⟩ := r
      rw [hK]
      exact ⟨a, vs, rfl, SqT.mono S.same h1, by rw [h2.length]; exact t1, F, ι, env, cs, xs, Q0, S, R, h2, t2, hq⟩
    | d x =>
      cases x with
      | tup xs =>
        obtain ⟨t1, t2⟩ := (show xs.length = n ∧ u xs env cs Q0 from t)
        simp only [RepW, Rep] at r
        obtain ⟨a, vs, rfl, h1, h2⟩ := r
        rw [hK]
        exact ⟨a, vs, rfl, SqT.mono S.same h1.sq, by rw [h2.length]; exact t1, F, ι, env, cs, xs, Q0, S, R, h2, t2, hq⟩
      | _ => cases t
/-- a name = a value -/
theorem s_set {i : Nat} {x : Str} {e : Expr} {te : DT} {pos' : Pos} (hN : X.N.Nodup) (hi : X.N[i]? = some x) (hx : Loc X.env.scope x) (he : DE X G Wx e te) (hs : swapsWith e (some (.Name x pos')) pos.line X.env = pure false := by rfl) (hf : X.fn x = true ∨ X.env.scope.names.lookup x = some .local := by first | exact .inl rfl | exact .inr rfl | assumption) :
    DSt X G Wx (.Assign [.Name x pos'] e pos) (dAsg te (dgName i)) :=
  PS.imp (ps_set hN hi hx he hs hf) fun D σ H h => by
    obtain ⟨F, ι, env, cs, D0, S, R, t, h1, h2, h3, h4, h5⟩ := h
    refine ⟨F, ι, env, cs, _, _, S, R, t, fun F1 ι1 cs1 x v H1 e1 S1 r1 q1 => ?_, fun F1 ι1 cs1 x cls od H1 e1 S1 r1 q1 => h5 F1 ι1 cs1 x cls od env σ H1 e1 S1 (R.mono e1) r1 q1⟩
    exact h1 F1 ι1 cs1 _ _ H1 e1 S1 ((R.mono e1).set r1) q1
/-- a, b = x, y of plain local names: no tuple is made -/
def dPar (i j : Nat) (t : DA) : DS := fun D env cs => t env cs (fun ws cs1 => match ws with
  | [v, w] => D.nx ((env.set i (some v)).set j (some w)) cs1
  | _ => False) fun x cs1 => D.ex x env cs1
theorem s_par {i j : Nat} {x y : Str} {a b : Expr} {ta : DA} {px py pt : Pos} {kt k2 pt2} (hc : X.calm = true) (hN : X.N.Nodup) (hi : X.N[i]? = some x) (hj : X.N[j]? = some y) (hij : i ≠ j)
    (hx : X.env.scope.names.lookup x = some .local) (hy : X.env.scope.names.lookup y = some .local) (ha : DAs X G Wx [a, b] ta)
    (hw : swappedStores [.Tuple [.Name x px, .Name y py] kt pt] (.Tuple [a, b] k2 pt2) X.env = pure (some [x, y]))
    (hs : swapsWithSole [.Tuple [.Name x px, .Name y py] kt pt] (.Tuple [a, b] k2 pt2) pos.line X.env = pure false := by rfl) :
    DSt X G Wx (.Assign [.Tuple [.Name x px, .Name y py] kt pt] (.Tuple [a, b] k2 pt2) pos) (dPar i j ta) :=
  PS.imp (ps_par hc hN hi hj hij hx hy ha hw hs) fun D σ H h => by
    obtain ⟨F, ι, env, cs, D0, S, R, t, h1, h2, h3, h4, h5⟩ := h
    refine ⟨F, ι, env, cs, _, _, S, R, t, fun F1 ι1 cs1 ws vs H1 e1 S1 r1 q1 => ?_, fun F1 ι1 cs1 x cls od H1 e1 S1 r1 q1 => h5 F1 ι1 cs1 x cls od env σ H1 e1 S1 (R.mono e1) r1 q1⟩
    cases r1 with
    | nil => cases q1
    | cons r1 t1 =>
      cases t1 with
      | nil => cases q1
      | cons r2 t2 =>
        cases t2 with
        | nil => exact ⟨_, _, rfl, h1 F1 ι1 cs1 _ _ H1 e1 S1 (((R.mono e1).set r1).set r2) q1⟩
        | cons _ _ => cases q1
end
end DL
namespace DL
open PySem PySem.Spec L2
/-- what a name stands for, as a datum -/
def look (w : W) (cs : Cs) : Option D := match w with
  | .d x => some x
  | .c i => match cs[i]? with
    | some (.lst xs) => some (.lst xs)
    | some (.dct kvs _) => some (.dct kvs)
    | some (.frz x) => some x
    | _ => none
  | .dead => none
  | .tp _ => none
def leafD : D → Bool
  | .tup _ | .lst _ | .dct _ | .obj _ _ | .scr _ => false
  | _ => true
/-- as Rep, but the top stands as it stands in H -/
def Top (G : Gam) (F H : Hp) : D → V → Prop
  | .tup ds, v => ∃ a vs, v = .ref a ∧ PTu G.K H a vs ∧ Reps G F ds vs
  | .lst ds, v => ∃ a vs, v = .ref a ∧ H a = some (.lst vs) ∧ Reps G F ds vs
  | .dct kvs, v => ∃ a o ks ps, v = .ref a ∧ DcAt G H a o ∧ RawO G.w ks ps o ∧ RepKV G F kvs ks ps
  | .obj c ds, v => ∃ a C nm dx gs vs, v = .ref a ∧ G.cls c = some (C, nm) ∧ H a = some (.ins C dx gs) ∧ FldsAt nm gs (vs.map some) ∧ Reps G F ds vs
  | .scr ns, v => ∃ a, v = .ref a ∧ SqL G.K H a (ns.map V.int)
  | x, v => Rep G F x v
section
variable {G : Gam} {F H : Hp} {ι : Pl} {cs : Cs}
theorem Rep.top (s : Same F H) {x : D} {v : V} (h : Rep G F x v) : Top G F H x v := by
  cases x with
  | tup ds => simp only [Rep] at h; obtain ⟨a, vs, h1, h2, h3⟩ := h; exact ⟨a, vs, h1, PTu.mono s h2, h3⟩
  | lst ds => simp only [Rep] at h; obtain ⟨a, vs, h1, h2, h3⟩ := h; exact ⟨a, vs, h1, s _ _ h2, h3⟩
  | scr ns => simp only [Rep] at h; obtain ⟨a, h1, h2⟩ := h; exact ⟨a, h1, SqL.mono s h2⟩
  | dct kvs => simp only [Rep] at h; obtain ⟨a, o, ks, ps, h1, h2, h3, h4⟩ := h; exact ⟨a, o, ks, ps, h1, h2.mono s, h3, h4⟩
  | obj c ds => simp only [Rep] at h; obtain ⟨a, C, nm, dx, gs, vs, h1, h2, h3, h4, h5⟩ := h; exact ⟨a, C, nm, dx, gs, vs, h1, h2, s _ _ h3, h4, h5⟩
  | _ => exact h
theorem look_top (S : Sim G F ι cs H) {w : W} {v : V} {x : D} (r : RepW G F ι w v) (h : look w cs = some x) : Top G F H x v := by
  cases w with
  | d y =>
    cases h
    exact Rep.top S.same r
  | dead => cases h
  | tp xs => cases h
  | c i =>
    obtain ⟨a, ha, rfl⟩ := r
    unfold look at h
    simp only at h
    cases e : cs[i]? with
    | none => rw [e] at h; cases h
    | some y =>
      rw [e] at h
      obtain ⟨a', e', c⟩ := S.cell i y e
      rw [ha] at e'; cases e'
      cases y with
      | frz y => cases h; exact Rep.top S.same c.2
      | lst xs => cases h; obtain ⟨_, vs, h2, h3⟩ := c; exact ⟨a, vs, rfl, h2, h3⟩
      | dct kvs o => cases h; obtain ⟨_, h0, ks, ps, h2, h3, h4⟩ := c; exact ⟨a, o, ks, ps, rfl, ⟨h0, .inl h2⟩, h3, h4⟩
      | obj c fs => cases h
theorem Top.simple {x : D} {v : V} (h : Top G F H x v) (hx : leafD x = true) : Rep G F x v := by
  cases x <;> first | exact h | cases hx
end
/-- J yields the items as long as keep holds -/
structure Serves (G : Gam) (F : Hp) (ι : Pl) (items : List W) (keep : Cs → Prop) (J : It) : Prop where
  go : ∀ {F' ι' cs' H'} (i : Nat), Ext0 F F' ι ι' → Sim G F' ι' cs' H' → keep cs' → i < items.length → J.go i H'
  yld : ∀ {F' ι' cs' H' x H''} (i : Nat) (it : W), Ext0 F F' ι ι' → Sim G F' ι' cs' H' → keep cs' → items[i]? = some it → J.yld i H' x H'' → ∃ F'', Ext F' F'' ι' ι' ∧ Sim G F'' ι' cs' H'' ∧ RepW G F'' ι' it x
  stop : ∀ {F' ι' cs' H'}, Ext0 F F' ι ι' → Sim G F' ι' cs' H' → keep cs' → J.stop items.length H'
abbrev DI := Nv → Cs → (List W → (Cs → Prop) → Cs → Prop) → DX → Prop
def upI (G : Gam) (Wx : WX) (t : DI) : TI := fun σ H R => ∃ F ι env cs Q0 E0, Sim G F ι cs H ∧ RepEnv G F ι env σ ∧ t env cs Q0 E0 ∧
  (∀ F' ι' cs' items keep J H', Ext F F' ι ι' → Sim G F' ι' cs' H' → Serves G F' ι' items keep J → Q0 items keep cs' → R J H') ∧
  ∀ F' ι' cs' x cls od H', Ext F F' ι ι' → Sim G F' ι' cs' H' → RepX G F' x cls od H' → E0 x cs' → Wx cls od σ H'
def DIt (X : Cx) (G : Gam) (Wx : WX) (tg e : Expr) (t : DI) : Prop := PI X tg e (upI G Wx t)
theorem PI.imp {X : Cx} {tg e : Expr} {t u : TI} (h : PI X tg e t) (f : ∀ σ H Q, u σ H Q → t σ H Q) : PI X tg e u := ⟨fun pins s σ H Q I q => h.run pins s σ H Q I (f σ H Q q)⟩
/-- a list, a tuple, a text, by what comes -/
def iSeq (K : PySem.W.Frag) (te : TE) : TI := fun σ H R => te σ H fun x H1 => (∃ a, x = .ref a ∧ (∃ xs, SqL K H1 a xs) ∧ R (Itl K a) H1) ∨ (∃ a, x = .ref a ∧ (∃ xs, SqT K H1 a xs) ∧ R (Itt K a) H1) ∨ ∃ z, x = .str z ∧ R (Its z) H1
theorem pi_seq {X : Cx} {tg e : Expr} {te : TE} (h : PE X e te) : PI X tg e (iSeq X.K te) := by
  refine ⟨fun pins s σ H R I hq => ?_⟩
  refine thn (h.run pins s σ H _ I hq) fun v s1 ⟨x, H1, I1, r1, q1⟩ => ?_
  rcases q1 with ⟨a, rfl, ⟨xs, hx⟩, q⟩ | ⟨a, rfl, ⟨xs, hx⟩, q⟩ | ⟨z, rfl, q⟩
  · cases r1
    obtain ⟨its, rv, p, hz⟩ := I1.list hx
    exact wpAny_pyIter_list p.isList (pi_one (tk := s1.toks) I1 _ (turn_list a _) ⟨_, Heap.get?_push_size _ rfl, rfl, rfl⟩ q)
  · cases r1
    obtain ⟨its, rv, p, hz⟩ := I1.tuple hx
    exact wpAny_pyIter_tuple (show s1.heap.IsTuple a its.toArray from p) (pi_one (tk := s1.toks) I1 _ (turn_tuple a _) ⟨_, Heap.get?_push_size _ rfl, rfl, rfl⟩ q)
  · obtain ⟨t, rfl⟩ := r1
    cases ha : z.cps.all (· < 128)
    · exact wpAny_pyIter_wide ha (pi_one (tk := s1.toks) I1 _ (turn_str _ z t "str_iterator" (.inr rfl)) ⟨_, Heap.get?_push_size _ rfl, rfl, rfl⟩ q)
    · exact wpAny_pyIter_ascii ha (pi_one (tk := s1.toks) I1 _ (turn_str _ z t "str_ascii_iterator" (.inl rfl)) ⟨_, Heap.get?_push_size _ rfl, rfl, rfl⟩ q)
/-- the signs of a text -/
def signs (x : Str) : List D := x.cps.toList.map fun c => .str ⟨#[c]⟩
def diSeq (t : DT) : DI := fun env cs Q E => t env cs (fun w cs1 => match look w cs1 with
  | some (.lst xs) => Q (xs.map .d) (fun cs' => look w cs' = some (.lst xs)) cs1
  | some (.tup xs) => Q (xs.map .d) (fun _ => True) cs1
  | some (.str x) => Q ((signs x).map .d) (fun _ => True) cs1
  | _ => False) E
def diRange1 (t : DA) : DI := fun env cs Q E => t env cs (fun ws cs1 => match ws with
  | [.d (.int j)] => -(2 ^ 62) ≤ j ∧ j < 2 ^ 62 ∧ Q ((List.range j.toNat).map fun (i : Nat) => .d (.int i)) (fun _ => True) cs1
  | _ => False) E
def diRange2 (t : DA) : DI := fun env cs Q E => t env cs (fun ws cs1 => match ws with
  | [.d (.int i), .d (.int j)] => (-(2 ^ 62) ≤ i ∧ i < 2 ^ 62 ∧ -(2 ^ 62) ≤ j ∧ j < 2 ^ 62) ∧ Q ((List.range (j - i).toNat).map fun (k : Nat) => .d (.int (i + k))) (fun _ => True) cs1
  | _ => False) E
/-- an item beside its place, as data -/
def pairUp : Nat → List D → List W
  | _, [] => []
  | i, x :: xs => .tp [.int i, x] :: pairUp (i + 1) xs
theorem pairUp_length : ∀ (i : Nat) (xs : List D), (pairUp i xs).length = xs.length
  | _, [] => rfl
  | i, x :: xs => by simp [pairUp, pairUp_length (i + 1) xs]
theorem pairUp_get : ∀ (i : Nat) (xs : List D) (j : Nat), (pairUp i xs)[j]? = (xs[j]?).map fun x => W.tp [.int ((i + j : Nat) : Int), x]
  | _, [], j => by simp [pairUp]
  | i, x :: xs, 0 => by simp [pairUp]
  | i, x :: xs, j + 1 => by
    simp only [pairUp, List.getElem?_cons_succ]
    rw [pairUp_get (i + 1) xs j]
    have e : i + 1 + j = i + (j + 1) := by omega
    rw [e]
def zipUp (xs ys : List D) : List W := (xs.zip ys).map fun p => .tp [p.1, p.2]
def diZip (t : DA) : DI := fun env cs Q E => t env cs (fun ws cs1 => match ws with
  | [w, u] => (match look w cs1, look u cs1 with
    | some (.lst xs), some (.lst ys) => Q (zipUp xs ys) (fun cs' => look w cs' = some (.lst xs) ∧ look u cs' = some (.lst ys)) cs1
    | some (.tup xs), some (.tup ys) => Q (zipUp xs ys) (fun _ => True) cs1
    | _, _ => False)
  | _ => False) E
section
variable {G : Gam} {F H : Hp} {ι : Pl} {cs : Cs}
theorem serves_list {w : W} {a : Addr} {xs : List D} (hK : ∀ {F' ι' cs' H'}, Ext0 F F' ι ι' → Sim G F' ι' cs' H' → look w cs' = some (.lst xs) → ∃ vs, SqL G.K H' a vs ∧ Reps G F' xs vs) : Serves G F ι (xs.map .d) (fun cs' => look w cs' = some (.lst xs)) (Itl G.K a) where
  go := fun {F' ι' cs' H'} i e S k hi => by
    obtain ⟨vs, h1, h2⟩ := hK e S k
    rw [List.length_map] at hi
    obtain ⟨v, h3, _⟩ := h2.get (List.getElem?_eq_getElem hi)
    exact ⟨vs, v, h1, h3⟩
  yld := fun {F' ι' cs' H' x H''} i it e S k hi y => by
    obtain ⟨vs, h1, h2⟩ := hK e S k
    obtain ⟨rfl, y⟩ := y
    rw [List.getElem?_map] at hi
    cases q : xs[i]? with
    | none => rw [q] at hi; cases hi
    | some z =>
      rw [q] at hi; cases hi
      obtain ⟨v, h3, h4⟩ := h2.get q
      have := y vs h1
      rw [h3] at this; cases this
      exact ⟨F', .refl, S, h4⟩
  stop := fun {F' ι' cs' H'} e S k => by
    obtain ⟨vs, h1, h2⟩ := hK e S k
    exact ⟨vs, h1, by rw [h2.length, List.length_map]; exact Nat.le_refl _⟩
theorem list_again {w : W} {a : Addr} {xs : List D} (S : Sim G F ι cs H) (r : RepW G F ι w (.ref a)) {F' ι' cs' H'} (e : Ext0 F F' ι ι') (S' : Sim G F' ι' cs' H') (h : look w cs' = some (.lst xs)) : ∃ vs, SqL G.K H' a vs ∧ Reps G F' xs vs := by
  obtain ⟨a', vs, e1, h1, h2⟩ := look_top S' (r.mono0 e) h
  cases e1
  exact ⟨vs, SqL.of h1, h2⟩
theorem serves_tup {a : Addr} {xs : List D} {vs : List V} (h1 : SqT G.K F a vs) (h2 : Reps G F xs vs) : Serves G F ι (xs.map .d) (fun _ => True) (Itt G.K a) where
  go := fun {F' ι' cs' H'} i e S k hi => by
    rw [List.length_map] at hi
    obtain ⟨v, h3, _⟩ := h2.get (List.getElem?_eq_getElem hi)
    exact ⟨vs, v, SqT.mono S.same (SqT.mono e.same h1), h3⟩
  yld := fun {F' ι' cs' H' x H''} i it e S k hi y => by
    obtain ⟨rfl, y⟩ := y
    rw [List.getElem?_map] at hi
    cases q : xs[i]? with
    | none => rw [q] at hi; cases hi
    | some z =>
      rw [q] at hi; cases hi
      obtain ⟨v, h3, h4⟩ := h2.get q
      have := y vs (SqT.mono S.same (SqT.mono e.same h1))
      rw [h3] at this; cases this
      exact ⟨F', .refl, S, Rep.mono e.same _ _ h4⟩
  stop := fun {F' ι' cs' H'} e S k => ⟨vs, SqT.mono S.same (SqT.mono e.same h1), by rw [h2.length, List.length_map]; exact Nat.le_refl _⟩
theorem strOk_sign {x : Str} (h : PyData.strOk x = true) {c : Nat} (hc : c ∈ x.cps.toList) : PyData.strOk ⟨#[c]⟩ = true := by
  unfold PyData.strOk at h ⊢
  rw [← Array.all_toList] at h ⊢
  have := List.all_eq_true.mp h c hc
  simpa using this
theorem serves_str {x : Str} (hx : PyData.strOk x = true) : Serves G F ι ((signs x).map .d) (fun _ => True) (Its x) where
  go := fun {F' ι' cs' H'} i e S k hi => by
    show i < x.cps.size
    simpa [signs] using hi
  yld := fun {F' ι' cs' H' z H''} i it e S k hi y => by
    obtain ⟨rfl, c, hc, rfl⟩ := y
    rw [List.getElem?_map] at hi
    unfold signs at hi
    rw [List.getElem?_map, Array.getElem?_toList, hc] at hi
    simp at hi
    subst hi
    exact ⟨F', .refl, S, by
      simp only [RepW, Rep]
      exact ⟨True.intro, strOk_sign hx (by rw [← Array.getElem?_toList] at hc; exact List.mem_of_getElem? hc)⟩⟩
  stop := fun {F' ι' cs' H'} e S k => by simp [signs, Its]
theorem serves_range {lo : Int} {n : Nat} : Serves G F ι ((List.range n).map fun (k : Nat) => .d (.int (lo + k))) (fun _ => True) (Itr lo n) where
  go := fun {F' ι' cs' H'} i e S k hi => by simpa [Itr] using hi
  yld := fun {F' ι' cs' H' z H''} i it e S k hi y => by
    obtain ⟨rfl, rfl⟩ := y
    rw [List.getElem?_map] at hi
    cases q : (List.range n)[i]? with
    | none => rw [q] at hi; cases hi
    | some j =>
      rw [q] at hi; cases hi
      obtain ⟨h1, h2⟩ := List.getElem?_eq_some_iff.mp q
      rw [List.getElem_range] at h2
      subst h2
      exact ⟨F', .refl, S, by simp only [RepW, Rep]⟩
  stop := fun {F' ι' cs' H'} e S k => by simp [Itr]
theorem serves_enum {w : W} {a : Addr} {xs : List D} (hK : ∀ {F' ι' cs' H'}, Ext0 F F' ι ι' → Sim G F' ι' cs' H' → look w cs' = some (.lst xs) → ∃ vs, SqL G.K H' a vs ∧ Reps G F' xs vs) : Serves G F ι (pairUp 0 xs) (fun cs' => look w cs' = some (.lst xs)) (Ite G.K a) where
  go := fun {F' ι' cs' H'} i e S k hi => by
    obtain ⟨vs, h1, h2⟩ := hK e S k
    rw [pairUp_length] at hi
    obtain ⟨v, h3, _⟩ := h2.get (List.getElem?_eq_getElem hi)
    exact ⟨vs, v, h1, h3⟩
  yld := fun {F' ι' cs' H' x H''} i it e S k hi y => by
    obtain ⟨vs, h1, h2⟩ := hK e S k
    obtain ⟨T, v, rfl, hT, rfl, y⟩ := y
    rw [pairUp_get] at hi
    cases q : xs[i]? with
    | none => rw [q] at hi; cases hi
    | some z =>
      rw [q] at hi; cases hi
      obtain ⟨v', h3, h4⟩ := h2.get q
      have := y vs h1
      rw [h3] at this; cases this
      obtain ⟨e1, S1⟩ := S.fixed (o := .tup [.int (i : Nat), v]) hT
      refine ⟨_, e1, S1, ?_⟩
      simp only [RepW, Rep]
      refine ⟨T, _, rfl, SqT.of upd_same, Reps.cons (by simp [Rep]) (Reps.one (Rep.mono e1.same _ _ h4))⟩
  stop := fun {F' ι' cs' H'} e S k => by
    obtain ⟨vs, h1, h2⟩ := hK e S k
    exact ⟨vs, h1, by rw [h2.length, pairUp_length]; exact Nat.le_refl _⟩
theorem zipUp_get {xs ys : List D} {i : Nat} {it : W} (h : (zipUp xs ys)[i]? = some it) : ∃ x y, xs[i]? = some x ∧ ys[i]? = some y ∧ it = .tp [x, y] := by
  unfold zipUp at h
  rw [List.getElem?_map] at h
  cases q : (xs.zip ys)[i]? with
  | none => rw [q] at h; cases h
  | some p =>
    rw [q] at h; cases h
    obtain ⟨h1, h2⟩ := List.getElem?_zip_eq_some.mp q
    exact ⟨_, _, h1, h2, rfl⟩
theorem serves_zipL {w u : W} {a b : Addr} {xs ys : List D} (hK : ∀ {F' ι' cs' H'}, Ext0 F F' ι ι' → Sim G F' ι' cs' H' → look w cs' = some (.lst xs) → ∃ vs, SqL G.K H' a vs ∧ Reps G F' xs vs)
    (hK2 : ∀ {F' ι' cs' H'}, Ext0 F F' ι ι' → Sim G F' ι' cs' H' → look u cs' = some (.lst ys) → ∃ vs, SqL G.K H' b vs ∧ Reps G F' ys vs) :
    Serves G F ι (zipUp xs ys) (fun cs' => look w cs' = some (.lst xs) ∧ look u cs' = some (.lst ys)) (Itz G.K a b) where
  go := fun {F' ι' cs' H'} i e S k hi => by
    obtain ⟨vs, h1, h2⟩ := hK e S k.1
    obtain ⟨us, g1, g2⟩ := hK2 e S k.2
    obtain ⟨x, y, hx, hy, _⟩ := zipUp_get (List.getElem?_eq_getElem hi)
    obtain ⟨v, h3, _⟩ := h2.get hx
    obtain ⟨u', g3, _⟩ := g2.get hy
    exact ⟨vs, us, v, u', h1, g1, h3, g3⟩
  yld := fun {F' ι' cs' H' x H''} i it e S k hi y => by
    obtain ⟨vs, h1, h2⟩ := hK e S k.1
    obtain ⟨us, g1, g2⟩ := hK2 e S k.2
    obtain ⟨T, v, v2, rfl, hT, rfl, y1, y2⟩ := y
    obtain ⟨x, z, hx, hz, rfl⟩ := zipUp_get hi
    obtain ⟨v', h3, h4⟩ := h2.get hx
    obtain ⟨u', g3, g4⟩ := g2.get hz
    have q1 := y1 vs h1
    rw [h3] at q1; cases q1
    have q2 := y2 us g1
    rw [g3] at q2; cases q2
    obtain ⟨e1, S1⟩ := S.fixed (o := .tup [v, v2]) hT
    refine ⟨_, e1, S1, ?_⟩
    simp only [RepW, Rep]
    exact ⟨T, _, rfl, SqT.of upd_same, Reps.cons (Rep.mono e1.same _ _ h4) (Reps.one (Rep.mono e1.same _ _ g4))⟩
  stop := fun {F' ι' cs' H'} e S k => by
    obtain ⟨vs, h1, h2⟩ := hK e S k.1
    obtain ⟨us, g1, g2⟩ := hK2 e S k.2
    refine ⟨vs, us, h1, g1, ?_⟩
    rw [h2.length, g2.length]
    simp only [zipUp, List.length_map, List.length_zip]
    omega
theorem serves_zipT {a b : Addr} {xs ys : List D} {vs us : List V} (h1 : SqT G.K F a vs) (h2 : Reps G F xs vs) (g1 : SqT G.K F b us) (g2 : Reps G F ys us) : Serves G F ι (zipUp xs ys) (fun _ => True) (RZ.ItzT G.K a b) where
  go := fun {F' ι' cs' H'} i e S k hi => by
    obtain ⟨x, y, hx, hy, _⟩ := zipUp_get (List.getElem?_eq_getElem hi)
    obtain ⟨v, h3, _⟩ := h2.get hx
    obtain ⟨u', g3, _⟩ := g2.get hy
    exact ⟨vs, us, v, u', SqT.mono S.same (SqT.mono e.same h1), SqT.mono S.same (SqT.mono e.same g1), h3, g3⟩
  yld := fun {F' ι' cs' H' x H''} i it e S k hi y => by
    obtain ⟨T, v, v2, rfl, hT, rfl, y1, y2⟩ := y
    obtain ⟨x, z, hx, hz, rfl⟩ := zipUp_get hi
    obtain ⟨v', h3, h4⟩ := h2.get hx
    obtain ⟨u', g3, g4⟩ := g2.get hz
    have q1 := y1 vs (SqT.mono S.same (SqT.mono e.same h1))
    rw [h3] at q1; cases q1
    have q2 := y2 us (SqT.mono S.same (SqT.mono e.same g1))
    rw [g3] at q2; cases q2
    obtain ⟨e1, S1⟩ := S.fixed (o := .tup [v, v2]) hT
    refine ⟨_, e1, S1, ?_⟩
    simp only [RepW, Rep]
    exact ⟨T, _, rfl, SqT.of upd_same, Reps.cons (Rep.mono (e.same.trans e1.same) _ _ h4) (Reps.one (Rep.mono (e.same.trans e1.same) _ _ g4))⟩
  stop := fun {F' ι' cs' H'} e S k => by
    refine ⟨vs, us, SqT.mono S.same (SqT.mono e.same h1), SqT.mono S.same (SqT.mono e.same g1), ?_⟩
    rw [h2.length, g2.length]
    simp only [zipUp, List.length_map, List.length_zip]
    omega
/-- a tuple is data, never a cell but a fixed one -/
theorem look_tupP (S : Sim G F ι cs H) {w : W} {v : V} {xs : List D} (r : RepW G F ι w v) (h : look w cs = some (.tup xs)) : ∃ a vs, v = .ref a ∧ PTu G.K F a vs ∧ Reps G F xs vs := by
  cases w with
  | d y =>
    cases h
    simpa only [RepW, Rep] using r
  | dead => cases h
  | tp xs => cases h
  | c i =>
    obtain ⟨a, ha, rfl⟩ := r
    unfold look at h
    simp only at h
    cases e : cs[i]? with
    | none => rw [e] at h; cases h
    | some y =>
      rw [e] at h
      obtain ⟨a', e', c⟩ := S.cell i y e
      rw [ha] at e'; cases e'
      cases y with
      | frz y => cases h; simpa only [Rep] using c.2
      | lst xs => cases h
      | dct kvs o => cases h
      | obj c fs => cases h
end
section
variable {X : Cx} {G : Gam} {Wx : WX} {tg e e2 : Expr} {te : DT} {ta : DA} {p pos tpos : Pos} {elts : List Expr} {kk : Nat}
theorem look_tup (S : Sim G F ι cs H) {w : W} {v : V} {xs : List D} (r : RepW G F ι w v) (h : look w cs = some (.tup xs)) : ∃ a vs, v = .ref a ∧ SqT G.K F a vs ∧ Reps G F xs vs := by
  obtain ⟨a, vs, h1, h2, h3⟩ := look_tupP S r h
  exact ⟨a, vs, h1, h2.sq, h3⟩
theorem i_seq (hK : X.K = G.K) (h : DE X G Wx e te) : DIt X G Wx tg e (diSeq te) := PI.imp (pi_seq h) fun σ H R hq => by
  obtain ⟨F, ι, env, cs, Q0, E0, S, R0, t, hq, he⟩ := hq
  refine ⟨F, ι, env, cs, _, E0, S, R0, t, fun F1 ι1 cs1 w v H1 e1 S1 r1 q1 => ?_, he⟩
  rw [hK]
  cases q : look w cs1 with
  | none => simp only [q] at q1
  | some x =>
    simp only [q] at q1
    cases x with
    | lst xs =>
      obtain ⟨a, vs, rfl, h1, h2⟩ := look_top S1 r1 q
      exact .inl ⟨a, rfl, ⟨vs, SqL.of h1⟩, hq _ _ _ _ _ _ _ e1 S1 (serves_list fun e' S' h' => list_again S1 r1 e' S' h') q1⟩
    | tup xs =>
      obtain ⟨a, vs, rfl, h1, h2⟩ := look_tup S1 r1 q
      exact .inr (.inl ⟨a, rfl, ⟨vs, SqT.mono S1.same h1⟩, hq _ _ _ _ _ _ _ e1 S1 (serves_tup h1 h2) q1⟩)
    | str z =>
      have r := look_top S1 r1 q
      simp only [Top, Rep] at r
      exact .inr (.inr ⟨z, r.1, hq _ _ _ _ _ _ _ e1 S1 (serves_str r.2) q1⟩)
    | _ => cases q1
theorem i_range1 {a : Expr} (hg : Gl X "range") (hm : X.mg "range" = none) (ha : DAs X G Wx [a] ta) (hs : starEach [a] X.env = [(false, eval a X.env)] := by rfl) : DIt X G Wx tg (.Call (.Name "range" p) [a] [] pos) (diRange1 ta) :=
  PI.imp (pi_range1 hg hm ha hs) fun σ H R hq => by
    obtain ⟨F, ι, env, cs, Q0, E0, S, R0, t, hq, he⟩ := hq
    refine ⟨F, ι, env, cs, _, E0, S, R0, t, fun F1 ι1 cs1 ws vs H1 e1 S1 r1 q1 => ?_, he⟩
    split at q1
    · rename_i j
      obtain ⟨b1, b2, q1⟩ := q1
      cases r1 with
      | cons r t =>
        cases t
        simp only [RepW, Rep] at r
        subst r
        refine ⟨j, rfl, b1, b2, hq _ _ _ _ _ _ _ e1 S1 ?_ q1⟩
        have z := serves_range (G := G) (F := F1) (ι := ι1) (lo := 0) (n := j.toNat)
        simpa using z
    · cases q1
theorem i_zip (hK : X.K = G.K) (hg : Gl X "zip") (hm : X.mg "zip" = none) (ha : DAs X G Wx [e, e2] ta) (hs : starEach [e, e2] X.env = (false, eval e X.env) :: starEach [e2] X.env := by rfl) (hpl : (backTo pos (starEach [e2] X.env)).any (·.1) = false := by rfl) :
    DIt X G Wx (.Tuple elts kk tpos) (.Call (.Name "zip" p) [e, e2] [] pos) (diZip ta) :=
  PI.imp (RZ.pi_zipA hg hm ha hs hpl) fun σ H R hq => by
    obtain ⟨F, ι, env, cs, Q0, E0, S, R0, t, hq, he⟩ := hq
    refine ⟨F, ι, env, cs, _, E0, S, R0, t, fun F1 ι1 cs1 ws vs H1 e1 S1 r1 q1 => ?_, he⟩
    rw [hK]
    split at q1
    · rename_i w u
      cases r1 with
      | cons r t =>
        cases t with
        | cons r2 t =>
          cases t
          split at q1
          · rename_i xs ys l1 l2
            obtain ⟨a, vs, rfl, h1, h2⟩ := look_top S1 r l1
            obtain ⟨b, us, rfl, g1, g2⟩ := look_top S1 r2 l2
            exact ⟨a, b, vs, us, rfl, .inl ⟨SqL.of h1, SqL.of g1, hq _ _ _ _ _ _ _ e1 S1 (serves_zipL (fun e' S' h' => list_again S1 r e' S' h') fun e' S' h' => list_again S1 r2 e' S' h') q1⟩⟩
          · rename_i xs ys l1 l2
            obtain ⟨a, vs, rfl, h1, h2⟩ := look_tup S1 r l1
            obtain ⟨b, us, rfl, g1, g2⟩ := look_tup S1 r2 l2
            exact ⟨a, b, vs, us, rfl, .inr ⟨SqT.mono S1.same h1, SqT.mono S1.same g1, hq _ _ _ _ _ _ _ e1 S1 (serves_zipT h1 h2 g1 g2) q1⟩⟩
          · cases q1
    · cases q1
def forD (g : DG) (tb : DS) (keep : Cs → Prop) (D : DEnds) : List W → Nv → Cs → Prop
  | [], env, cs => keep cs ∧ D.nx env cs
  | x :: r, env, cs => keep cs ∧ g x env cs fun env1 cs1 => tb { D with nx := forD g tb keep D r, ct := forD g tb keep D r, bk := D.nx } env1 cs1
def dFor (ti : DI) (g : DG) (tb : DS) : DS := fun D env cs => ti env cs (fun items keep cs1 => forD g tb keep D items env cs1) fun x cs1 => D.ex x env cs1
variable {body : List Stmt} {ti : DI} {g : DG} {tb : DS}
theorem s_for {iter : Expr} (hp : PassesOwn (model X.prog X.w) X.A X.env X.xe) (hc : X.calm = true) {vs : List Nat} (hi : DIt X G Wx tg iter ti) (hg : DGt X G vs tg g) (hb : DSs X G Wx body tb) (hs : ∀ x, foldedSetIterable iter X.env x = pure x := by intro _; rfl) : DSt X G Wx (.For tg iter body [] pos) (dFor ti g tb) :=
  PS.imp (ps_for hp hc hi hg hb hs) fun D σ H h => by
    obtain ⟨F, ι, env, cs, D0, S, R, t, g1, g2, g3, g4, g5⟩ := h
    refine ⟨F, ι, env, cs, _, _, S, R, t, fun F1 ι1 cs1 items keep J H1 e1 S1 sv q1 => ?_, fun F1 ι1 cs1 x cls od H1 e1 S1 r1 q1 => g5 F1 ι1 cs1 x cls od env σ H1 e1 S1 (R.mono e1) r1 q1⟩
    refine ⟨fun i m σ' H' => ∃ F' ι' env' cs', Ext F1 F' ι1 ι' ∧ Sim G F' ι' cs' H' ∧ RepEnv G F' ι' env' σ' ∧ m = items.length - i ∧ i ≤ items.length ∧ forD g tb keep D0 (items.drop i) env' cs',
      ⟨_, F1, ι1, env, cs1, .refl, S1, R.mono e1, rfl, Nat.zero_le _, q1⟩, ?_⟩
    rintro i m σ' H' ⟨F', ι', env', cs', e', S', R', rfl, hi, q⟩
    by_cases hlt : i < items.length
    · rw [List.drop_eq_getElem_cons hlt] at q
      obtain ⟨k, q⟩ := (show keep cs' ∧ _ from q)
      refine .inr ⟨sv.go i e'.to0 S' k hlt, fun σ2 H2 => ∃ F2 ι2 env2 cs2, Ext F1 F2 ι1 ι2 ∧ Sim G F2 ι2 cs2 H2 ∧ RepEnv G F2 ι2 env2 σ2 ∧ forD g tb keep D0 (items.drop (i + 1)) env2 cs2,
        fun σ2 H2 ⟨F2, ι2, env2, cs2, a1, a2, a3, a4⟩ => ⟨_, by omega, F2, ι2, env2, cs2, a1, a2, a3, rfl, hlt, a4⟩, fun x H2 y => ?_⟩
      obtain ⟨F2, e2, S2, r2⟩ := sv.yld i _ e'.to0 S' k (List.getElem?_eq_getElem hlt) y
      refine ⟨F2, ι', env', cs', _, _, S2, R'.mono e2, r2, q, fun F3 ι3 cs3 env3 σ3 H3 e3 S3 R3 _ q3 => ?_⟩
      have E3 : Ext F F3 ι ι3 := e1.trans (e'.trans (e2.trans e3))
      refine ⟨F3, ι3, env3, cs3, _, S3, R3, q3, ?_, fun F4 ι4 cs4 z v H4 e4 => g2 F4 ι4 cs4 z v H4 (E3.trans e4), fun F4 ι4 cs4 z σ4 H4 e4 => g1 F4 ι4 cs4 z σ4 H4 (E3.trans e4), ?_, fun F4 ι4 cs4 x cls od z σ4 H4 e4 => g5 F4 ι4 cs4 x cls od z σ4 H4 (E3.trans e4)⟩
      all_goals
        intro F4 ι4 cs4 z σ4 H4 e4 S4 R4 q4
        exact ⟨F4, ι4, z, cs4, e'.trans (e2.trans (e3.trans e4)), S4, R4, q4⟩
    · have hi' : i = items.length := by omega
      subst hi'
      rw [List.drop_length] at q
      obtain ⟨k, q⟩ := (show keep cs' ∧ _ from q)
      exact .inl ⟨sv.stop e'.to0 S' k, g1 _ _ _ _ _ _ (e1.trans e') S' R' q⟩
end
end DL
set_option maxHeartbeats 2000000
namespace DL
open PySem PySem.Spec L2
def poison (n : Nat) : W → W
  | .c i => if i < n then .c i else .dead
  | w => w
def poisonC (n : Nat) : Cell → Cell
  | .obj c fs => .obj c (fs.map (Option.map (poison n)))
  | x => x
def dropTo (n : Nat) (cs : Cs) : Cs := (cs.take n).map (poisonC n)
/-- what every state of cells is: its objects name cells of its own -/
def closed (cs : Cs) : Prop := dropTo cs.length cs = cs
section
variable {G : Gam} {F H : Hp} {ι : Pl} {cs : Cs}
theorem poison_rep {n : Nat} {w : W} {v : V} (r : RepW G F ι w v) : RepW G F (ι.cut n) (poison n w) v := by
  cases w with
  | d x => exact r
  | dead => exact True.intro
  | tp xs => exact r
  | c i =>
    unfold poison
    by_cases hi : i < n
    · simp only [if_pos hi]
      obtain ⟨a, h1, h2⟩ := r
      exact ⟨a, by show (ι.l.take n)[i]? = _; rw [List.getElem?_take_of_lt hi]; exact h1, h2⟩
    · simp only [if_neg hi]
      exact True.intro
theorem Paired.map_left {α β γ : Type} {P : α → β → Prop} {Q : γ → β → Prop} {g : α → γ} (f : ∀ a b, P a b → Q (g a) b) : ∀ {l : List α} {m : List β}, Paired P l m → Paired Q (l.map g) m
  | _, _, .nil => .nil
  | _, _, .cons h t => .cons (f _ _ h) (Paired.map_left f t)
theorem CellAt.drop {n : Nat} {a : Addr} {x : Cell} (h : CellAt G F ι H a x) : CellAt G F (ι.cut n) H a (poisonC n x) := by
  cases x with
  | obj c fs =>
    obtain ⟨h1, C, nm, dx, gs, vs, h2, h3, h4, h5⟩ := h
    refine ⟨h1, C, nm, dx, gs, vs, h2, h3, h4, Paired.map_left (fun a b q => ?_) h5⟩
    cases a <;> cases b <;> first | exact poison_rep q | exact q
  | _ => exact h
theorem Sim.drop (S : Sim G F ι cs H) (n : Nat) : Sim G F (ι.cut n) (dropTo n cs) H := by
  refine ⟨S.same, by simp [dropTo, Pl.cut, S.len], S.nd.take n, fun i x q => ?_, S.fr, fun a q => ⟨(S.ap a q).1, fun z => (S.ap a q).2 (List.mem_of_mem_take z)⟩⟩
  unfold dropTo at q
  rw [List.getElem?_map] at q
  by_cases hi : i < n
  · rw [List.getElem?_take_of_lt hi] at q
    cases e : cs[i]? with
    | none => rw [e] at q; cases q
    | some y =>
      rw [e] at q; cases q
      obtain ⟨a, h1, h2⟩ := S.cell i y e
      exact ⟨a, by show (ι.l.take n)[i]? = _; rw [List.getElem?_take_of_lt hi]; exact h1, h2.drop⟩
  · rw [List.getElem?_eq_none (by simp; omega)] at q; cases q
/-- behind a stretch that began at ι -/
theorem Sim.back {F' : Hp} {ι' : Pl} {cs' : Cs} {H' : Hp} (S' : Sim G F' ι' cs' H') (e : Ext F F' ι ι') : Sim G F' ι (dropTo ι.l.length cs') H' := by
  obtain ⟨r, e1⟩ := e.pre
  have h := S'.drop ι.l.length
  have e2 : ι'.cut ι.l.length = ι := by
    unfold Pl.cut
    rw [← e1, List.take_left, e.eR]
  rwa [e2] at h
theorem poison_closed {n : Nat} {w : W} {v : V} (r : RepW G F ι w v) (h : ι.l.length = n) : poison n w = w := by
  cases w with
  | c i =>
    obtain ⟨a, h1, _⟩ := r
    have : i < n := by rw [← h]; exact (List.getElem?_eq_some_iff.mp h1).1
    unfold poison
    simp only [if_pos this]
  | _ => rfl
theorem Paired.map_eq {α β : Type} {P : α → β → Prop} {g : α → α} (f : ∀ a b, P a b → g a = a) : ∀ {l : List α} {m : List β}, Paired P l m → l.map g = l
  | _, _, .nil => rfl
  | _, _, .cons h t => by rw [List.map_cons, f _ _ h, Paired.map_eq f t]
theorem Sim.closed (S : Sim G F ι cs H) : closed cs := by
  unfold DL.closed dropTo
  rw [List.take_length]
  refine List.ext_getElem? fun i => ?_
  rw [List.getElem?_map]
  cases e : cs[i]? with
  | none => rfl
  | some x =>
    obtain ⟨a, h1, h2⟩ := S.cell i x e
    show some (poisonC cs.length x) = some x
    refine congrArg some ?_
    cases x with
    | obj c fs =>
      obtain ⟨_, C, nm, dx, gs, vs, _, _, _, h5⟩ := h2
      refine congrArg (Cell.obj c) (Paired.map_eq (fun a b q => ?_) h5)
      cases a with
      | none => rfl
      | some w =>
        cases b with
        | none => exact q.elim
        | some v => exact congrArg some (poison_closed q S.len)
    | _ => rfl
end
theorem closed_nil : closed [] := rfl
theorem closed_mem {cs : Cs} (h : closed cs) : ∀ x ∈ cs, poisonC cs.length x = x := fun x hx => by
  unfold closed dropTo at h
  rw [List.take_length] at h
  obtain ⟨i, hi⟩ := List.mem_iff_getElem?.mp hx
  have e := congrArg (fun l => l[i]?) h
  simp only [List.getElem?_map, hi] at e
  exact Option.some.inj e
theorem dropTo_all {n : Nat} {cs : Cs} (hn : n = cs.length) (h : ∀ x ∈ cs, poisonC n x = x) : dropTo n cs = cs := by
  subst hn
  unfold dropTo
  rw [List.take_length]
  refine List.ext_getElem? fun i => ?_
  rw [List.getElem?_map]
  cases e : cs[i]? with
  | none => rfl
  | some x => exact congrArg some (h x (List.mem_of_getElem? e))
theorem dropTo_append {n : Nat} {cs g : Cs} (hn : n = cs.length) : dropTo n (cs ++ g) = dropTo n cs := by
  subst hn
  unfold dropTo
  rw [List.take_left, List.take_length]
/-- no object -/
def plainC : Cell → Bool
  | .obj _ _ => false
  | _ => true
theorem poisonC_plain {n : Nat} {x : Cell} (h : plainC x = true) : poisonC n x = x := by
  cases x with
  | obj c fs => cases h
  | _ => rfl
theorem closed_set {cs : Cs} {i : Nat} {x : Cell} (h : closed cs) (hx : plainC x = true) : closed (cs.set i x) := by
  refine dropTo_all rfl fun y hy => ?_
  rw [List.length_set]
  rcases List.mem_or_eq_of_mem_set hy with q | q
  · exact closed_mem h y q
  · rw [q]; exact poisonC_plain hx
def wipeE (env : Nv) : List Nat → Nv
  | [] => env
  | v :: vs => (wipeE env vs).set v none
theorem wipeE_rep {G : Gam} {F : Hp} {ι : Pl} {env : Nv} {σ : St} (R : RepEnv G F ι env σ) : ∀ vs : List Nat, RepEnv G F ι (wipeE env vs) (wipe σ vs)
  | [] => R
  | v :: vs => by
    have R1 := wipeE_rep R vs
    unfold wipeE wipe
    refine ⟨by simp [R1.1], fun j x e => ?_⟩
    by_cases hj : v = j
    · subst hj
      by_cases hi : v < (wipeE env vs).length
      · rw [List.getElem?_set_self hi] at e; cases e
      · rw [List.getElem?_eq_none (by simpa using hi)] at e; cases e
    · rw [List.getElem?_set_ne hj] at e
      obtain ⟨u, h1, h2⟩ := R1.2 j x e
      exact ⟨u, by rw [List.getElem?_set_ne hj]; exact h1, h2⟩
def dYes : DB := fun _ cs Q _ => Q true cs
def noX : DX := fun _ _ => False
/-- the turns of a comprehension: acc is what is made so far, n the number of cells ahead of it -/
def lcD (g : DG) (tt : DB) (te : DT) (keep : Cs → Prop) (vs : List Nat) (env : Nv) (n : Nat) (Q : List D → Cs → Prop) : List W → List D → Cs → Prop
  | [], acc, cs => keep cs ∧ Q acc cs
  | x :: r, acc, cs => keep cs ∧ g x (wipeE env vs) cs fun env1 cs1 => tt env1 cs1 (fun b cs2 => if b = true then te env1 cs2 (fun w cs3 => fixW w cs3 fun y cs4 => acc.length < sizeLine ∧ lcD g tt te keep vs env n Q r (acc ++ [y]) (dropTo n cs4)) noX
    else lcD g tt te keep vs env n Q r acc (dropTo n cs2)) noX
def dLc (ti : DI) (g : DG) (tt : DB) (te : DT) (vs : List Nat) : DT := fun env cs Q E => ti env cs (fun items keep cs1 => lcD g tt te keep vs env cs1.length (fun acc cs2 => Q (.c cs2.length) (cs2 ++ [.lst acc])) items [] cs1) E
abbrev WxF : WX := fun _ _ _ _ => False
def DTs (X : Cx) (G : Gam) (ifs : List Expr) (t : DB) : Prop := PTs X ifs (upT G WxF t)
theorem PTs.imp {X : Cx} {ifs : List Expr} {t u : TT} (h : PTs X ifs t) (f : ∀ σ H Q, u σ H Q → t σ H Q) : PTs X ifs u := ⟨fun pins s σ H Q I q => h.run pins s σ H Q I (f σ H Q q)⟩
theorem ts_nil {X : Cx} {G : Gam} : DTs X G [] dYes := PTs.imp pts_nil fun σ H Q h => by
  obtain ⟨F, ι, env, cs, Q0, E0, S, R, t, hq, he⟩ := h
  exact hq F ι cs true H .refl S t
theorem ts_one {X : Cx} {G : Gam} {c : Expr} {t : DB} (h : DTst X G WxF c t) : DTs X G [c] t := pts_one h
section
variable {X : Cx} {G : Gam} {Wx : WX} {tg iter elt : Expr} {ifs : List Expr} {scope : Scope} {own : List (Str × Nat)} {pos : Pos} {ti : DI} {g : DG} {tt : DB} {te : DT}
theorem wipe_wipe (σ : St) (vs : List Nat) : wipe (wipe σ vs) vs = wipe σ vs := by
  have h : ∀ (us : List Nat) (τ : St), (∀ i ∈ us, ∀ o, τ[i]? = some o → o = none) → wipe τ us = τ := by
    intro us
    induction us with
    | nil => intro τ _; rfl
    | cons u us ih =>
      intro τ h
      unfold wipe
      rw [ih τ fun i hi => h i (List.mem_cons_of_mem _ hi)]
      refine List.ext_getElem? fun j => ?_
      by_cases hj : u = j
      · subst hj
        by_cases hu : u < τ.length
        · rw [List.getElem?_set_self hu, List.getElem?_eq_getElem hu]
          exact congrArg some (h u List.mem_cons_self _ (List.getElem?_eq_getElem hu)).symm
        · rw [List.getElem?_eq_none (by simpa using hu), List.getElem?_eq_none (by simpa using hu)]
      · rw [List.getElem?_set_ne hj]
  refine h vs _ fun i hi o e => ?_
  cases o with
  | none => rfl
  | some x => exact absurd hi (wipe_some e).2
theorem lc_up {σ : St} {H : Hp} {Q : VK} {vs : List Nat} (h : upE G Wx (dLc ti g tt te vs) σ H Q) : tLc (upI G Wx ti) (upG G vs g) (upT G WxF tt) (upE G WxF te) vs σ H Q := by
  obtain ⟨F, ι, env, cs, Q0, E0, S, R, t, hq, he⟩ := h
  refine ⟨F, ι, env, cs, _, E0, S, R, t, fun F1 ι1 cs1 items keep J H1 e1 S1 sv q1 => ?_, he⟩
  intro D hD
  have n1 : cs1.length = ι1.l.length := S1.len.symm
  rw [n1] at q1
  have e0 := S1.dead hD
  have hDι : D ∉ ι1.l := fun hm => by
    obtain ⟨i, z⟩ := List.mem_iff_getElem?.mp hm
    obtain ⟨u, hu⟩ := S1.live z
    rw [hD] at hu; cases hu
  have hDR : ι1.R D = none := S1.fr.free hD
  -- the state of a turn: the new list stands at D, apart from all that is told
  have other : ∀ {F' : Hp} {cs' : Cs} {H' : Hp} (o : HO), Sim G F' ι1 cs' H' → F' D = none → Sim G F' ι1 cs' (upd H' D o) := fun {F' cs' H'} o S' fD => by
    refine ⟨fun b u q => by rw [upd_ne (ne_of_none q fD)]; exact S'.same _ _ q, S'.len, S'.nd, fun i x q => ?_, fun b u q => by rw [upd_ne (ne_of_none q hDR)]; exact S'.fr _ _ q, S'.ap⟩
    obtain ⟨a, h1, h2⟩ := S'.cell i x q
    have ha : a ≠ D := fun z => hDι (z ▸ List.mem_of_getElem? h1)
    exact ⟨a, h1, h2.mono .refl id fun u z => by rw [upd_ne ha]; exact z⟩
  refine ⟨fun i m H' => ∃ F' cs' acc accV, Same F1 F' ∧ Sim G F' ι1 cs' H' ∧ F' D = none ∧ H' D = some (.lst accV) ∧ Reps G F' acc accV ∧ m = items.length - i ∧ i ≤ items.length ∧
      lcD g tt te keep vs env ι1.l.length (fun acc cs2 => Q0 (.c cs2.length) (cs2 ++ [.lst acc])) (items.drop i) acc cs',
    ⟨_, F1, cs1, [], [], Same.refl _, other _ S1 e0, e0, upd_same, Reps.nil, rfl, Nat.zero_le _, q1⟩, ?_⟩
  rintro i m H' ⟨F', cs', acc, accV, sF, S', fD, hD', rA, rfl, hi, q⟩
  have E' : Ext F1 F' ι1 ι1 := ⟨sF, List.prefix_refl _, rfl⟩
  by_cases hlt : i < items.length
  · rw [List.drop_eq_getElem_cons hlt] at q
    obtain ⟨k, q⟩ := (show keep cs' ∧ _ from q)
    refine .inr ⟨sv.go i E'.to0 S' k hlt, fun H2 => ∃ F2 cs2 acc2 accV2, Same F1 F2 ∧ Sim G F2 ι1 cs2 H2 ∧ F2 D = none ∧ H2 D = some (.lst accV2) ∧ Reps G F2 acc2 accV2 ∧
        lcD g tt te keep vs env ι1.l.length (fun acc cs2 => Q0 (.c cs2.length) (cs2 ++ [.lst acc])) (items.drop (i + 1)) acc2 cs2,
      fun H2 ⟨F2, cs2, acc2, accV2, a1, a2, a3, a4, a5, a6⟩ => ⟨_, by omega, F2, cs2, acc2, accV2, a1, a2, a3, a4, a5, rfl, hlt, a6⟩, fun x H2 y => ?_⟩
    -- D stands apart through the turn
    have ED : Ext0 F1 F' ι1 ⟨ι1.l, upd ι1.R D (.lst accV)⟩ := ⟨sF, List.prefix_refl _⟩
    have SD : Sim G F' ⟨ι1.l, upd ι1.R D (.lst accV)⟩ cs' H' := by
      refine ⟨S'.same, S'.len, S'.nd, fun i x q => S'.cell i x q, fun b u q => ?_, fun b q => ?_⟩
      · by_cases hb : b = D
        · subst hb
          have q : upd ι1.R b (.lst accV) b = some u := q
          rw [upd_same] at q; cases q
          exact hD'
        · have q : upd ι1.R D (.lst accV) b = some u := q
          rw [upd_ne hb] at q
          exact S'.fr _ _ q
      · by_cases hb : b = D
        · subst hb
          exact ⟨fD, hDι⟩
        · have q : upd ι1.R D (.lst accV) b ≠ none := q
          rw [upd_ne hb] at q
          exact S'.ap b q
    obtain ⟨F2, e2, S2, r2⟩ := sv.yld i _ ED SD k (List.getElem?_eq_getElem hlt) y
    refine ⟨F2, _, wipeE env vs, cs', _, _, S2, (wipeE_rep ((R.mono e1).mono ⟨sF.trans e2.same, List.prefix_refl _, rfl⟩) vs), r2, q, fun F3 ι3 cs3 env3 σ3 H3 e3 S3 R3 w3 q3 => ⟨w3.trans (wipe_wipe σ vs), ?_⟩⟩
    refine ⟨F3, ι3, env3, cs3, _, _, S3, R3, q3, fun F4 ι4 cs4 b H4 e4 S4 q4 => ?_, fun F4 ι4 cs4 x cls od H4 e4 S4 r4 q4 => q4.elim⟩
    -- back to the cells ahead of the turn
    have fin : ∀ {F5 : Hp} {ι5 : Pl} {cs5 : Cs} {H5 : Hp}, Ext F2 F5 ⟨ι1.l, upd ι1.R D (.lst accV)⟩ ι5 → Sim G F5 ι5 cs5 H5 → F5 D = none ∧ H5 D = some (.lst accV) ∧ Sim G F5 ι1 (dropTo ι1.l.length cs5) H5 := fun {F5 ι5 cs5 H5} e5 S5 => by
      have hR : ι5.R = upd ι1.R D (.lst accV) := e5.eR
      refine ⟨(S5.ap D (by rw [hR, upd_same]; simp)).1, S5.fr _ _ (by rw [hR, upd_same]), ?_⟩
      have B := S5.back e5
      refine ⟨B.same, B.len, B.nd, fun i x q => B.cell i x q, fun b u q => ?_, fun b q => ?_⟩
      · have hb : b ≠ D := ne_of_none q hDR
        exact B.fr b u (by show upd ι1.R D (.lst accV) b = _; rw [upd_ne hb]; exact q)
      · have hb : b ≠ D := fun z => q (z ▸ hDR)
        exact B.ap b (by show upd ι1.R D (.lst accV) b ≠ _; rw [upd_ne hb]; exact q)
    dsimp only
    split
    · rename_i hb
      rw [if_pos hb] at q4
      refine ⟨F4, ι4, env3, cs4, _, _, S4, R3.mono e4, q4, fun F5 ι5 cs5 w v H5 e5 S5 r5 q5 => ?_, fun F5 ι5 cs5 x cls od H5 e5 S5 r5 q5 => q5.elim⟩
      obtain ⟨F6, cs6, z, e6, S6, r6, hl, q6⟩ := fixW_ok S5 r5 q5
      obtain ⟨f1, f2, f3⟩ := fin (e3.trans (e4.trans (e5.trans e6))) S6
      have sA : Same F' F6 := e2.same.trans (e3.same.trans (e4.same.trans (e5.same.trans e6.same)))
      refine ⟨accV, f2, by rw [rA.length]; exact hl, F6, _, acc ++ [z], accV ++ [v], sF.trans sA, other _ f3 f1, f1, upd_same, Reps.append (Reps.mono sA _ _ rA) (Reps.one r6), q6⟩
    · rename_i hb
      rw [if_neg hb] at q4
      obtain ⟨f1, f2, f3⟩ := fin (e3.trans e4) S4
      have sA : Same F' F4 := e2.same.trans (e3.same.trans e4.same)
      exact ⟨F4, _, acc, accV, sF.trans sA, f3, f1, f2, Reps.mono sA _ _ rA, q4⟩
  · have hi' : i = items.length := by omega
    subst hi'
    rw [List.drop_length] at q
    obtain ⟨k, q⟩ := (show keep cs' ∧ _ from q)
    refine .inl ⟨sv.stop E'.to0 S' k, ?_⟩
    -- from now on D is a cell
    have E2 : Ext F1 F' ι1 (ι1.add D) := ⟨sF, List.prefix_append _ _, rfl⟩
    refine hq F' (ι1.add D) (cs' ++ [.lst acc]) (.c cs'.length) _ H' (e1.trans E2) ?_ ⟨D, by rw [← S'.len]; simp [Pl.add], rfl⟩ q
    refine ⟨S'.same, by simp [Pl.add, S'.len], ?_, fun i x q => ?_, S'.fr, fun b q => ⟨(S'.ap b q).1, fun z => ?_⟩⟩
    · exact S'.nd.snoc hDι
    · by_cases hi : i < cs'.length
      · rw [List.getElem?_append_left hi] at q
        obtain ⟨a, h1, h2⟩ := S'.cell i x q
        exact ⟨a, (show Ext F' F' ι1 (ι1.add D) from ⟨Same.refl _, List.prefix_append _ _, rfl⟩).at_ h1, h2.mono ⟨Same.refl _, List.prefix_append _ _, rfl⟩ id fun _ z => z⟩
      · have hi' : i = cs'.length := by
          have := (List.getElem?_eq_some_iff.mp q).1
          simp at this; omega
        subst hi'
        rw [List.getElem?_append_right (Nat.le_refl _)] at q
        simp at q; subst q
        exact ⟨D, by rw [← S'.len]; simp [Pl.add], fD, accV, hD', rA⟩
    · have z' : b ∈ ι1.l ++ [D] := z
      rcases List.mem_append.mp z' with z | z
      · exact (S'.ap b q).2 z
      · simp at z; subst z; exact q hDR
end
end DL
namespace DL
open PySem PySem.Spec L2
open PyProof.Rows (envOfC)
section
variable {X : Cx} {G : Gam} {Wx : WX} {tg iter elt : Expr} {ifs : List Expr} {scope : Scope} {own : List (Str × Nat)} {pos : Pos} {ti : DI} {g : DG} {tt : DB} {te : DT}
theorem e_lc (hc : X.calm = true) (hN : X.N.Nodup) (hi : DIt X G Wx tg iter ti) (ok : BlkOk X.N X.env.scope scope own)
    (hg : ∀ s H C cl fp, DGt (X.blk s H scope (compEnvC scope cl C X.env) fp) G (own.map (·.2)) tg g) (ht : ∀ s H C cl fp, DTs (X.blk s H scope (compEnvC scope cl C X.env) fp) G ifs tt)
    (he : ∀ s H C cl fp, DE (X.blk s H scope (compEnvC scope cl C X.env) fp) G WxF elt te) (hs : ∀ x, foldedSetIterable iter X.env x = pure x := by intro _; rfl) :
    DE X G Wx (.ListComp elt [⟨tg, iter, ifs, 0⟩] scope pos) (dLc ti g tt te (own.map (·.2))) :=
  PE.imp (pe_lc hc hN hi ok hg ht he hs) fun _ _ _ => lc_up
theorem s_setLc {i : Nat} {y : Str} {py spos : Pos} (hc : X.calm = true) (hN : X.N.Nodup) (hy : X.N[i]? = some y) (hyl : X.env.scope.names.lookup y = some .local)
    (hsw : swapsWith (.ListComp elt [⟨tg, iter, ifs, 0⟩] scope pos) (some (.Name y py)) spos.line X.env = pure true) (hi : DIt X G Wx tg iter ti) (ok : BlkOk X.N X.env.scope scope own)
    (hg : ∀ s H C cl fp, DGt (X.blk s H scope (compEnvC scope cl C X.env) fp) G (own.map (·.2)) tg g) (ht : ∀ s H C cl fp, DTs (X.blk s H scope (compEnvC scope cl C X.env) fp) G ifs tt)
    (he : ∀ s H C cl fp, DE (X.blk s H scope (compEnvC scope cl C X.env) fp) G WxF elt te) (hs : ∀ x, foldedSetIterable iter X.env x = pure x := by intro _; rfl) :
    DSt X G Wx (.Assign [.Name y py] (.ListComp elt [⟨tg, iter, ifs, 0⟩] scope pos) spos) (dAsg (dLc ti g tt te (own.map (·.2))) (dgName i)) :=
  PS.imp (ps_setLc hc hN hy hyl hsw hi ok hg ht he hs) fun D σ H h => by
    obtain ⟨F, ι, env, cs, D0, S, R, t, h1, h2, h3, h4, h5⟩ := h
    refine lc_up ⟨F, ι, env, cs, _, _, S, R, t, fun F1 ι1 cs1 x v H1 e1 S1 r1 q1 => ?_, fun F1 ι1 cs1 x cls od H1 e1 S1 r1 q1 => h5 F1 ι1 cs1 x cls od env σ H1 e1 S1 (R.mono e1) r1 q1⟩
    exact h1 F1 ι1 cs1 _ _ H1 e1 S1 ((R.mono e1).set r1) q1
end
/-- what a def is worth: its arguments, the cells, what is wanted -/
abbrev DSpec := List W → Cs → DQ → DX → Prop
structure FnD (P : Program) (w : World) (K : PySem.W.Frag) (mg : Str → Option Value) (base : Heap) (G : Gam) (k : Nat) (f : Addr) (fd : FuncData) (ps : List Str) (sp : DSpec) : Prop where
  len : ∀ ws cs Q E, sp ws cs Q E → ws.length = ps.length
  run : ∀ (A : Around) (outer : List PySem.Env) (s : Shared) (H : Hp) (args : Args) (us : List Value) (vs : List V) (F : Hp) (ι : Pl) (cs : Cs) (ws : List W) (Q0 : DQ) (E0 : DX) (Q : VK) (E : XK),
    A.guards = some [] → Room k A → Env0 P w K mg base A outer s H → BindsTo s fd args (ps.zip us) → Vals vs us → Sim G F ι cs H → Paired (RepW G F ι) ws vs → sp ws cs Q0 E0 →
    (∀ F' ι' cs' w v H', Ext F F' ι ι' → Sim G F' ι' cs' H' → RepW G F' ι' w v → Q0 w cs' → Q v H') →
    (∀ F' ι' cs' x cls od H', Ext F F' ι ι' → Sim G F' ι' cs' H' → RepX G F' x cls od H' → E0 x cs' → E cls od H') →
    codeAny (model P w) A (.call (.ref f) args) (CR (L2.CX P w) outer P w H s Q E) s
/-- what is handed back from a def that was entered at n cells -/
def retD (n : Nat) (w : W) (cs : Cs) (Q : DQ) : Prop := match w with
  | .d x => Q (.d x) (dropTo n cs)
  | .dead => False
  | .tp _ => False
  | .c i => if i < n then Q (.c i) (dropTo n cs) else match cs[i]? with
    | some (.lst xs) => Q (.c n) (dropTo n cs ++ [.lst xs])
    | some (.dct kvs o) => Q (.c n) (dropTo n cs ++ [.dct kvs o])
    | some (.frz x) => Q (.d x) (dropTo n cs)
    | _ => False
section
variable {G : Gam} {F F' H' : Hp} {ι ι' : Pl} {cs cs' : Cs}
theorem Ext.home (e : Ext F F' ι ι') : Ext F F' ι ι := ⟨e.same, List.prefix_refl _, rfl⟩
/-- a list, a dict that is owned -/
def ownC : Cell → Bool
  | .lst _ | .dct _ _ => true
  | _ => false
theorem ownC_free {G : Gam} {F H : Hp} {ι : Pl} {a : Addr} {x : Cell} (hp : ownC x = true) (h : CellAt G F ι H a x) : F a = none := by
  cases x with
  | lst xs => exact h.1
  | dct kvs o => exact h.1
  | obj c fs => cases hp
  | frz y => cases hp
/-- a cell is told again behind the ones of ι -/
theorem Sim.move (S : Sim G F' ι' cs' H') (e : Ext F F' ι ι') {i : Nat} {a : Addr} {x : Cell} (hi : ¬ i < ι.l.length) (ha : ι'.l[i]? = some a) (hx : cs'[i]? = some x) (hp : ownC x = true) : Sim G F' (ι.add a) (dropTo ι.l.length cs' ++ [x]) H' := by
  have B := S.back e
  obtain ⟨a', h1, h2⟩ := S.cell i x hx
  rw [ha] at h1; cases h1
  have hn : a ∉ ι.l := fun hm => by
    obtain ⟨j, hj⟩ := List.mem_iff_getElem?.mp hm
    have hj' := e.at_ hj
    have : i = j := S.nd i j a ha hj' (ownC_free hp h2)
    subst this
    exact hi (List.getElem?_eq_some_iff.mp hj).1
  have hc : ∀ ι'', CellAt G F' ι'' H' a x := fun ι'' => by
    cases x with
    | obj c fs => cases hp
    | frz y => cases hp
    | _ => exact h2
  refine ⟨B.same, ?_, ?_, fun j y q => ?_, B.fr, fun b q => ⟨(B.ap b q).1, fun z => ?_⟩⟩
  · show (ι.l ++ [a]).length = _
    rw [List.length_append, List.length_append, ← B.len]
    rfl
  · exact B.nd.snoc hn
  · by_cases hj : j < (dropTo ι.l.length cs').length
    · rw [List.getElem?_append_left hj] at q
      obtain ⟨b, g1, g2⟩ := B.cell j y q
      exact ⟨b, (show Ext F' F' ι (ι.add a) from ⟨Same.refl _, List.prefix_append _ _, rfl⟩).at_ g1, g2.mono ⟨Same.refl _, List.prefix_append _ _, rfl⟩ id fun _ z => z⟩
    · have hj' : j = (dropTo ι.l.length cs').length := by
        have := (List.getElem?_eq_some_iff.mp q).1
        simp at this; omega
      subst hj'
      rw [List.getElem?_append_right (Nat.le_refl _)] at q
      simp at q; subst q
      exact ⟨a, by rw [← B.len]; simp [Pl.add], hc _⟩
  · have z' : b ∈ ι.l ++ [a] := z
    rcases List.mem_append.mp z' with z | z
    · exact (B.ap b q).2 z
    · simp at z; subst z
      have hR : ι'.R b ≠ none := by rw [e.eR]; exact q
      exact (S.ap b hR).2 (List.mem_of_getElem? ha)
theorem retD_ok (S : Sim G F' ι' cs' H') (e : Ext F F' ι ι') (hl : cs.length = ι.l.length) {w : W} {v : V} (r : RepW G F' ι' w v) {Q : DQ} (h : retD cs.length w cs' Q) : ∃ ι'' cs'' w', Ext F F' ι ι'' ∧ Sim G F' ι'' cs'' H' ∧ RepW G F' ι'' w' v ∧ Q w' cs'' := by
  rw [hl] at h
  cases w with
  | dead => cases h
  | tp xs => cases h
  | d x => exact ⟨ι, _, .d x, e.home, S.back e, r, h⟩
  | c i =>
    obtain ⟨a, ha, rfl⟩ := r
    have h : if i < ι.l.length then Q (.c i) (dropTo ι.l.length cs') else (match cs'[i]? with
      | some (.lst xs) => Q (.c ι.l.length) (dropTo ι.l.length cs' ++ [.lst xs])
      | some (.dct kvs o) => Q (.c ι.l.length) (dropTo ι.l.length cs' ++ [.dct kvs o])
      | some (.frz x) => Q (.d x) (dropTo ι.l.length cs')
      | _ => False) := h
    split at h
    · rename_i hi
      refine ⟨ι, _, .c i, e.home, S.back e, ⟨a, ?_, rfl⟩, h⟩
      obtain ⟨r, e1⟩ := e.pre
      rw [← e1, List.getElem?_append_left hi] at ha
      exact ha
    · rename_i hi
      have E2 : Ext F F' ι (ι.add a) := ⟨e.same, List.prefix_append _ _, rfl⟩
      split at h
      · rename_i xs hx
        exact ⟨ι.add a, _, .c ι.l.length, E2, S.move e hi ha hx rfl, ⟨a, by simp [Pl.add], rfl⟩, h⟩
      · rename_i kvs o hx
        exact ⟨ι.add a, _, .c ι.l.length, E2, S.move e hi ha hx rfl, ⟨a, by simp [Pl.add], rfl⟩, h⟩
      · rename_i x hx
        obtain ⟨a', h1, h2⟩ := S.cell i _ hx
        rw [ha] at h1; cases h1
        exact ⟨ι, _, .d x, e.home, S.back e, h2.2, h⟩
      · cases h
end
/-- the names at the entry -/
def startE (N : List Str) (ws : List W) : Nv := ws.map some ++ List.replicate (N.length - ws.length) none
theorem startE_rep {G : Gam} {F : Hp} {ι : Pl} {N : List Str} {ws : List W} {vs : List V} (h : Paired (RepW G F ι) ws vs) : RepEnv G F ι (startE N ws) (L2.start N vs) := by
  have hl : ws.length = vs.length := h.length
  unfold startE L2.start
  refine ⟨by simp [hl], fun i x e => ?_⟩
  by_cases hi : i < ws.length
  · rw [List.getElem?_append_left (by simpa using hi), List.getElem?_map] at e
    have get : ∀ {ws : List W} {vs : List V} {i : Nat} {x : W}, Paired (RepW G F ι) ws vs → ws[i]? = some x → ∃ v, vs[i]? = some v ∧ RepW G F ι x v := by
      intro ws vs i x h e
      induction h generalizing i with
      | nil => simp at e
      | cons r t ih =>
        cases i with
        | zero => simp at e; subst e; exact ⟨_, rfl, r⟩
        | succ i => simpa using ih (i := i) (by simpa using e)
    cases q : ws[i]? with
    | none => rw [q] at e; cases e
    | some y =>
      rw [q] at e; cases e
      obtain ⟨v, h1, h2⟩ := get h q
      refine ⟨v, ?_, h2⟩
      rw [List.getElem?_append_left (by simp; omega), List.getElem?_map, h1]
      rfl
  · rw [List.getElem?_append_right (by simpa using hi), List.getElem?_replicate] at e
    split at e <;> cases e
/-- the ends of a def's body entered at n cells -/
def endsD (n : Nat) (Q : DQ) (E : DX) : DEnds := { nx := fun _ cs => retD n (.d .non) cs Q, rt := fun w cs => retD n w cs Q, ex := fun x _ cs => E x (dropTo n cs) }
section
variable {P : Program} {w : World} {K : PySem.W.Frag} {mg : Str → Option Value} {base : Heap}
/-- THE RULE for a def: its body's reading t, and that the worth implies it -/
theorem fnD_of {x qual : Str} {params : Arguments} {body : List Stmt} {scope : Scope} {dvs : List V} {kws : List (Str × V)} {f : Addr} {fd : FuncData} {G : Gam} {N ps : List Str} {k : Nat} {sp : DSpec} {t : DS}
    (Fd : FunD K x qual params body scope dvs kws f fd) (S : FnScope N ps scope) (len : ∀ ws cs Q E, sp ws cs Q E → ws.length = ps.length)
    (hb : ∀ (cdv : Value) (A : Around) (outer : List PySem.Env) (s : Shared) (H : Hp) (E : XK), A.guards = some [] → Room k (A.deeper (envOfC qual scope s.heap.objs.size f cdv)) →
      DSs (cxOf (L2.CX P w) P w K mg base N qual scope f cdv A outer s H E) G (fun c d _ H => E c d H) body t)
    (pure : ∀ ws cs Q E, closed cs → sp ws cs Q E → t (endsD cs.length Q E) (startE N ws) cs) : FnD P w K mg base G (k + 1) f fd ps sp := by
  obtain ⟨oc, od, dV, kV, doc, pm, an, cdv, ct, osl, rfl, lk, hcd, _, _⟩ := Fd.ex
  refine ⟨len, fun A outer s H args us vs F ι cs ws Q0 E0 Q E hgd hr e0 hbd r S0 rw0 hsp hQ hE => ?_⟩
  have hl : vs.length = ps.length := by rw [← rw0.length]; exact len _ _ _ _ hsp
  have up : ∀ b o, base.get? b = some o → s.heap.get? b = some o := fun b o q => (e0.bs b o q).1
  have lim := e0.mod.nolimit.keeps up
  have kinds : ∀ y ∈ ps.zip us, scope.names.lookup y.1 = some .local ∨ (scope.names.lookup y.1 = some .cell ∧ ((cellsFrom (s.heap.objs.size + 1) scope.names []).lookup y.1).isSome = true) := by
    rintro ⟨nm, u⟩ hy
    refine (S.par nm (List.of_mem_zip hy).1).imp id fun q => ⟨q, ?_⟩
    exact PySem.W.cellsFrom_some _ _ _ (.inl q)
  refine codeAny_call_function hr.depth (e0.mod.kin.keeps up _ _ lk) rfl S.co S.gen rfl (PySem.W.codeRec_of (e0.mod.kin.keeps up) hcd) (hbd _ _ _ _ ?_)
  refine wpAny_newFunctionEnv_cells S.kind kinds fun env he s1 x => ?_
  cases he
  refine ⟨lim.keeps x.toInCall.keep, codeAny_func ?_⟩
  have J0 := inv_start (CX := L2.CX P w) (P := P) (w := w) (E := E) S hr.hd e0 hl r x
  have rd := (hb cdv A outer s H E hgd (hr.deeper _)).run [] s1 (L2.start N vs) H { nx := fun _ H' => Q .non H', rt := Q } J0
    ⟨F, ι, startE N ws, cs, endsD cs.length Q0 E0, S0, startE_rep rw0, pure _ _ _ _ S0.closed hsp, ?a, ?b, fun _ _ _ _ _ _ _ _ _ z => z.elim, fun _ _ _ _ _ _ _ _ _ z => z.elim, ?c⟩
  case a =>
    intro F1 ι1 cs1 env1 σ1 H1 e1 S1 R1 q1
    have q1 : retD cs.length (.d .non) cs1 Q0 := q1
    obtain ⟨ι2, cs2, w2, e2, S2, r2, q2⟩ := retD_ok (w := .d .non) S1 e1 S0.len.symm (v := V.non) (by simp only [RepW, Rep]) q1
    exact hQ F1 ι2 cs2 w2 _ H1 e2 S2 r2 q2
  case b =>
    intro F1 ι1 cs1 u1 v1 H1 e1 S1 r1 q1
    have q1 : retD cs.length u1 cs1 Q0 := q1
    obtain ⟨ι2, cs2, w2, e2, S2, r2, q2⟩ := retD_ok S1 e1 S0.len.symm r1 q1
    exact hQ F1 ι2 cs2 w2 _ H1 e2 S2 r2 q2
  case c =>
    intro F1 ι1 cs1 y cls od env1 σ1 H1 e1 S1 R1 rx q1
    have q1 : E0 y (dropTo cs.length cs1) := q1
    rw [← S0.len] at q1
    exact hE F1 ι _ y cls od H1 e1.home (S1.back e1) rx q1
  refine wpAny_mono rd (fun fl s' hs => ?_) fun _ _ hs => hs
  cases fl with
  | ret u =>
    obtain ⟨v, σ', H', J, rv, q⟩ := hs
    exact ⟨v, H', J.os, J.bare, J.base, J.hok, rv, q⟩
  | next =>
    obtain ⟨σ', H', J, q⟩ := hs
    exact ⟨V.non, H', J.os, J.bare, J.base, J.hok, rfl, q⟩
  | brk => obtain ⟨_, _, _, q⟩ := hs; exact q.elim
  | cont => obtain ⟨_, _, _, q⟩ := hs; exact q.elim
end
end DL
namespace DL
open PySem PySem.Spec L2
open PyProof.Rows (envOfC)
/-- how a call binds: n positional values, keywords ks; gW puts them into the parameters' order, defaults among them -/
structure BindD (G : Gam) (fd : FuncData) (ps : List Str) (n : Nat) (ks : List Str) (gW : List W → List W → List W) : Prop where
  to : ∀ (s : Shared) (us zs : List Value), G.K.In s.heap → us.length = n → zs.length = ks.length → ∃ vals : List Value, BindsTo s fd ⟨us, ks.zip zs⟩ (ps.zip vals) ∧
    ∀ (F : Hp) (ι : Pl) (wp wk : List W) (vp vk : List V), Paired (RepW G F ι) wp vp → Paired (RepW G F ι) wk vk → Vals vp us → Vals vk zs → ∃ vv, Paired (RepW G F ι) (gW wp wk) vv ∧ Vals vv vals
theorem BindD.pos {G : Gam} {fd : FuncData} {ps : List Str} (h : Binds G.K fd ps []) : BindD G fd ps ps.length [] (fun us _ => us) where
  to := fun s us zs X l1 l2 => by
    refine ⟨us, ?_, fun F ι wp wk vp vk r1 r2 r3 r4 => ⟨vp, r1, r3⟩⟩
    have b := h s us X (by simpa using l1)
    simpa using b
section
variable {X : Cx} {G : Gam} {Wx : WX} {k : Nat} {f : Addr} {fd : FuncData} {ps : List Str} {sp : DSpec} {n : Nat} {ks : List Str} {gW : List W → List W → List W}
theorem run_D (Fd : FnD X.prog X.w X.K X.mg X.base G k f fd ps sp) (hgd : X.A.guards = some []) (hr : Room k X.A) (tk : Takes X Wx) (hK : X.K = G.K) (hb : BindD G fd ps n ks gW)
    {pins : List (Addr × Obj)} {s : Shared} {σ : L2.St} {H : Hp} {Q : VK} {F : Hp} {ι : Pl} {cs : Cs} {wp wk : List W} {vp vk : List V} {us zs : List Value} {Q0 : DQ} {E0 : DX}
    (I : Inv X pins σ H s) (S : Sim G F ι cs H) (rp : Paired (RepW G F ι) wp vp) (rk : Paired (RepW G F ι) wk vk) (r1 : Vals vp us) (r2 : Vals vk zs) (ln : wp.length = n) (lk : wk.length = ks.length)
    (h : sp (gW wp wk) cs Q0 E0) (hQ : ∀ F' ι' cs' w v H', Ext F F' ι ι' → Sim G F' ι' cs' H' → RepW G F' ι' w v → Q0 w cs' → Q v H')
    (hE : ∀ F' ι' cs' x cls od H', Ext F F' ι ι' → Sim G F' ι' cs' H' → RepX G F' x cls od H' → E0 x cs' → Wx cls od σ H') :
    wpAny (model X.prog X.w) X.A (call (.ref f) us (ks.zip zs)) (EP X pins σ Q) X.xe s := by
  obtain ⟨vals, b, rr⟩ := hb.to s us zs (hK ▸ I.kIn) (by rw [← r1.length, ← rp.length]; exact ln) (by rw [← r2.length, ← rk.length]; exact lk)
  obtain ⟨vv, r3, r4⟩ := rr F ι wp wk vp vk rp rk r1 r2
  refine wpAny_call (codeAny_mono (Fd.run X.A X.stack s H ⟨us, ks.zip zs⟩ vals vv F ι cs (gW wp wk) Q0 E0 Q (fun c d H' => Wx c d σ H') hgd hr I.env0 b r4 S r3 h hQ hE) fun r s' hq => ?_)
  cases r with
  | error e => exact tk _ _ (XE.of_call I (fun _ _ _ z => z) hq)
  | ok fl =>
    cases fl with
    | ret u => exact I.after hq
    | next => exact False.elim hq
    | brk => exact False.elim hq
    | cont => exact False.elim hq
/-- f(..): positional values, then keywords -/
def dCall (sp : DSpec) (n m : Nat) (gW : List W → List W → List W) (t tk : DA) : DT := fun env cs Q E => t env cs (fun ws cs1 => tk env cs1 (fun ks cs2 => ws.length = n ∧ ks.length = m ∧ sp (gW ws ks) cs2 Q E) E) E
theorem PK.imp {kws : List Keyword} {t u : TA} (h : PK X kws t) (f : ∀ σ H Q, u σ H Q → t σ H Q) : PK X kws u := ⟨fun pos pins s σ H Q I q => h.run pos pins s σ H Q I (f σ H Q q)⟩
variable {x : Str} {p pos apos : Pos} {e o : Expr} {es : List Expr} {kws : List Keyword} {t tks : DA} {to : DT}
/-- what a call of f is, once its arguments have come -/
theorem call_args {σ : L2.St} {H : Hp} {Q : VK} (h : upE G Wx (dCall sp n ks.length gW t tks) σ H Q) : upA G Wx t σ H fun vp H1 => upA G Wx tks σ H1 fun vk H2 =>
    ∃ F ι cs wp wk Q0 E0, Sim G F ι cs H2 ∧ Paired (RepW G F ι) wp vp ∧ Paired (RepW G F ι) wk vk ∧ wp.length = n ∧ wk.length = ks.length ∧ sp (gW wp wk) cs Q0 E0 ∧
      (∀ F' ι' cs' w v H', Ext F F' ι ι' → Sim G F' ι' cs' H' → RepW G F' ι' w v → Q0 w cs' → Q v H') ∧
      ∀ F' ι' cs' x cls od H', Ext F F' ι ι' → Sim G F' ι' cs' H' → RepX G F' x cls od H' → E0 x cs' → Wx cls od σ H' := by
  obtain ⟨F, ι, env, cs, Q0, E0, S, R, t, hq, hE⟩ := h
  refine ⟨F, ι, env, cs, _, E0, S, R, t, fun F1 ι1 cs1 wp vp H1 e1 S1 r1 q1 => ?_, hE⟩
  refine ⟨F1, ι1, env, cs1, _, E0, S1, R.mono e1, q1, fun F2 ι2 cs2 wk vk H2 e2 S2 r2 q2 => ?_, fun F2 ι2 cs2 z cls od H2 e2 => hE F2 ι2 cs2 z cls od H2 (e1.trans e2)⟩
  obtain ⟨l1, l2, q⟩ := q2
  exact ⟨F2, ι2, cs2, wp, wk, Q0, E0, S2, Paired.imp' (fun _ _ q => q.mono e2) r1, r2, l1, l2, q, fun F3 ι3 cs3 w v H3 e3 => hq F3 ι3 cs3 w v H3 (e1.trans (e2.trans e3)), fun F3 ι3 cs3 z cls od H3 e3 => hE F3 ι3 cs3 z cls od H3 (e1.trans (e2.trans e3))⟩
theorem dNil_id {σ : L2.St} {H : Hp} {Q : List V → Hp → Prop} (h : upA G Wx dNil σ H Q) : Q [] H := by
  obtain ⟨F, ι, env, cs, Q0, E0, S, R, t, hq, hE⟩ := h
  exact hq F ι cs [] [] H .refl S .nil t
/-- f(e, ..) -/
theorem e_call (Fd : FnD X.prog X.w X.K X.mg X.base G k f fd ps sp) (hgd : X.A.guards = some []) (hr : Room k X.A) (tk : Takes X Wx) (hK : X.K = G.K) (hg : Gl X x) (hm : X.mg x = some (.ref f)) (hk : PySem.W.keepIn X.K (.ref f) = true)
    (hb : BindD G fd ps n [] gW) (ha : DAs X G Wx (e :: es) t) (hdb : (x == ("__debug__" : Str)) = false := by decide) (he : starEach (e :: es) X.env = (false, eval e X.env) :: starEach es X.env := by rfl)
    (hpl : (backTo pos (starEach es X.env)).any (·.1) = false := by rfl) : DE X G Wx (.Call (.Name x p) (e :: es) [] pos) (dCall sp n 0 gW t dNil) := by
  refine ⟨fun pins s σ H Q I h => ?_⟩
  refine wpAny_Call_Name_kw (ld_glob I hg hm ?_ hdb)
  refine PySem.W.callWith_K (h₀ := X.base) I.ok.mod.kin hk (thn (ha.run pos pins s σ H _ I (call_args (ks := []) h)) fun us s1 ⟨vs, H1, I1, r, q⟩ => ⟨I1.kIn, ?_⟩) he hpl
  obtain ⟨F, ι, cs, wp, wk, Q0, E0, S, r1, r2, l1, l2, q, hQ, hE⟩ := dNil_id q
  exact run_D (zs := []) Fd hgd hr tk hK hb I1 S r1 r2 r .nil l1 l2 q hQ hE
variable {id T : String} {oN : OpN}
theorem e_callB (hc : CallR X (.builtin id) (upRN G oN)) (hg : Gl X x) (hm : X.mg x = none) (hv : bootBuiltins x = some (.builtin id)) (ha : DAs X G Wx (e :: es) t) (hn : x ≠ "__name__" := by decide) (hdb : (x == ("__debug__" : Str)) = false := by decide)
    (he : starEach (e :: es) X.env = (false, eval e X.env) :: starEach es X.env := by rfl) (hpl : (backTo pos (starEach es X.env)).any (·.1) = false := by rfl) : DE X G Wx (.Call (.Name x p) (e :: es) [] pos) (dOpN oN t) :=
  PE.imp (pe_callB hc hg hm hv ha hn hdb he hpl) fun _ _ _ => opN_up
theorem e_callTy (hc : CallR X (.type T) (upRN G oN)) (hg : Gl X x) (hm : X.mg x = none) (hv : bootBuiltins x = some (.type T)) (ha : DAs X G Wx (e :: es) t) (hn : x ≠ "__name__" := by decide) (hdb : (x == ("__debug__" : Str)) = false := by decide)
    (he : starEach (e :: es) X.env = (false, eval e X.env) :: starEach es X.env := by rfl) (hpl : (backTo pos (starEach es X.env)).any (·.1) = false := by rfl) : DE X G Wx (.Call (.Name x p) (e :: es) [] pos) (dOpN oN t) :=
  PE.imp (pe_callTy hc hg hm hv ha hn hdb he hpl) fun _ _ _ => opN_up
/-- a class as the top has made it: its number c -/
structure ClsD (X : Cx) (G : Gam) (c : Nat) (C : Addr) (nm : List Str) : Prop where
  at_ : G.cls c = some (C, nm)
  cls : Cls X.K C
  no : ∀ f ∈ nm, NoAttr X.K C f
def isObj (c : Nat) (w : W) (cs : Cs) : Prop := match w with
  | .d (.obj c' _) => c' = c
  | .c i => (match cs[i]? with
    | some (.obj c' _) => c' = c
    | some (.frz (.obj c' _)) => c' = c
    | _ => False)
  | _ => False
theorem isObj_at {F : Hp} {ι : Pl} {cs : Cs} {H : Hp} {c : Nat} {w : W} {v : V} (S : Sim G F ι cs H) (r : RepW G F ι w v) (h : isObj c w cs) : ∃ a C nm dx gs vs, v = .ref a ∧ G.cls c = some (C, nm) ∧ H a = some (.ins C dx gs) ∧ FldsAt nm gs vs := by
  have frz : ∀ {ds : List D} {v : V}, Rep G F (.obj c ds) v → ∃ a C nm dx gs vs, v = .ref a ∧ G.cls c = some (C, nm) ∧ H a = some (.ins C dx gs) ∧ FldsAt nm gs vs := fun {ds v} r => by
    simp only [Rep] at r
    obtain ⟨a, C, nm, dx, gs, vs, h1, h2, h3, h4, h5⟩ := r
    exact ⟨a, C, nm, dx, gs, _, h1, h2, S.same _ _ h3, h4⟩
  cases w with
  | dead => cases h
  | tp xs => cases h
  | d x =>
    cases x with
    | obj c' ds =>
      have h : c' = c := h
      subst h
      exact frz r
    | _ => cases h
  | c i =>
    obtain ⟨a, ha, rfl⟩ := r
    unfold isObj at h
    simp only at h
    cases e : cs[i]? with
    | none => rw [e] at h; cases h
    | some y =>
      rw [e] at h
      obtain ⟨a', e', cl⟩ := S.cell i y e
      rw [ha] at e'; cases e'
      cases y with
      | obj c' fs =>
        have h : c' = c := h
        subst h
        obtain ⟨_, C, nm, dx, gs, vs, h2, h3, h4, h5⟩ := cl
        exact ⟨a, C, nm, dx, gs, vs, rfl, h3, h2, h4⟩
      | frz x =>
        cases x with
        | obj c' ds =>
          have h : c' = c := h
          subst h
          exact frz cl.2
        | _ => cases h
      | _ => cases h
/-- o.m(..), o an object of the class c -/
def dMeth (c : Nat) (sp : DSpec) (n m : Nat) (gW : List W → List W → List W) (to : DT) (t tk : DA) : DT := fun env cs Q E => to env cs (fun w cs0 => isObj c w cs0 ∧ t env cs0 (fun ws cs1 => tk env cs1 (fun ks cs2 => ws.length = n ∧ ks.length = m ∧ sp (gW (w :: ws) ks) cs2 Q E) E) E) E
theorem meth_args {σ : L2.St} {H : Hp} {Q : VK} {c : Nat} {m : Nat} (h : upE G Wx (dMeth c sp n m gW to t tks) σ H Q) : upE G Wx to σ H fun x H0 => ∃ a C nm dx gs vs, x = .ref a ∧ G.cls c = some (C, nm) ∧ H0 a = some (.ins C dx gs) ∧ FldsAt nm gs vs ∧
    upA G Wx t σ H0 fun vp H1 => upA G Wx tks σ H1 fun vk H2 =>
    ∃ F ι cs wp wk Q0 E0, Sim G F ι cs H2 ∧ Paired (RepW G F ι) wp (x :: vp) ∧ Paired (RepW G F ι) wk vk ∧ wp.length = n + 1 ∧ wk.length = m ∧ sp (gW wp wk) cs Q0 E0 ∧
      (∀ F' ι' cs' w v H', Ext F F' ι ι' → Sim G F' ι' cs' H' → RepW G F' ι' w v → Q0 w cs' → Q v H') ∧
      ∀ F' ι' cs' x cls od H', Ext F F' ι ι' → Sim G F' ι' cs' H' → RepX G F' x cls od H' → E0 x cs' → Wx cls od σ H' := by
  obtain ⟨F, ι, env, cs, Q0, E0, S, R, t, hq, hE⟩ := h
  refine ⟨F, ι, env, cs, _, E0, S, R, t, fun F0 ι0 cs0 w v H0 e0 S0 r0 q0 => ?_, hE⟩
  obtain ⟨ho, q0⟩ := q0
  obtain ⟨a, C, nm, dx, gs, vs, h1, h2, h3, h4⟩ := isObj_at S0 r0 ho
  refine ⟨a, C, nm, dx, gs, vs, h1, h2, h3, h4, F0, ι0, env, cs0, _, E0, S0, R.mono e0, q0, fun F1 ι1 cs1 wp vp H1 e1 S1 r1 q1 => ?_, fun F1 ι1 cs1 z cls od H1 e1 => hE F1 ι1 cs1 z cls od H1 (e0.trans e1)⟩
  refine ⟨F1, ι1, env, cs1, _, E0, S1, R.mono (e0.trans e1), q1, fun F2 ι2 cs2 wk vk H2 e2 S2 r2 q2 => ?_, fun F2 ι2 cs2 z cls od H2 e2 => hE F2 ι2 cs2 z cls od H2 (e0.trans (e1.trans e2))⟩
  obtain ⟨l1, l2, q⟩ := q2
  exact ⟨F2, ι2, cs2, w :: wp, wk, Q0, E0, S2, .cons (r0.mono (e1.trans e2)) (Paired.imp' (fun _ _ q => q.mono e2) r1), r2, by simp [l1], l2, q, fun F3 ι3 cs3 w v H3 e3 => hq F3 ι3 cs3 w v H3 (e0.trans (e1.trans (e2.trans e3))), fun F3 ι3 cs3 z cls od H3 e3 => hE F3 ι3 cs3 z cls od H3 (e0.trans (e1.trans (e2.trans e3)))⟩
variable {m : Str} {c : Nat} {C : Addr} {nm : List Str}
theorem e_meth {pl : Sem Bool} (Cd : ClsD X G c C nm) (hm : Meth X.K C m f) (hnm : m ∉ nm) (Fd : FnD X.prog X.w X.K X.mg X.base G k f fd ps sp) (hgd : X.A.guards = some []) (hr : Room k X.A) (tk : Takes X Wx) (hK : X.K = G.K)
    (hb : BindD G fd ps (n + 1) [] gW) (ho : DE X G Wx o to) (ha : DAs X G Wx (e :: es) t) (he : starEach (e :: es) X.env = (false, eval e X.env) :: starEach es X.env := by rfl)
    (hpl : (backTo pos (starEach es X.env)).any (·.1) = false := by rfl)
    (ht : eval (.Call (.Attribute o m apos) (e :: es) [] pos) X.env = (do
      let ov ← eval o X.env
      standAt apos.atName
      let (f, first) ← holding [ov] (getMethod ov m pl)
      callWith pos f first (backTo pos (starEach (e :: es) X.env)) (backToKw pos (keywordEach [] X.env))) := by rfl) : DE X G Wx (.Call (.Attribute o m apos) (e :: es) [] pos) (dMeth c sp n 0 gW to t dNil) := by
  refine ⟨fun pins s σ H Q I h => ?_⟩
  refine PySem.W.methodCall_KW (pl := pl) (thn (ho.run pins s σ H _ I (meth_args h)) fun u s1 ⟨x, H1, I1, rx, a, C', nm', dx, gs, vs, ex, ec, ea, hf, q⟩ => ?_) ht
  subst ex
  obtain rfl : u = Value.ref a := rx
  rw [Cd.at_] at ec; cases ec
  refine getmeth_ok I1 ea Cd.cls hm (hf.2.2.2 m hnm) ?_
  refine PySem.W.callWith_K (first := [.ref a]) (h₀ := X.base) I.ok.mod.kin hm.kp (thn (ha.run pos pins s1 σ H1 _ I1 q) fun us s2 ⟨vp, H2, I2, r, q2⟩ => ⟨I2.kIn, ?_⟩) he hpl
  obtain ⟨F, ι, cs, wp, wk, Q0, E0, S, r1, r2, l1, l2, q, hQ, hE⟩ := dNil_id q2
  exact run_D (us := .ref a :: us) (zs := []) Fd hgd hr tk hK hb I2 S r1 r2 (.cons rfl r) .nil l1 l2 q hQ hE
theorem e_meth0 {pl : Sem Bool} (Cd : ClsD X G c C nm) (hm : Meth X.K C m f) (hnm : m ∉ nm) (Fd : FnD X.prog X.w X.K X.mg X.base G k f fd ps sp) (hgd : X.A.guards = some []) (hr : Room k X.A) (tk : Takes X Wx) (hK : X.K = G.K)
    (hb : BindD G fd ps 1 [] gW) (ho : DE X G Wx o to)
    (ht : eval (.Call (.Attribute o m apos) [] [] pos) X.env = (do
      let ov ← eval o X.env
      standAt apos.atName
      let (f, first) ← holding [ov] (getMethod ov m pl)
      callWith pos f first (backTo pos (starEach [] X.env)) (backToKw pos (keywordEach [] X.env))) := by rfl) : DE X G Wx (.Call (.Attribute o m apos) [] [] pos) (dMeth c sp 0 0 gW to dNil dNil) := by
  refine ⟨fun pins s σ H Q I h => ?_⟩
  refine PySem.W.methodCall_KW (pl := pl) (thn (ho.run pins s σ H _ I (meth_args h)) fun u s1 ⟨x, H1, I1, rx, a, C', nm', dx, gs, vs, ex, ec, ea, hf, q⟩ => ?_) ht
  subst ex
  obtain rfl : u = Value.ref a := rx
  rw [Cd.at_] at ec; cases ec
  refine getmeth_ok I1 ea Cd.cls hm (hf.2.2.2 m hnm) ?_
  obtain ⟨F, ι, cs, wp, wk, Q0, E0, S, r1, r2, l1, l2, q, hQ, hE⟩ := dNil_id (dNil_id q)
  exact PySem.W.callWith_K0 (first := [.ref a]) I1.kIn hm.kp (run_D (us := [.ref a]) (zs := []) Fd hgd hr tk hK hb I1 S r1 r2 (.cons rfl .nil) .nil l1 l2 q hQ hE)
end
end DL
namespace DL
open PySem PySem.Spec L2
def fixEnv (n : Nat) : Nv → Cs → (Nv → Cs → Prop) → Prop
  | [], cs, K => K [] cs
  | o :: r, cs, K => match o with
    | some (.c i) => if n ≤ i then fixC i cs fun x c1 => fixEnv n r c1 fun r' c2 => K (some (.d x) :: r') c2 else fixEnv n r cs fun r' c2 => K (some (.c i) :: r') c2
    | o => fixEnv n r cs fun r' c2 => K (o :: r') c2
def gcK (n : Nat) (K : Nv → Cs → Prop) : Nv → Cs → Prop := fun e c => fixEnv n e c fun e' c' => K (e'.map (Option.map (poison n))) (dropTo n c')
def gcS (t : DS) : DS := fun D env cs => t { D with nx := gcK cs.length D.nx, ct := gcK cs.length D.ct, bk := gcK cs.length D.bk } env cs
section
variable {G : Gam} {F F' H H' : Hp} {ι ι' : Pl} {cs cs' : Cs}
theorem RepEnv.cons {o : Option W} {p : Option V} {env : Nv} {σ : L2.St} (h : ∀ x, o = some x → ∃ v, p = some v ∧ RepW G F ι x v) (R : RepEnv G F ι env σ) : RepEnv G F ι (o :: env) (p :: σ) := by
  refine ⟨by simp [R.1], fun i x e => ?_⟩
  cases i with
  | zero =>
    simp at e
    obtain ⟨v, h1, h2⟩ := h x e
    exact ⟨v, by simp [h1], h2⟩
  | succ i =>
    obtain ⟨v, h1, h2⟩ := R.2 i x (by simpa using e)
    exact ⟨v, by simpa using h1, h2⟩
theorem RepEnv.un {o : Option W} {env : Nv} {σ : L2.St} (R : RepEnv G F ι (o :: env) σ) : ∃ p τ, σ = p :: τ ∧ (∀ x, o = some x → ∃ v, p = some v ∧ RepW G F ι x v) ∧ RepEnv G F ι env τ := by
  cases σ with
  | nil => have := R.1; simp at this
  | cons p τ =>
    refine ⟨p, τ, rfl, fun x e => ?_, by have := R.1; simpa using this, fun i x e => ?_⟩
    · obtain ⟨v, h1, h2⟩ := R.2 0 x (by simp [e])
      exact ⟨v, by simpa using h1, h2⟩
    · obtain ⟨v, h1, h2⟩ := R.2 (i + 1) x (by simpa using e)
      exact ⟨v, by simpa using h1, h2⟩
theorem fixEnv_ok {n : Nat} : ∀ {env : Nv} {σ : L2.St} {F : Hp} {cs : Cs} {K : Nv → Cs → Prop}, Sim G F ι cs H → RepEnv G F ι env σ → fixEnv n env cs K →
    ∃ F' cs' env', Ext F F' ι ι ∧ Sim G F' ι cs' H ∧ RepEnv G F' ι env' σ ∧ K env' cs'
  | [], σ, F, cs, K, S, R, h => ⟨F, cs, [], .refl, S, R, h⟩
  | o :: env, σ, F, cs, K, S, R, h => by
    obtain ⟨p, τ, rfl, h0, R1⟩ := R.un
    have pass : ∀ {o : Option W}, (∀ x, o = some x → ∃ v, p = some v ∧ RepW G F ι x v) → fixEnv n env cs (fun r' c2 => K (o :: r') c2) → ∃ F' cs' env', Ext F F' ι ι ∧ Sim G F' ι cs' H ∧ RepEnv G F' ι env' (p :: τ) ∧ K env' cs' := fun {o} h0 h => by
      obtain ⟨F2, cs2, env2, e2, S2, R2, q2⟩ := fixEnv_ok S R1 h
      exact ⟨F2, cs2, _, e2, S2, R2.cons fun x e => let ⟨v, a, b⟩ := h0 x e; ⟨v, a, b.mono e2⟩, q2⟩
    unfold fixEnv at h
    split at h
    · rename_i i
      split at h
      · obtain ⟨v, e, r⟩ := h0 _ rfl
        have h : fixW (.c i) cs (fun x c1 => fixEnv n env c1 fun r' c2 => K (some (.d x) :: r') c2) := h
        obtain ⟨F1, cs1, x, e1, S1, r1, h1⟩ := fixW_ok (w := .c i) S r h
        obtain ⟨F2, cs2, env2, e2, S2, R2, q2⟩ := fixEnv_ok S1 (R1.mono e1) h1
        exact ⟨F2, cs2, _, e1.trans e2, S2, R2.cons fun y ey => ⟨v, e, by cases ey; exact Rep.mono e2.same _ _ r1⟩, q2⟩
      · exact pass h0 h
    · exact pass h0 h
theorem poison_env {n : Nat} {env : Nv} {σ : L2.St} (R : RepEnv G F ι env σ) : RepEnv G F (ι.cut n) (env.map (Option.map (poison n))) σ := by
  refine ⟨by simp [R.1], fun i x e => ?_⟩
  rw [List.getElem?_map] at e
  cases q : env[i]? with
  | none => rw [q] at e; cases e
  | some o =>
    rw [q] at e
    cases o with
    | none => cases e
    | some w =>
      simp at e
      subst e
      obtain ⟨v, h1, h2⟩ := R.2 i w q
      exact ⟨v, h1, poison_rep h2⟩
theorem gcK_ok {n : Nat} {K : Nv → Cs → Prop} {env : Nv} {σ : L2.St} (S : Sim G F' ι' cs' H') (e : Ext F F' ι ι') (R : RepEnv G F' ι' env σ) (hn : n = ι.l.length) (h : gcK n K env cs') :
    ∃ F'' env'' cs'', Ext F F'' ι ι ∧ Sim G F'' ι cs'' H' ∧ RepEnv G F'' ι env'' σ ∧ K env'' cs'' := by
  subst hn
  obtain ⟨F2, cs2, env2, e2, S2, R2, q2⟩ := fixEnv_ok S R h
  have E := e.trans e2
  have P := poison_env (n := ι.l.length) R2
  obtain ⟨r, e1⟩ := e.pre
  have ec : ι'.cut ι.l.length = ι := by
    unfold Pl.cut
    rw [← e1, List.take_left, e.eR]
  rw [ec] at P
  exact ⟨F2, _, _, ⟨E.same, List.prefix_refl _, rfl⟩, S2.back E, P, q2⟩
end
section
variable {X : Cx} {G : Gam} {Wx : WX} {body : List Stmt} {t : DS}
theorem ss_gc (h : DSs X G Wx body t) : DSs X G Wx body (gcS t) := PSs.imp h fun D σ H hh => by
  obtain ⟨F, ι, env, cs, D0, S, R, t, h1, h2, h3, h4, h5⟩ := hh
  refine ⟨F, ι, env, cs, _, S, R, t, ?_, h2, ?_, ?_, h5⟩
  · intro F' ι' cs' env' σ' H' e S' R' q
    obtain ⟨F2, env2, cs2, e2, S2, R2, q2⟩ := gcK_ok S' e R' S.len.symm q
    exact h1 F2 ι cs2 env2 σ' H' e2 S2 R2 q2
  · intro F' ι' cs' env' σ' H' e S' R' q
    obtain ⟨F2, env2, cs2, e2, S2, R2, q2⟩ := gcK_ok S' e R' S.len.symm q
    exact h3 F2 ι cs2 env2 σ' H' e2 S2 R2 q2
  · intro F' ι' cs' env' σ' H' e S' R' q
    obtain ⟨F2, env2, cs2, e2, S2, R2, q2⟩ := gcK_ok S' e R' S.len.symm q
    exact h4 F2 ι cs2 env2 σ' H' e2 S2 R2 q2
end
def namesOf : List W → List Nat → List Nat
  | [], js => js
  | .c i :: r, js => namesOf r (if i ∈ js then js else js ++ [i])
  | _ :: r, js => namesOf r js
/-- the cells that an object's fields name -/
def refsC : Cell → List W
  | .obj _ fs => fs.filterMap id
  | _ => []
def toLoc (js : List Nat) : W → W
  | .c i => .c (js.idxOf i)
  | w => w
def toLocC (js : List Nat) : Cell → Cell
  | .obj c fs => .obj c (fs.map (Option.map (toLoc js)))
  | x => x
def unLoc (js : List Nat) (n : Nat) : W → W
  | .c k => .c (if k < js.length then js.getD k 0 else n + (k - js.length))
  | w => w
def unLocC (js : List Nat) (n : Nat) : Cell → Cell
  | .obj c fs => .obj c (fs.map (Option.map (unLoc js n)))
  | x => x
def putC : List Nat → Cs → Cs → Cs
  | [], cs, new => cs ++ new
  | j :: js, cs, x :: r => putC js (cs.set j x) r
  | _ :: _, cs, [] => cs
/-- w names a cell of js, if any -/
def inJ (js : List Nat) : W → Bool
  | .c i => decide (i ∈ js)
  | _ => true
def getCs (cs : Cs) : List Nat → Option Cs
  | [] => some []
  | j :: js => match cs[j]?, getCs cs js with
    | some x, some r => some (x :: r)
    | _, _ => none
def locJ (ws : List W) (cs : Cs) : List Nat := namesOf ((namesOf ws []).flatMap fun j => match cs[j]? with
  | some x => refsC x
  | none => []) (namesOf ws [])
def locAt (js : List Nat) (sp : DSpec) : DSpec := fun ws cs Q E => (∀ w ∈ ws, inJ js w = true) ∧ js.Nodup ∧ match getCs cs js with
  | some lcs => (∀ x ∈ lcs, ∀ w ∈ refsC x, inJ js w = true) ∧ sp (ws.map (toLoc js)) (lcs.map (toLocC js)) (fun w cs1 => Q (unLoc js cs.length w) (putC js cs (cs1.map (unLocC js cs.length)))) (fun x cs1 => E x (putC js cs (cs1.map (unLocC js cs.length))))
  | none => False
def loc (sp : DSpec) : DSpec := fun ws cs Q E => locAt (locJ ws cs) sp ws cs Q E
theorem getCs_get {cs : Cs} : ∀ {js : List Nat} {l : Cs}, getCs cs js = some l → l.length = js.length ∧ ∀ (k : Nat) j, js[k]? = some j → l[k]? = cs[j]? ∧ j < cs.length
  | [], l, h => by cases h; exact ⟨rfl, fun k j e => by simp at e⟩
  | j :: js, l, h => by
    unfold getCs at h
    split at h
    · rename_i x r h1 h2
      cases h
      obtain ⟨a, b⟩ := getCs_get h2
      refine ⟨by simp [a], fun k i e => ?_⟩
      cases k with
      | zero => simp at e; subst e; exact ⟨by simp [h1], (List.getElem?_eq_some_iff.mp h1).1⟩
      | succ k => simpa using b k i (by simpa using e)
    · cases h
theorem putC_length : ∀ (js : List Nat) (cs new : Cs), js.length ≤ new.length → (putC js cs new).length = cs.length + (new.length - js.length)
  | [], cs, new, _ => by simp [putC]
  | j :: js, cs, x :: r, h => by
    simp only [putC]
    rw [putC_length js _ r (by simpa using h)]
    simp
  | j :: js, cs, [], h => by simp at h
theorem putC_out : ∀ (js : List Nat) (cs new : Cs) (i : Nat), i < cs.length → i ∉ js → (putC js cs new)[i]? = cs[i]?
  | [], cs, new, i, h, _ => by simp only [putC]; rw [List.getElem?_append_left h]
  | j :: js, cs, x :: r, i, h, hi => by
    simp only [putC]
    rw [putC_out js _ r i (by simpa using h) (fun z => hi (List.mem_cons_of_mem _ z)), List.getElem?_set_ne (fun z => hi (by simp [z]))]
  | j :: js, cs, [], i, h, _ => rfl
theorem putC_in : ∀ (js : List Nat) (cs new : Cs), js.Nodup → js.length ≤ new.length → (∀ j ∈ js, j < cs.length) → ∀ (k : Nat) j, js[k]? = some j → (putC js cs new)[j]? = new[k]?
  | [], cs, new, _, _, _, k, j, e => by simp at e
  | i :: js, cs, x :: r, hn, hl, hb, k, j, e => by
    have hn' := List.nodup_cons.mp hn
    simp only [putC]
    cases k with
    | zero =>
      simp at e; subst e
      rw [putC_out js _ r i (by simpa using hb i List.mem_cons_self) hn'.1, List.getElem?_set_self (hb i List.mem_cons_self)]
      rfl
    | succ k =>
      rw [putC_in js _ r hn'.2 (by simpa using hl) (fun j hj => by simpa using hb j (List.mem_cons_of_mem _ hj)) k j (by simpa using e)]
      simp
  | i :: js, cs, [], _, hl, _, k, j, e => by simp at hl
theorem putC_new : ∀ (js : List Nat) (cs new : Cs), js.length ≤ new.length → ∀ m : Nat, (putC js cs new)[cs.length + m]? = new[js.length + m]?
  | [], cs, new, _, m => by simp only [putC]; rw [List.getElem?_append_right (by omega)]; simp
  | j :: js, cs, x :: r, h, m => by
    simp only [putC]
    have := putC_new js (cs.set j x) r (by simpa using h) m
    rw [List.length_set] at this
    rw [this, List.length_cons, show js.length + 1 + m = (js.length + m) + 1 by omega, List.getElem?_cons_succ]
  | j :: js, cs, [], h, m => by simp at h
theorem get_idxOf {js : List Nat} {j : Nat} (h : j ∈ js) : js[js.idxOf j]? = some j := by
  have h1 := List.idxOf_lt_length_of_mem h
  rw [List.getElem?_eq_getElem h1, List.getElem_idxOf h1]
section
variable {P : Program} {w : World} {K : PySem.W.Frag} {mg : Str → Option Value} {base : Heap} {G : Gam} {k : Nat} {f : Addr} {fd : FuncData} {ps : List Str} {sp : DSpec}
/-- the chosen addresses -/
def selA (l : List Addr) (js : List Nat) : List Addr := js.map fun j => l.getD j 0
theorem selA_get {l : List Addr} {js : List Nat} {k j : Nat} (hj : j < l.length) (e : js[k]? = some j) : (selA l js)[k]? = l[j]? := by
  unfold selA
  rw [List.getElem?_map, e, List.getElem?_eq_getElem hj]
  simp [hj]
theorem toLoc_rep {F : Hp} {ι : Pl} {R : Hp} {js : List Nat} (hb : ∀ j ∈ js, j < ι.l.length) {x : W} {v : V} (h : inJ js x = true) (r : RepW G F ι x v) : RepW G F ⟨selA ι.l js, R⟩ (toLoc js x) v := by
  cases x with
  | c i =>
    obtain ⟨a, h1, h2⟩ := r
    have hi : i ∈ js := of_decide_eq_true h
    exact ⟨a, by show (selA ι.l js)[js.idxOf i]? = _; rw [selA_get (hb i hi) (get_idxOf hi)]; exact h1, h2⟩
  | _ => exact r
theorem toLoc_reps {F : Hp} {ι : Pl} {R : Hp} {js : List Nat} (hb : ∀ j ∈ js, j < ι.l.length) : ∀ {ws : List W} {vs : List V}, (∀ w ∈ ws, inJ js w = true) → Paired (RepW G F ι) ws vs → Paired (RepW G F ⟨selA ι.l js, R⟩) (ws.map (toLoc js)) vs
  | _, _, _, .nil => .nil
  | _, _, h, .cons r t => .cons (toLoc_rep hb (h _ List.mem_cons_self) r) (toLoc_reps hb (fun w hw => h w (List.mem_cons_of_mem _ hw)) t)
theorem toLoc_fs {F : Hp} {ι : Pl} {R : Hp} {js : List Nat} (hb : ∀ j ∈ js, j < ι.l.length) : ∀ {fs : List (Option W)} {vs : List (Option V)}, (∀ w ∈ fs.filterMap id, inJ js w = true) → Paired (RepWO G F ι) fs vs → Paired (RepWO G F ⟨selA ι.l js, R⟩) (fs.map (Option.map (toLoc js))) vs
  | _, _, _, .nil => .nil
  | o :: fs, p :: vs, h, .cons r t => by
    refine .cons ?_ (toLoc_fs hb (fun w hw => h w ?_) t)
    · cases o with
      | none => cases p <;> exact r
      | some x =>
        cases p with
        | none => exact r
        | some v => exact toLoc_rep hb (h x (by simp)) r
    · cases o <;> simp at hw ⊢ <;> first | exact hw | exact .inr hw
theorem unLoc_rep {F' : Hp} {ι ι' : Pl} {R : Hp} {js : List Nat} {n : Nat} (hn : n = ι.l.length) (hb : ∀ j ∈ js, j < ι.l.length) (hp : selA ι.l js <+: ι'.l) {x : W} {v : V} (r : RepW G F' ι' x v) : RepW G F' ⟨ι.l ++ ι'.l.drop js.length, R⟩ (unLoc js n x) v := by
  subst hn
  cases x with
  | c k =>
    obtain ⟨a, h1, h2⟩ := r
    refine ⟨a, ?_, h2⟩
    show (ι.l ++ ι'.l.drop js.length)[if k < js.length then js.getD k 0 else ι.l.length + (k - js.length)]? = _
    by_cases hk : k < js.length
    · have e : js[k]? = some js[k] := List.getElem?_eq_getElem hk
      have hj : js[k] < ι.l.length := hb _ (List.getElem_mem hk)
      rw [if_pos hk]
      have : js.getD k 0 = js[k] := by simp [hk]
      rw [this, List.getElem?_append_left hj, ← selA_get hj e]
      obtain ⟨r, e1⟩ := hp
      rw [← e1, List.getElem?_append_left (by simp [selA, hk])] at h1
      exact h1
    · rw [if_neg hk, List.getElem?_append_right (by omega), List.getElem?_drop, show js.length + (ι.l.length + (k - js.length) - ι.l.length) = k by omega]
      exact h1
  | _ => exact r
theorem CellAt.unLoc {F' H' : Hp} {ι ι' : Pl} {R : Hp} {js : List Nat} {n : Nat} (hn : n = ι.l.length) (hb : ∀ j ∈ js, j < ι.l.length) (hp : selA ι.l js <+: ι'.l) {a : Addr} {x : Cell} (h : CellAt G F' ι' H' a x) : CellAt G F' ⟨ι.l ++ ι'.l.drop js.length, R⟩ H' a (unLocC js n x) := by
  cases x with
  | obj c fs =>
    obtain ⟨h1, C, nm, dx, gs, vs, h2, h3, h4, h5⟩ := h
    refine ⟨h1, C, nm, dx, gs, vs, h2, h3, h4, Paired.map_left (fun o p q => ?_) h5⟩
    cases o <;> cases p <;> first | exact unLoc_rep hn hb hp q | exact q
  | _ => exact h
theorem FnD.locAt_ (Fd : FnD P w K mg base G k f fd ps sp) {sp' : DSpec} (hs : ∀ ws cs Q E, sp' ws cs Q E → ∃ js, locAt js sp ws cs Q E) : FnD P w K mg base G k f fd ps sp' := by
  refine ⟨fun ws cs Q E h => ?_, fun A outer s H args us vs F ι cs ws Q0 E0 Q E hgd hr e0 hbd r S0 rw0 hsp hQ hE => ?_⟩
  · obtain ⟨js, _, _, h⟩ := hs ws cs Q E h
    split at h
    · rename_i lcs _
      have := Fd.len _ _ _ _ h.2
      simpa using this
    · cases h
  obtain ⟨js, hin, hnd, h⟩ := hs _ _ _ _ hsp
  split at h
  case h_2 => cases h
  rename_i lcs hg
  obtain ⟨hl, hg⟩ := getCs_get hg
  obtain ⟨hrf, h⟩ := h
  have nl : cs.length = ι.l.length := S0.len.symm
  have hb : ∀ j ∈ js, j < ι.l.length := fun j hj => by
    rw [← nl]; exact (hg _ _ (get_idxOf hj)).2
  let R₁ : Hp := fun a => open Classical in if a ∈ ι.l ∧ a ∉ selA ι.l js ∧ F a = none then H a else ι.R a
  have sub : ∀ {a}, a ∈ selA ι.l js → a ∈ ι.l := fun {a} ha => by
    unfold selA at ha
    obtain ⟨j, hj, rfl⟩ := List.mem_map.mp ha
    have := hb j hj
    simp [this]
  have R_old : ∀ {a}, ι.R a ≠ none → R₁ a = ι.R a := fun {a} ha => if_neg fun z => (S0.ap a ha).2 z.1
  have R_in : ∀ {a}, a ∈ ι.l → a ∉ selA ι.l js → F a = none → R₁ a = H a := fun {a} h1 h2 h3 => if_pos ⟨h1, h2, h3⟩
  have live : ∀ {a}, a ∈ ι.l → ∃ u, H a = some u := fun {a} ha => by
    obtain ⟨i, hi⟩ := List.mem_iff_getElem?.mp ha
    exact S0.live hi
  have S1 : Sim G F ⟨selA ι.l js, R₁⟩ (lcs.map (toLocC js)) H := by
    refine ⟨S0.same, by simp [selA, hl], fun i j a h1 h2 h3 => ?_, fun i x q => ?_, fun a u q => ?_, fun a q => ?_⟩
    · have bi : i < js.length := by have := (List.getElem?_eq_some_iff.mp h1).1; simpa [selA] using this
      have bj : j < js.length := by have := (List.getElem?_eq_some_iff.mp h2).1; simpa [selA] using this
      have ei := List.getElem?_eq_getElem bi
      have ej := List.getElem?_eq_getElem bj
      have h1 : (selA ι.l js)[i]? = some a := h1
      have h2 : (selA ι.l js)[j]? = some a := h2
      rw [selA_get (hb _ (List.getElem_mem bi)) ei] at h1
      rw [selA_get (hb _ (List.getElem_mem bj)) ej] at h2
      exact (List.getElem_inj hnd).mp (S0.nd _ _ a h1 h2 h3)
    · rw [List.getElem?_map] at q
      cases e : lcs[i]? with
      | none => rw [e] at q; cases q
      | some y =>
        rw [e] at q; cases q
        have bi : i < js.length := by rw [← hl]; exact (List.getElem?_eq_some_iff.mp e).1
        have ei := List.getElem?_eq_getElem bi
        have e2 := (hg i _ ei).1
        rw [e] at e2
        obtain ⟨a, h1, h2⟩ := S0.cell _ _ e2.symm
        refine ⟨a, by show (selA ι.l js)[i]? = _; rw [selA_get (hb _ (List.getElem_mem bi)) ei]; exact h1, ?_⟩
        cases y with
        | obj c fs =>
          obtain ⟨h3, C, nm, dx, gs, vs, h4, h5, h6, h7⟩ := h2
          exact ⟨h3, C, nm, dx, gs, vs, h4, h5, h6, toLoc_fs hb (hrf _ (List.mem_of_getElem? e)) h7⟩
        | _ => exact h2
    · by_cases c : a ∈ ι.l ∧ a ∉ selA ι.l js ∧ F a = none
      · have q : R₁ a = some u := q
        rw [R_in c.1 c.2.1 c.2.2] at q
        exact q
      · have q : R₁ a = some u := q
        have : R₁ a = ι.R a := if_neg c
        rw [this] at q
        exact S0.fr a u q
    · by_cases c : a ∈ ι.l ∧ a ∉ selA ι.l js ∧ F a = none
      · exact ⟨c.2.2, c.2.1⟩
      · have q : R₁ a ≠ none := q
        have : R₁ a = ι.R a := if_neg c
        rw [this] at q
        exact ⟨(S0.ap a q).1, fun z => (S0.ap a q).2 (sub z)⟩
  -- back to all cells
  have back : ∀ {F' ι' cs' H'}, Ext F F' ⟨selA ι.l js, R₁⟩ ι' → Sim G F' ι' cs' H' → Ext F F' ι ⟨ι.l ++ ι'.l.drop js.length, ι.R⟩ ∧ Sim G F' ⟨ι.l ++ ι'.l.drop js.length, ι.R⟩ (putC js cs (cs'.map (unLocC js cs.length))) H' := fun {F' ι' cs' H'} e S' => by
    have hp : selA ι.l js <+: ι'.l := e.pre
    have eR : ι'.R = R₁ := e.eR
    have ls : (selA ι.l js).length = js.length := by simp [selA]
    have lj : js.length ≤ cs'.length := by rw [← S'.len, ← ls]; exact hp.length_le
    have lj' : js.length ≤ (cs'.map (unLocC js cs.length)).length := by simpa using lj
    have old : ∀ {k j : Nat}, js[k]? = some j → ι'.l[k]? = ι.l[j]? := fun {k j} ek => by
      have bk := (List.getElem?_eq_some_iff.mp ek).1
      obtain ⟨r, e1⟩ := hp
      rw [← e1, List.getElem?_append_left (by rw [ls]; exact bk), selA_get (hb _ (List.mem_of_getElem? ek)) ek]
    have apart : ∀ {a}, a ∈ ι.l → a ∉ selA ι.l js → F a = none → F' a = none ∧ a ∉ ι'.l ∧ H' a = H a := fun {a} h1 h2 h3 => by
      obtain ⟨u, hu⟩ := live h1
      have q : ι'.R a = some u := by rw [eR, R_in h1 h2 h3]; exact hu
      have := S'.ap a (by rw [q]; simp)
      exact ⟨this.1, this.2, by rw [S'.fr a u q, hu]⟩
    refine ⟨⟨e.same, List.prefix_append _ _, rfl⟩, S'.same, ?_, ?_, ?_, fun a u q => ?_, fun a q => ?_⟩
    · rw [putC_length _ _ _ lj', List.length_append, List.length_drop, List.length_map, S'.len, ← nl]
    · -- no address twice
      have mix : ∀ {i m : Nat} {a : Addr}, ι.l[i]? = some a → ι'.l[js.length + m]? = some a → F' a = none → False := fun {i m a} h1 h2 h3 => by
        have h3' : F a = none := e.same.free h3
        by_cases c : a ∈ selA ι.l js
        · obtain ⟨k, hk⟩ := List.mem_iff_getElem?.mp c
          have bk : k < js.length := by rw [← ls]; exact (List.getElem?_eq_some_iff.mp hk).1
          obtain ⟨r, e1⟩ := hp
          have h4 : ι'.l[k]? = some a := by rw [← e1, List.getElem?_append_left (by rw [ls]; exact bk)]; exact hk
          have := S'.nd k _ a h4 h2 h3
          omega
        · exact (apart (List.mem_of_getElem? h1) c h3').2.1 (List.mem_of_getElem? h2)
      intro i j a h1 h2 h3
      have h1 : (ι.l ++ ι'.l.drop js.length)[i]? = some a := h1
      have h2 : (ι.l ++ ι'.l.drop js.length)[j]? = some a := h2
      by_cases hi : i < ι.l.length
      · rw [List.getElem?_append_left hi] at h1
        by_cases hj : j < ι.l.length
        · rw [List.getElem?_append_left hj] at h2
          exact S0.nd i j a h1 h2 (e.same.free h3)
        · rw [List.getElem?_append_right (by omega), List.getElem?_drop] at h2
          exact (mix h1 h2 h3).elim
      · rw [List.getElem?_append_right (by omega), List.getElem?_drop] at h1
        by_cases hj : j < ι.l.length
        · rw [List.getElem?_append_left hj] at h2
          exact (mix h2 h1 h3).elim
        · rw [List.getElem?_append_right (by omega), List.getElem?_drop] at h2
          have := S'.nd _ _ a h1 h2 h3
          omega
    · intro i x q
      have at_ : ∀ {m : Nat}, (cs'.map (unLocC js cs.length))[m]? = some x → ∃ a, ι'.l[m]? = some a ∧ CellAt G F' ⟨ι.l ++ ι'.l.drop js.length, ι.R⟩ H' a x := fun {m} qm => by
        rw [List.getElem?_map] at qm
        cases em : cs'[m]? with
        | none => rw [em] at qm; cases qm
        | some y =>
          rw [em] at qm; cases qm
          obtain ⟨a, h1, h2⟩ := S'.cell m y em
          exact ⟨a, h1, h2.unLoc nl hb hp⟩
      by_cases hi : i < cs.length
      · by_cases hj : i ∈ js
        · have ek := get_idxOf hj
          rw [putC_in _ _ _ hnd lj' (fun j hj => by rw [nl]; exact hb j hj) _ _ ek] at q
          obtain ⟨a, h1, h2⟩ := at_ q
          rw [old ek] at h1
          exact ⟨a, by show (ι.l ++ _)[i]? = _; rw [List.getElem?_append_left (by rw [← nl]; exact hi)]; exact h1, h2⟩
        · rw [putC_out _ _ _ _ hi hj] at q
          obtain ⟨a, h1, h2⟩ := S0.cell i x q
          refine ⟨a, by show (ι.l ++ _)[i]? = _; rw [List.getElem?_append_left (by rw [← nl]; exact hi)]; exact h1, ?_⟩
          have E : Ext F F' ι ⟨ι.l ++ ι'.l.drop js.length, ι.R⟩ := ⟨e.same, List.prefix_append _ _, rfl⟩
          have notsel : F a = none → a ∉ selA ι.l js := fun h3 c => by
            obtain ⟨k, hk⟩ := List.mem_iff_getElem?.mp c
            have bk : k < js.length := by rw [← ls]; exact (List.getElem?_eq_some_iff.mp hk).1
            rw [selA_get (hb _ (List.getElem_mem bk)) (List.getElem?_eq_getElem bk)] at hk
            exact hj (by rw [S0.nd _ _ a h1 hk h3]; exact List.getElem_mem bk)
          have ap' : F a = none → F' a = none ∧ H' a = H a := fun h3 => let ⟨p, _, q⟩ := apart (List.mem_of_getElem? h1) (notsel h3) h3; ⟨p, q⟩
          cases x with
          | frz y => exact ⟨fun z => h2.1 (e.same.free z), Rep.mono e.same _ _ h2.2⟩
          | lst xs =>
            obtain ⟨h3, vs, h4, h5⟩ := h2
            obtain ⟨p1, p2⟩ := ap' h3
            exact ⟨p1, vs, by rw [p2]; exact h4, Reps.mono e.same _ _ h5⟩
          | dct kvs o =>
            obtain ⟨h3, h0, ks, ps, h4, h5, h6⟩ := h2
            obtain ⟨p1, p2⟩ := ap' h3
            exact ⟨p1, h0, ks, ps, by rw [p2]; exact h4, h5, RepKV.mono e.same _ _ _ h6⟩
          | obj c fs =>
            obtain ⟨h3, C, nm, dx, gs, vs, h4, h5, h6, h7⟩ := h2
            obtain ⟨p1, p2⟩ := ap' h3
            exact ⟨p1, C, nm, dx, gs, vs, by rw [p2]; exact h4, h5, h6, Paired.imp' (fun _ _ z => z.mono E) h7⟩
      · obtain ⟨m, rfl⟩ : ∃ m, i = cs.length + m := ⟨i - cs.length, by omega⟩
        rw [putC_new _ _ _ lj'] at q
        obtain ⟨a, h1, h2⟩ := at_ q
        refine ⟨a, ?_, h2⟩
        show (ι.l ++ ι'.l.drop js.length)[cs.length + m]? = _
        rw [nl, List.getElem?_append_right (by omega), List.getElem?_drop, Nat.add_sub_cancel_left]
        exact h1
    · have q : ι.R a = some u := q
      exact S'.fr a u (by rw [eR, R_old (by rw [q]; simp)]; exact q)
    · have q : ι.R a ≠ none := q
      have h1 := S'.ap a (by rw [eR, R_old q]; exact q)
      refine ⟨h1.1, fun z => ?_⟩
      rcases List.mem_append.mp z with z | z
      · exact (S0.ap a q).2 z
      · exact h1.2 (List.mem_of_mem_drop z)
  refine Fd.run A outer s H args us vs F ⟨selA ι.l js, R₁⟩ (lcs.map (toLocC js)) (ws.map (toLoc js)) _ _ Q E hgd hr e0 hbd r S1 (toLoc_reps hb hin rw0) h (fun F' ι' cs' x v H' e S' rx q => ?_) fun F' ι' cs' x cls od H' e S' rx q => ?_
  · obtain ⟨E', S2⟩ := back e S'
    exact hQ F' _ _ _ v H' E' S2 (unLoc_rep nl hb e.pre rx) q
  · obtain ⟨E', S2⟩ := back e S'
    exact hE F' _ _ x cls od H' E' S2 rx q
theorem FnD.loc (Fd : FnD P w K mg base G k f fd ps sp) : FnD P w K mg base G k f fd ps (loc sp) := Fd.locAt_ fun ws cs Q E h => ⟨_, h⟩
end
end DL
namespace DL
open PySem PySem.Spec L2
theorem OpR.imp {X : Cx} {f : Value → Value → Sem Value} {r r' : R2} (h : OpR X f r) (i : ∀ x y H Q, r' x y H Q → r x y H Q) : OpR X f r' := fun pins s σ H x y v u Q I rx ry q => h pins s σ H x y v u Q I rx ry (i _ _ _ _ q)
theorem CallR.imp {X : Cx} {f : Value} {r r' : List V → Hp → VK → Prop} (h : CallR X f r) (i : ∀ xs H Q, r' xs H Q → r xs H Q) : CallR X f r' := fun pins s σ H xs us Q I rx q => h pins s σ H xs us Q I rx (i _ _ _ q)
theorem UnR.imp {X : Cx} {f : Value → Sem Value} {r r' : V → Hp → VK → Prop} (h : UnR X f r) (i : ∀ x H Q, r' x H Q → r x H Q) : UnR X f r' := fun pins s σ H x v Q I rx q => h pins s σ H x v Q I rx (i _ _ _ q)
theorem IxR.imp {X : Cx} {r r' : R2} (h : IxR X r) (i : ∀ x y H Q, r' x y H Q → r x y H Q) : IxR X r' := fun va sl pins s σ H x y v u Q I rx ry q => h va sl pins s σ H x y v u Q I rx ry (i _ _ _ _ q)
section
variable {G : Gam} {F H : Hp} {ι : Pl} {cs : Cs} {w : W} {v : V}
theorem look_simple (S : Sim G F ι cs H) (r : RepW G F ι w v) {x : D} (h : look w cs = some x) (hx : leafD x = true) : Rep G F x v := (look_top S r h).simple hx
theorem look_int (S : Sim G F ι cs H) (r : RepW G F ι w v) {i : Int} (h : look w cs = some (.int i)) : v = .int i := by
  have := look_simple S r h rfl
  simpa only [Rep] using this
theorem look_str (S : Sim G F ι cs H) (r : RepW G F ι w v) {i : Str} (h : look w cs = some (.str i)) : v = .str i ∧ PyData.strOk i = true := by
  have := look_simple S r h rfl
  simpa only [Rep] using this
theorem look_lst (S : Sim G F ι cs H) (r : RepW G F ι w v) {xs : List D} (h : look w cs = some (.lst xs)) : ∃ a vs, v = .ref a ∧ H a = some (.lst vs) ∧ Reps G F xs vs := look_top S r h
theorem look_tup' (S : Sim G F ι cs H) (r : RepW G F ι w v) {xs : List D} (h : look w cs = some (.tup xs)) : ∃ a vs, v = .ref a ∧ SqT G.K H a vs ∧ SqT G.K F a vs ∧ Reps G F xs vs := by
  obtain ⟨a, vs, e, h1, h2⟩ := look_tup S r h
  exact ⟨a, vs, e, SqT.mono S.same h1, h1, h2⟩
theorem rep_int {i : Int} : RepW G F ι (.d (.int i)) (.int i) := by simp only [RepW, Rep]
theorem rep_bl {i : Bool} : RepW G F ι (.d (.bl i)) (.bl i) := by simp only [RepW, Rep]
theorem rep_str {x : Str} (h : PyData.strOk x = true) : RepW G F ι (.d (.str x)) (.str x) := by simp only [RepW, Rep]; exact ⟨True.intro, h⟩
theorem pair1 {α β : Type} {P : α → β → Prop} {a : α} {m : List β} (h : Paired P [a] m) : ∃ b, m = [b] ∧ P a b := by
  cases h with
  | cons r t => cases t; exact ⟨_, rfl, r⟩
theorem pair2 {α β : Type} {P : α → β → Prop} {a a' : α} {m : List β} (h : Paired P [a, a'] m) : ∃ b b', m = [b, b'] ∧ P a b ∧ P a' b' := by
  cases h with
  | cons r t =>
    obtain ⟨b, e, q⟩ := pair1 t
    subst e
    exact ⟨_, _, rfl, r, q⟩
end
theorem strOk_append {x y : Str} (h : PyData.strOk x = true) (k : PyData.strOk y = true) : PyData.strOk (x ++ y) = true := by
  unfold PyData.strOk at *
  show (x.cps ++ y.cps).all _ = true
  rw [Array.all_append, h, k]
  rfl
theorem strOk_iff {x : Str} : PyData.strOk x = true ↔ ∀ c ∈ x.cps.toList, c < 0x110000 := by
  unfold PyData.strOk
  rw [← Array.all_toList, List.all_eq_true]
  exact ⟨fun h c hc => of_decide_eq_true (h c hc), fun h c hc => decide_eq_true (h c hc)⟩
/-- an operation of two ints -/
def oI (C : Int → Int → Prop) (g : Int → Int → D) : Op2 := fun a b cs Q => match look a cs, look b cs with
  | some (.int i), some (.int j) => C i j ∧ Q (.d (g i j)) cs
  | _, _ => False
section
variable {X : Cx} {G : Gam}
theorem oI_ok {f : Value → Value → Sem Value} {C : Int → Int → Prop} {g : Int → Int → Int} (h : OpR X f (rI C fun i j => .int (g i j))) : OpR X f (upR G (oI C fun i j => .int (g i j))) := OpR.imp h fun x y H Q q => by
  obtain ⟨F, ι, cs, wx, wy, Q0, S, r1, r2, o, hq⟩ := q
  unfold oI at o
  split at o
  · rename_i i j l1 l2
    have e1 := look_int S r1 l1
    have e2 := look_int S r2 l2
    exact ⟨i, j, e1, e2, o.1, hq _ _ _ _ _ _ .refl S rep_int o.2⟩
  · cases o
theorem oI0_ok {f : Value → Value → Sem Value} {g : Int → Int → Int} (h : OpR X f (rI0 fun i j => .int (g i j))) : OpR X f (upR G (oI (fun _ _ => True) fun i j => .int (g i j))) := OpR.imp h fun x y H Q q => by
  obtain ⟨F, ι, cs, wx, wy, Q0, S, r1, r2, o, hq⟩ := q
  unfold oI at o
  split at o
  · rename_i i j l1 l2
    have e1 := look_int S r1 l1
    have e2 := look_int S r2 l2
    exact ⟨i, j, e1, e2, hq _ _ _ _ _ _ .refl S rep_int o.2⟩
  · cases o
theorem oB0_ok {f : Value → Value → Sem Value} {g : Int → Int → Bool} (h : OpR X f (rI0 fun i j => .bl (g i j))) : OpR X f (upR G (oI (fun _ _ => True) fun i j => .bl (g i j))) := OpR.imp h fun x y H Q q => by
  obtain ⟨F, ι, cs, wx, wy, Q0, S, r1, r2, o, hq⟩ := q
  unfold oI at o
  split at o
  · rename_i i j l1 l2
    have e1 := look_int S r1 l1
    have e2 := look_int S r2 l2
    exact ⟨i, j, e1, e2, hq _ _ _ _ _ _ .refl S rep_bl o.2⟩
  · cases o
abbrev CTrue : Int → Int → Prop := fun _ _ => True
abbrev oSub : Op2 := oI CTrue fun i j => .int (i - j)
abbrev oFDiv : Op2 := oI CDivW fun i j => .int (i / j)
abbrev oMod : Op2 := oI (fun _ j => 0 < j) fun i j => .int (i % j)
abbrev oPow : Op2 := oI CPow fun i j => .int (i ^ j.toNat)
abbrev oLt : Op2 := oI CTrue fun i j => .bl (decide (i < j))
abbrev oLe : Op2 := oI CTrue fun i j => .bl (decide (i ≤ j))
abbrev oGt : Op2 := oI CTrue fun i j => .bl (decide (j < i))
theorem o_sub : OpR X (binaryOp .Sub) (upR G oSub) := oI0_ok op_sub
theorem o_fdiv : OpR X (binaryOp .FloorDiv) (upR G oFDiv) := oI_ok op_fdivW
theorem o_mod : OpR X (binaryOp .Mod) (upR G oMod) := oI_ok op_mod
theorem o_pow : OpR X (binaryOp .Pow) (upR G oPow) := oI_ok op_pow
theorem o_lt : OpR X (compareOp .Lt) (upR G oLt) := oB0_ok op_lt
theorem o_le : OpR X (compareOp .LtE) (upR G oLe) := oB0_ok op_le
theorem o_gt : OpR X (compareOp .Gt) (upR G oGt) := oB0_ok op_gt
def oNeg : Op1 := fun a cs Q => match look a cs with
  | some (.int i) => Q (.d (.int (-i))) cs
  | _ => False
def oAdd : Op2 := fun a b cs Q => match look a cs, look b cs with
  | some (.int i), some (.int j) => Q (.d (.int (i + j))) cs
  | some (.str x), some (.str y) => x.length + y.length ≤ sizeLine ∧ Q (.d (.str (x ++ y))) cs
  | some (.tup xs), some (.tup ys) => xs.length + ys.length ≤ sizeLine ∧ Q (.d (.tup (xs ++ ys))) cs
  | some (.lst xs), some (.lst ys) => xs.length + ys.length ≤ sizeLine ∧ Q (.c cs.length) (cs ++ [.lst (xs ++ ys)])
  | _, _ => False
def oAddT : Op2 := fun a b cs Q => match look a cs, look b cs with
  | some (.tup xs), some (.tup ys) => xs.length + ys.length ≤ sizeLine ∧ Q (.d (.tup (xs ++ ys))) cs
  | _, _ => False
def oAddN : Op2 := fun a b cs Q => match look a cs, look b cs with
  | some (.int i), some (.int j) => Q (.d (.int (i + j))) cs
  | some (.str x), some (.str y) => x.length + y.length ≤ sizeLine ∧ Q (.d (.str (x ++ y))) cs
  | some (.lst xs), some (.lst ys) => xs.length + ys.length ≤ sizeLine ∧ Q (.c cs.length) (cs ++ [.lst (xs ++ ys)])
  | _, _ => False
theorem o_addT (hK : X.K = G.K) : OpR X (binaryOp .Add) (upR G oAddT) := by
  intro pins s σ H x y v u Q I rx ry q
  obtain ⟨F, ι, cs, wx, wy, Q0, S, r1, r2, o, hq⟩ := q
  unfold oAddT at o
  split at o
  · rename_i xs ys l1 l2
    obtain ⟨a, vs, rfl, f1, p1⟩ := look_tupP S r1 l1
    obtain ⟨b, us, rfl, f2, p2⟩ := look_tupP S r2 l2
    cases (show v = Value.ref a from rx)
    cases (show u = Value.ref b from ry)
    obtain ⟨its, v1, t1, _⟩ := I.tuple (hK ▸ SqT.mono S.same f1.sq)
    obtain ⟨its2, v2, t2, _⟩ := I.tuple (hK ▸ SqT.mono S.same f2.sq)
    by_cases hx : xs = []
    · subst hx
      have : vs = [] := by simpa [Reps] using p1
      subst this
      cases v1
      exact cat_tup0 t1 t2 ⟨.ref b, H, I, rfl, hq _ _ _ (.d (.tup ys)) _ _ .refl S (by simp only [RepW, Rep]; exact ⟨b, us, rfl, f2, p2⟩) (by simpa using o.2)⟩
    · have hv : vs ≠ [] := fun z => hx (by have := p1.length; rw [z] at this; simpa using this.symm)
      refine HT.cat_tup t1 t2 (fun z => hv (v1.nil_iff.mp z)) (fun z => ⟨.ref a, H, I, rfl, hq _ _ _ (.d (.tup xs)) _ _ .refl S (by simp only [RepW, Rep]; exact ⟨a, vs, rfl, f1, p1⟩) ?_⟩) (fun z => ?_) (by rw [← v1.length, ← v2.length, p1.length, p2.length]; exact o.1)
      · have : us = [] := v2.nil_iff.mp z
        subst this
        have : ys = [] := by have := p2.length; simpa using this.symm
        subst this
        simpa using o.2
      · have I2 := tup_laid (tk := s.toks) I (v1.append v2) (by rw [List.length_append, p1.length, p2.length]; exact o.1)
        obtain ⟨e3, S3⟩ := S.fixed (o := .frz (tupO (its ++ its2)) (.tup (vs ++ us))) (I.hok.fresh (Nat.le_refl s.heap.objs.size))
        exact ⟨.ref s.heap.objs.size, _, I2, rfl, hq _ _ _ (.d (.tup (xs ++ ys))) _ _ e3 S3 (tup_rep upd_same rfl (Reps.mono e3.same _ _ (Reps.append p1 p2))) o.2⟩
  · cases o
theorem o_addN : OpR X (binaryOp .Add) (upR G oAddN) := OpR.imp (OpR.or op_add (OpR.or op_add_str op_cat)) fun x y H Q q => by
  obtain ⟨F, ι, cs, wx, wy, Q0, S, r1, r2, o, hq⟩ := q
  unfold oAddN at o
  split at o
  · rename_i i j l1 l2
    exact .inl ⟨i, j, look_int S r1 l1, look_int S r2 l2, hq _ _ _ _ _ _ .refl S rep_int o⟩
  · rename_i i j l1 l2
    obtain ⟨e1, k1⟩ := look_str S r1 l1
    obtain ⟨e2, k2⟩ := look_str S r2 l2
    exact .inr (.inl ⟨i, j, e1, e2, o.1, hq _ _ _ _ _ _ .refl S (rep_str (strOk_append k1 k2)) o.2⟩)
  · rename_i xs ys l1 l2
    obtain ⟨a, vs, rfl, h1, p1⟩ := look_lst S r1 l1
    obtain ⟨b, us, rfl, h2, p2⟩ := look_lst S r2 l2
    refine .inr (.inr ⟨a, b, vs, us, rfl, rfl, h1, h2, by rw [p1.length, p2.length]; exact o.1, fun p hp => ?_⟩)
    obtain ⟨e3, S3⟩ := S.owned (o := .lst (vs ++ us)) (x := .lst (xs ++ ys)) hp fun ι' => ⟨S.dead hp, _, upd_same, Reps.append p1 p2⟩
    exact hq _ _ _ (.c cs.length) _ _ e3 S3 ⟨p, by rw [← S.len]; simp [Pl.add], rfl⟩ o.2
  · cases o
theorem o_add (hK : X.K = G.K) : OpR X (binaryOp .Add) (upR G oAdd) := by
  intro pins s σ H x y v u Q I rx ry q
  obtain ⟨F, ι, cs, wx, wy, Q0, S, r1, r2, o, hq⟩ := q
  by_cases ht : oAddT wx wy cs Q0
  · exact o_addT hK pins s σ H x y v u Q I rx ry ⟨F, ι, cs, wx, wy, Q0, S, r1, r2, ht, hq⟩
  · refine o_addN pins s σ H x y v u Q I rx ry ⟨F, ι, cs, wx, wy, Q0, S, r1, r2, ?_, hq⟩
    unfold oAdd at o
    unfold oAddT at ht
    unfold oAddN
    cases h1 : look wx cs with
    | none => rw [h1] at o; exact o
    | some a =>
      cases h2 : look wy cs with
      | none => rw [h1, h2] at o; cases a <;> exact o
      | some b =>
        rw [h1, h2] at o ht
        cases a <;> cases b <;> first | exact o | exact absurd o ht
def oMul : Op2 := fun a b cs Q => match look a cs, look b cs with
  | some (.int i), some (.int j) => CMulW i j ∧ Q (.d (.int (i * j))) cs
  | some (.lst xs), some (.int k) => -(2 ^ 63) ≤ k ∧ k < 2 ^ 63 ∧ xs.length * k.toNat ≤ sizeLine ∧ Q (.c cs.length) (cs ++ [.lst (List.replicate k.toNat xs).flatten])
  | _, _ => False
theorem reps_flat {F : Hp} {xs : List D} {vs : List V} (h : Reps G F xs vs) : ∀ n : Nat, Reps G F (List.replicate n xs).flatten (List.replicate n vs).flatten
  | 0 => Reps.nil
  | n + 1 => by
    rw [List.replicate_succ, List.replicate_succ, List.flatten_cons, List.flatten_cons]
    exact Reps.append h (reps_flat h n)
theorem o_mul : OpR X (binaryOp .Mult) (upR G oMul) := OpR.imp (OpR.or op_mulW op_rep) fun x y H Q q => by
  obtain ⟨F, ι, cs, wx, wy, Q0, S, r1, r2, o, hq⟩ := q
  unfold oMul at o
  split at o
  · rename_i i j l1 l2
    exact .inl ⟨i, j, look_int S r1 l1, look_int S r2 l2, o.1, hq _ _ _ _ _ _ .refl S rep_int o.2⟩
  · rename_i xs k l1 l2
    obtain ⟨a, vs, rfl, h1, p1⟩ := look_lst S r1 l1
    have e2 := look_int S r2 l2
    subst e2
    obtain ⟨o1, o2, o3, o⟩ := o
    refine .inr ⟨a, k, vs, rfl, rfl, h1, o1, o2, by rw [p1.length]; exact o3, fun p hp => ?_⟩
    obtain ⟨e3, S3⟩ := S.owned (o := .lst (List.replicate k.toNat vs).flatten) (x := .lst (List.replicate k.toNat xs).flatten) hp fun ι' => ⟨S.dead hp, _, upd_same, reps_flat p1 _⟩
    exact hq _ _ _ (.c cs.length) _ _ e3 S3 ⟨p, by rw [← S.len]; simp [Pl.add], rfl⟩ o
  · cases o
def oIs (neg : Bool) : Op2 := fun a b cs Q => match b with
  | .d .non => (match a with
    | .d x => (match x with
      | .non => Q (.d (.bl (!neg))) cs
      | .oth _ => False
      | _ => Q (.d (.bl neg)) cs)
    | .c _ => Q (.d (.bl neg)) cs
    | .dead => False
    | .tp _ => False)
  | _ => False
theorem not_non {F : Hp} {x : D} {v : V} (h : Rep G F x v) (hx : ∀ u, x ≠ .oth u) (hn : x ≠ .non) : v ≠ .non := by
  rintro rfl
  cases x with
  | non => exact hn rfl
  | oth u => exact hx u rfl
  | str x => simp only [Rep] at h; cases h.1
  | bl b => simp only [Rep] at h; cases h
  | int i => simp only [Rep] at h; cases h
  | tup ds => simp only [Rep] at h; obtain ⟨a, _, e, _⟩ := h; cases e
  | lst ds => simp only [Rep] at h; obtain ⟨a, _, e, _⟩ := h; cases e
  | dct ds => simp only [Rep] at h; obtain ⟨a, _, _, _, e, _⟩ := h; cases e
  | obj c ds => simp only [Rep] at h; obtain ⟨a, _, _, _, _, _, e, _⟩ := h; cases e
  | scr ns => simp only [Rep] at h; obtain ⟨a, e, _⟩ := h; cases e
theorem is_core {F : Hp} {ι : Pl} {cs : Cs} {H : Hp} {wx wy : W} {x y : V} {neg : Bool} {Q0 : DQ} (S : Sim G F ι cs H) (r1 : RepW G F ι wx x) (r2 : RepW G F ι wy y) (o : oIs neg wx wy cs Q0) :
    y = .non ∧ Q0 (.d (.bl (if x = .non then !neg else neg))) cs := by
  unfold oIs at o
  split at o
  · have r2 : Rep G F .non y := r2
    simp only [Rep] at r2
    refine ⟨r2, ?_⟩
    split at o
    · rename_i z
      have r1 : Rep G F z x := r1
      split at o
      · simp only [Rep] at r1
        rw [if_pos r1]; exact o
      · cases o
      · rename_i h1 h2
        rw [if_neg (not_non r1 (fun u e => h2 u e) h1)]; exact o
    · obtain ⟨a, _, rfl⟩ := r1
      rw [if_neg (by simp)]; exact o
    · cases o
    · cases o
  · cases o
theorem o_isnot : OpR X (compareOp .IsNot) (upR G (oIs true)) := OpR.imp op_notN fun x y H Q q => by
  obtain ⟨F, ι, cs, wx, wy, Q0, S, r1, r2, o, hq⟩ := q
  obtain ⟨e, o⟩ := is_core S r1 r2 o
  refine ⟨e, hq _ _ _ _ _ _ .refl S rep_bl ?_⟩
  by_cases h : x = .non <;> simpa [h] using o
def oLen : OpN := fun ws cs Q => match ws with
  | [w] => (match look w cs with
    | some (.str x) => x.length ≤ sizeLine ∧ Q (.d (.int x.length)) cs
    | some (.lst xs) => Q (.d (.int xs.length)) cs
    | some (.tup xs) => Q (.d (.int xs.length)) cs
    | some (.scr xs) => Q (.d (.int xs.length)) cs
    | _ => False)
  | _ => False
theorem c_len (hK : X.K = G.K) : CallR X (.builtin "len") (upRN G oLen) := CallR.imp call_len fun xs H Q q => by
  obtain ⟨F, ι, cs, ws, Q0, S, r, o, hq⟩ := q
  unfold oLen at o
  split at o
  · rename_i w
    obtain ⟨v, rfl, r0⟩ := pair1 r
    split at o
    · rename_i x l
      obtain ⟨e, k⟩ := look_str S r0 l
      subst e
      exact ⟨_, x.length, rfl, ⟨o.1, rfl⟩, hq _ _ _ _ _ _ .refl S rep_int o.2⟩
    · rename_i xs l
      obtain ⟨a, vs, rfl, h1, p1⟩ := look_lst S r0 l
      exact ⟨_, xs.length, rfl, .inl ⟨vs, SqL.of h1, p1.length.symm⟩, hq _ _ _ _ _ _ .refl S rep_int o⟩
    · rename_i xs l
      obtain ⟨a, vs, rfl, h1, _, p1⟩ := look_tup' S r0 l
      exact ⟨_, xs.length, rfl, .inr ⟨vs, hK ▸ h1, p1.length.symm⟩, hq _ _ _ _ _ _ .refl S rep_int o⟩
    · rename_i ns l
      obtain ⟨a, rfl, h1⟩ := look_top S r0 l
      exact ⟨_, ns.length, rfl, .inl ⟨_, hK ▸ h1, by simp⟩, hq _ _ _ _ _ _ .refl S rep_int o⟩
    · cases o
  · cases o
def oInt1 (g : Int → D) : OpN := fun ws cs Q => match ws with
  | [w] => (match look w cs with
    | some (.int i) => Q (.d (g i)) cs
    | _ => False)
  | _ => False
def oInt2 (g : Int → Int → D) : OpN := fun ws cs Q => match ws with
  | [w, u] => (match look w cs, look u cs with
    | some (.int i), some (.int j) => Q (.d (g i j)) cs
    | _, _ => False)
  | _ => False
theorem c_abs : CallR X (.builtin "abs") (upRN G (oInt1 fun i => .int (if i < 0 then -i else i))) := CallR.imp call_abs fun xs H Q q => by
  obtain ⟨F, ι, cs, ws, Q0, S, r, o, hq⟩ := q
  unfold oInt1 at o
  split at o
  · obtain ⟨v, rfl, r0⟩ := pair1 r
    split at o
    · rename_i i l
      exact ⟨i, by rw [look_int S r0 l], hq _ _ _ _ _ _ .refl S rep_int o⟩
    · cases o
  · cases o
theorem c_max2 (hc : X.calm = true) : CallR X (.builtin "max") (upRN G (oInt2 fun i j => .int (if j > i then j else i))) := CallR.imp (call_max2 hc) fun xs H Q q => by
  obtain ⟨F, ι, cs, ws, Q0, S, r, o, hq⟩ := q
  unfold oInt2 at o
  split at o
  · obtain ⟨v, u, rfl, r0, r'⟩ := pair2 r
    split at o
    · rename_i i j l l'
      exact ⟨i, j, by rw [look_int S r0 l, look_int S r' l'], hq _ _ _ _ _ _ .refl S rep_int o⟩
    · cases o
  · cases o
theorem c_min2 (hc : X.calm = true) : CallR X (.builtin "min") (upRN G (oInt2 fun i j => .int (if j < i then j else i))) := CallR.imp (call_min2 hc) fun xs H Q q => by
  obtain ⟨F, ι, cs, ws, Q0, S, r, o, hq⟩ := q
  unfold oInt2 at o
  split at o
  · obtain ⟨v, u, rfl, r0, r'⟩ := pair2 r
    split at o
    · rename_i i j l l'
      exact ⟨i, j, by rw [look_int S r0 l, look_int S r' l'], hq _ _ _ _ _ _ .refl S rep_int o⟩
    · cases o
  · cases o
def oDivmod : OpN := fun ws cs Q => match ws with
  | [w, u] => (match look w cs, look u cs with
    | some (.int i), some (.int j) => CDivW i j ∧ Q (.tp [.int (i / j), .int (i % j)]) cs
    | _, _ => False)
  | _ => False
theorem c_divmod : CallR X (.builtin "divmod") (upRN G oDivmod) := CallR.imp call_divmodW fun xs H Q q => by
  obtain ⟨F, ι, cs, ws, Q0, S, r, o, hq⟩ := q
  unfold oDivmod at o
  split at o
  · obtain ⟨v, u, rfl, r0, r'⟩ := pair2 r
    split at o
    · rename_i i j l l'
      obtain ⟨⟨o1, o2⟩, o⟩ := o
      refine ⟨i, j, by rw [look_int S r0 l, look_int S r' l'], ⟨o1, PyProof.noPylong_of_log2 o2⟩, fun p hp => ?_⟩
      obtain ⟨e3, S3⟩ := S.fixed (o := .tup [.int (i / j), .int (i % j)]) hp
      exact hq _ _ _ (.tp [.int (i / j), .int (i % j)]) _ _ e3 S3 ⟨p, _, rfl, SqT.of upd_same, Reps.cons (by simp [Rep]) (Reps.one (by simp [Rep]))⟩ o
    · cases o
  · cases o
/-- the bools of a list of bools -/
def bools : List D → Option (List Bool)
  | [] => some []
  | .bl b :: r => (bools r).map (b :: ·)
  | _ => none
theorem bools_rep {F : Hp} : ∀ {xs : List D} {vs : List V} {bs : List Bool}, Reps G F xs vs → bools xs = some bs → vs = bs.map V.bl
  | [], vs, bs, h, e => by
    simp only [Reps] at h
    simp [bools] at e
    subst h e
    rfl
  | x :: xs, vs, bs, h, e => by
    cases x with
    | bl b =>
      simp only [Reps] at h
      obtain ⟨v, r, rfl, h1, h2⟩ := h
      simp only [bools] at e
      cases q : bools xs with
      | none => rw [q] at e; cases e
      | some cs =>
        rw [q] at e; cases e
        have h1 : Rep G F (.bl b) v := h1
        simp only [Rep] at h1
        rw [h1, bools_rep h2 q]
        rfl
    | _ => cases e
def oBools (g : List Bool → Bool) : OpN := fun ws cs Q => match ws with
  | [w] => (match look w cs with
    | some (.lst xs) => (match bools xs with
      | some bs => Q (.d (.bl (g bs))) cs
      | none => False)
    | _ => False)
  | _ => False
theorem bools_core {F : Hp} {ι : Pl} {cs : Cs} {H : Hp} {g : List Bool → Bool} {ws : List W} {vs : List V} {Q0 : DQ} (S : Sim G F ι cs H) (r : Paired (RepW G F ι) ws vs) (o : oBools g ws cs Q0) :
    ∃ (a : Addr) (bs : List Bool), vs = [V.ref a] ∧ SqL G.K H a (bs.map V.bl) ∧ Q0 (.d (.bl (g bs))) cs := by
  unfold oBools at o
  split at o
  · obtain ⟨v, rfl, r0⟩ := pair1 r
    split at o
    · rename_i xs l
      split at o
      · rename_i bs e
        obtain ⟨a, us, rfl, h1, p1⟩ := look_lst S r0 l
        have := bools_rep p1 e
        subst this
        exact ⟨a, bs, rfl, SqL.of h1, o⟩
      · cases o
    · cases o
  · cases o
theorem c_all (hc : X.calm = true) (hK : X.K = G.K) : CallR X (.builtin "all") (upRN G (oBools fun bs => bs.all id)) := CallR.imp (cr_all hc) fun xs H Q q => by
  obtain ⟨F, ι, cs, ws, Q0, S, r, o, hq⟩ := q
  obtain ⟨a, bs, e, h, o⟩ := bools_core S r o
  exact ⟨a, bs, e, hK ▸ h, hq _ _ _ _ _ _ .refl S rep_bl o⟩
end
end DL
namespace DL
open PySem PySem.Spec L2
mutual
def py : D → PyData
  | .non => .none
  | .bl b => .bool b
  | .int i => .int i
  | .str x => .str x
  | .tup xs => .tuple (pys xs)
  | .lst xs => .list (pys xs)
  | .dct kvs => .dict (pyKV kvs)
  | _ => .none
def pys : List D → List PyData
  | [] => []
  | x :: xs => py x :: pys xs
def pyKV : List (D × D) → List (PyData × PyData)
  | [] => []
  | (a, b) :: r => (py a, py b) :: pyKV r
end
mutual
/-- no objects and the like inside -/
def isPy : D → Bool
  | .non | .bl _ | .int _ | .str _ => true
  | .tup xs | .lst xs => isPys xs
  | .dct kvs => isPyKV kvs
  | _ => false
def isPys : List D → Bool
  | [] => true
  | x :: xs => isPy x && isPys xs
def isPyKV : List (D × D) → Bool
  | [] => true
  | (a, b) :: r => isPy a && isPy b && isPyKV r
end
mutual
/-- nor dicts -/
def isFl : D → Bool
  | .non | .bl _ | .int _ | .str _ => true
  | .tup xs | .lst xs => isFls xs
  | _ => false
def isFls : List D → Bool
  | [] => true
  | x :: xs => isFl x && isFls xs
end
mutual
theorem isPy_of : ∀ x : D, isFl x = true → isPy x = true
  | .non, _ | .bl _, _ | .int _, _ | .str _, _ => by simp [isPy]
  | .tup xs, h => by simp only [isFl] at h; simp only [isPy]; exact isPys_of xs h
  | .lst xs, h => by simp only [isFl] at h; simp only [isPy]; exact isPys_of xs h
  | .dct _, h | .obj _ _, h | .oth _, h | .scr _, h => by simp [isFl] at h
theorem isPys_of : ∀ xs : List D, isFls xs = true → isPys xs = true
  | [], _ => by simp [isPys]
  | x :: xs, h => by
    simp only [isFls, Bool.and_eq_true] at h
    simp only [isPys, Bool.and_eq_true]
    exact ⟨isPy_of x h.1, isPys_of xs h.2⟩
end
section
variable {X : Cx} {G : Gam} {pins : List (Addr × Obj)} {σ : L2.St} {H : Hp} {s : Shared}
theorem rawE_vals {w : World} : ∀ {ks : List NestedKey} {ps : List (V × V)} {es : List DictEntry}, RawE w ks ps es → Vals (ps.map (·.1)) (es.map (·.key)) ∧ Vals (ps.map (·.2)) (es.map (·.val))
  | [], ps, es, h => by
    simp only [RawE] at h
    obtain ⟨rfl, rfl⟩ := h
    exact ⟨.nil, .nil⟩
  | k :: ks, ps, es, h => by
    simp only [RawE] at h
    obtain ⟨p, q, e, f, rfl, rfl, _, h2, h3, h4⟩ := h
    obtain ⟨a, b⟩ := rawE_vals h4
    exact ⟨.cons h2 a, .cons h3 b⟩
theorem DcAt.get {a : Addr} {o : Obj} (I : Inv X pins σ H s) (hK : X.K = G.K) (h : DcAt G H a o) : s.heap.get? a = some o := by
  rcases h.2 with e | e
  · exact (I.hok a _ e).1
  · exact (hK ▸ I.kIn) a o e
/-- the addresses that are read are none that the base has -/
def Apart (X : Cx) (as : List Addr) : Prop := (X.base.get? sysModules).isSome = true → sysModules ∉ as
theorem apart_of {a : Addr} {o : HO} (I : Inv X pins σ H s) (h : H a = some o) : (X.base.get? sysModules).isSome = true → sysModules ≠ a := fun hb e => by
  obtain ⟨u, hu⟩ := Option.isSome_iff_exists.mp hb
  have := (I.bs _ _ hu).2
  rw [e, h] at this
  cases this
mutual
theorem Rep.reads {F : Hp} (S : Same F H) (I : Inv X pins σ H s) (hK : X.K = G.K) : ∀ (x : D) (v : V) (u : Value), Rep G F x v → isPy x = true → RelV v u → ∃ as, Reads s.heap u (py x) as ∧ Apart X as
  | .non, v, u, h, _, r => by
    simp only [Rep] at h
    subst h
    cases r
    simp only [py]
    exact ⟨_, Reads.none, fun _ => by simp⟩
  | .bl b, v, u, h, _, r => by
    simp only [Rep] at h
    subst h
    cases r
    simp only [py]
    exact ⟨_, Reads.bool b, fun _ => by simp⟩
  | .int i, v, u, h, _, r => by
    simp only [Rep] at h
    subst h
    obtain ⟨t, rfl⟩ := r
    simp only [py]
    exact ⟨_, Reads.int i t, fun _ => by simp⟩
  | .str x, v, u, h, _, r => by
    simp only [Rep] at h
    obtain ⟨rfl, _⟩ := h
    obtain ⟨t, rfl⟩ := r
    simp only [py]
    exact ⟨_, Reads.str x t, fun _ => by simp⟩
  | .tup xs, v, u, h, p, r => by
    simp only [Rep] at h
    obtain ⟨a, vs, rfl, h1, h2⟩ := h
    simp only [isPy] at p
    cases r
    obtain ⟨its, rv, ⟨o, ho, hc, n, hd⟩, _⟩ := I.tuple (hK ▸ SqT.mono S h1.sq)
    obtain ⟨as, q, ap⟩ := Reps.reads S I hK xs vs its h2 p rv
    simp only [py]
    exact ⟨_, Reads.tuple ho hc hd q, ap⟩
  | .lst xs, v, u, h, p, r => by
    simp only [Rep] at h
    obtain ⟨a, vs, rfl, h1, h2⟩ := h
    simp only [isPy] at p
    cases r
    obtain ⟨its, rv, ⟨o, n, ho, hc, _, hd⟩, _⟩ := I.list (SqL.of (S _ _ h1))
    obtain ⟨as, q, ap⟩ := Reps.reads S I hK xs vs its h2 p rv
    simp only [py]
    exact ⟨_, Reads.list ho hc hd q, fun hb hm => (List.mem_cons.mp hm).elim (apart_of I (S _ _ h1) hb) (ap hb)⟩
  | .dct kvs, v, u, h, p, r => by
    simp only [Rep] at h
    obtain ⟨a, o, ks, ps, rfl, h1, h2, h3⟩ := h
    simp only [isPy] at p
    cases r
    obtain ⟨es, ep, hd, re⟩ := h2.dat
    have hg := DcAt.get I hK (h1.mono S)
    obtain ⟨v1, v2⟩ := rawE_vals re
    obtain ⟨as, bs, q1, q2, ap1, ap2⟩ := RepKV.reads S I hK kvs ks ps _ _ h3 p v1 v2
    simp only [py]
    refine ⟨_, Reads.dict hg h2.ex.1 hd q1 q2, fun hb hm => ?_⟩
    rcases List.mem_append.mp hm with hm | hm
    · rcases List.mem_cons.mp hm with e | hm
      · have := h1.1
        rw [← e] at this
        simp at this
      · exact ap1 hb hm
    · exact ap2 hb hm
  | .obj _ _, v, u, _, p, _ | .oth _, v, u, _, p, _ | .scr _, v, u, _, p, _ => by simp [isPy] at p
theorem Reps.reads {F : Hp} (S : Same F H) (I : Inv X pins σ H s) (hK : X.K = G.K) : ∀ (xs : List D) (vs : List V) (us : List Value), Reps G F xs vs → isPys xs = true → Vals vs us → ∃ as, ReadsAll s.heap us (pys xs) as ∧ Apart X as
  | [], vs, us, h, _, r => by
    simp only [Reps] at h
    subst h
    cases r
    simp only [pys]
    exact ⟨_, ReadsAll.nil, fun _ => by simp⟩
  | x :: xs, vs, us, h, p, r => by
    simp only [Reps] at h
    obtain ⟨v, vr, rfl, h1, h2⟩ := h
    simp only [isPys, Bool.and_eq_true] at p
    cases r with
    | cons r1 r2 =>
      obtain ⟨as, q1, ap1⟩ := Rep.reads S I hK x _ _ h1 p.1 r1
      obtain ⟨bs, q2, ap2⟩ := Reps.reads S I hK xs _ _ h2 p.2 r2
      simp only [pys]
      exact ⟨_, ReadsAll.cons q1 q2, fun hb hm => (List.mem_append.mp hm).elim (ap1 hb) (ap2 hb)⟩
theorem RepKV.reads {F : Hp} (S : Same F H) (I : Inv X pins σ H s) (hK : X.K = G.K) : ∀ (kvs : List (D × D)) (ks : List NestedKey) (ps : List (V × V)) (us ws : List Value), RepKV G F kvs ks ps → isPyKV kvs = true → Vals (ps.map (·.1)) us → Vals (ps.map (·.2)) ws →
    ∃ as bs, ReadsAll s.heap us ((pyKV kvs).map (·.1)) as ∧ ReadsAll s.heap ws ((pyKV kvs).map (·.2)) bs ∧ Apart X as ∧ Apart X bs
  | [], ks, ps, us, ws, h, _, r1, r2 => by
    simp only [RepKV] at h
    obtain ⟨rfl, rfl⟩ := h
    cases r1
    cases r2
    simp only [pyKV, List.map_nil]
    exact ⟨_, _, ReadsAll.nil, ReadsAll.nil, fun _ => by simp, fun _ => by simp⟩
  | (a, b) :: kvs, ks, ps, us, ws, h, p, r1, r2 => by
    simp only [RepKV] at h
    obtain ⟨k, pr, kr, q, rfl, rfl, hk, h1, h2, h3⟩ := h
    simp only [isPyKV, Bool.and_eq_true] at p
    simp only [List.map_cons] at r1 r2
    cases r1 with
    | cons r1 r1' =>
      cases r2 with
      | cons r2 r2' =>
        obtain ⟨as1, q1, ap1⟩ := Rep.reads S I hK a _ _ h1 p.1.1 r1
        obtain ⟨bs1, q2, ap2⟩ := Rep.reads S I hK b _ _ h2 p.1.2 r2
        obtain ⟨as2, bs2, q3, q4, ap3, ap4⟩ := RepKV.reads S I hK kvs kr q _ _ h3 p.2 r1' r2'
        simp only [pyKV, List.map_cons]
        exact ⟨_, _, ReadsAll.cons q1 q3, ReadsAll.cons q2 q4, fun hb hm => (List.mem_append.mp hm).elim (ap1 hb) (ap3 hb), fun hb hm => (List.mem_append.mp hm).elim (ap2 hb) (ap4 hb)⟩
end
mutual
theorem Rep.lay {F : Hp} : ∀ (x : D) (v : V), Rep G F x v → isFl x = true → (py x).canLay0 = true
  | .non, _, _, _ | .bl _, _, _, _ | .int _, _, _, _ => by simp [py, PyData.canLay0]
  | .str x, v, h, _ => by
    simp only [Rep] at h
    simp only [py, PyData.canLay0]
    exact h.2
  | .tup xs, v, h, p => by
    simp only [Rep] at h
    obtain ⟨a, vs, rfl, h1, h2⟩ := h
    simp only [isFl] at p
    simp only [py, PyData.canLay0]
    exact Reps.lay xs vs h2 p
  | .lst xs, v, h, p => by
    simp only [Rep] at h
    obtain ⟨a, vs, rfl, h1, h2⟩ := h
    simp only [isFl] at p
    simp only [py, PyData.canLay0]
    exact Reps.lay xs vs h2 p
  | .dct _, v, _, p | .obj _ _, v, _, p | .oth _, v, _, p | .scr _, v, _, p => by simp [isFl] at p
theorem Reps.lay {F : Hp} : ∀ (xs : List D) (vs : List V), Reps G F xs vs → isFls xs = true → PyData.canLayAll0 (pys xs) = true
  | [], _, _, _ => by simp [pys, PyData.canLayAll0]
  | x :: xs, vs, h, p => by
    simp only [Reps] at h
    obtain ⟨v, vr, rfl, h1, h2⟩ := h
    simp only [isFls, Bool.and_eq_true] at p
    simp only [pys, PyData.canLayAll0, Bool.and_eq_true]
    exact ⟨Rep.lay x v h1 p.1, Reps.lay xs vr h2 p.2⟩
end
/-- the same from the top as it stands -/
theorem Top.reads {F : Hp} (S : Same F H) (I : Inv X pins σ H s) (hK : X.K = G.K) (x : D) (v : V) (u : Value) (h : Top G F H x v) (p : isPy x = true) (r : RelV v u) : ∃ as, Reads s.heap u (py x) as ∧ Apart X as := by
  cases x with
  | tup xs =>
    obtain ⟨a, vs, rfl, h1, h2⟩ := h
    simp only [isPy] at p
    cases r
    obtain ⟨its, rv, ⟨o, ho, hc, n, hd⟩, _⟩ := I.tuple (hK ▸ h1.sq)
    obtain ⟨as, q, ap⟩ := Reps.reads S I hK xs vs its h2 p rv
    simp only [py]
    exact ⟨_, Reads.tuple ho hc hd q, ap⟩
  | lst xs =>
    obtain ⟨a, vs, rfl, h1, h2⟩ := h
    simp only [isPy] at p
    cases r
    obtain ⟨its, rv, ⟨o, n, ho, hc, _, hd⟩, _⟩ := I.list (SqL.of h1)
    obtain ⟨as, q, ap⟩ := Reps.reads S I hK xs vs its h2 p rv
    simp only [py]
    exact ⟨_, Reads.list ho hc hd q, fun hb hm => (List.mem_cons.mp hm).elim (apart_of I h1 hb) (ap hb)⟩
  | dct kvs =>
    obtain ⟨a, o, ks, ps, rfl, h1, h2, h3⟩ := h
    simp only [isPy] at p
    cases r
    obtain ⟨es, ep, hd, re⟩ := h2.dat
    have hg := DcAt.get I hK h1
    obtain ⟨v1, v2⟩ := rawE_vals re
    obtain ⟨as, bs, q1, q2, ap1, ap2⟩ := RepKV.reads S I hK kvs ks ps _ _ h3 p v1 v2
    simp only [py]
    refine ⟨_, Reads.dict hg h2.ex.1 hd q1 q2, fun hb hm => ?_⟩
    rcases List.mem_append.mp hm with hm | hm
    · rcases List.mem_cons.mp hm with e | hm
      · have := h1.1
        rw [← e] at this
        simp at this
      · exact ap1 hb hm
    · exact ap2 hb hm
  | obj c ds => simp [isPy] at p
  | scr ns => simp [isPy] at p
  | oth u => simp [isPy] at p
  | non => exact Rep.reads S I hK .non v u h p r
  | bl b => exact Rep.reads S I hK (.bl b) v u h p r
  | int b => exact Rep.reads S I hK (.int b) v u h p r
  | str b => exact Rep.reads S I hK (.str b) v u h p r
theorem Top.lay {F : Hp} (x : D) (v : V) (h : Top G F H x v) (p : isFl x = true) : (py x).canLay0 = true := by
  cases x with
  | tup xs =>
    obtain ⟨a, vs, rfl, h1, h2⟩ := h
    simp only [isFl] at p
    simp only [py, PyData.canLay0]
    exact Reps.lay xs vs h2 p
  | lst xs =>
    obtain ⟨a, vs, rfl, h1, h2⟩ := h
    simp only [isFl] at p
    simp only [py, PyData.canLay0]
    exact Reps.lay xs vs h2 p
  | str x => exact Rep.lay (G := G) (F := F) (.str x) v h p
  | non => simp [py, PyData.canLay0]
  | bl b => simp [py, PyData.canLay0]
  | int b => simp [py, PyData.canLay0]
  | _ => simp [isFl] at p
end
end DL
namespace DL
open PySem PySem.Spec L2
theorem strOk_mem {x : Str} (h : PyData.strOk x = true) : ∀ c ∈ x.cps.toList, c < 0x110000 := strOk_iff.mp h
theorem strOk_of {x : Str} (h : ∀ c ∈ x.cps.toList, c < 0x110000) : PyData.strOk x = true := strOk_iff.mpr h
theorem char_lt (c : Char) : c.toNat < 0x110000 := by
  have h : c.toNat.isValidChar := c.valid
  unfold Nat.isValidChar at h
  omega
theorem strOk_string (x : String) : PyData.strOk (Str.ofString x) = true := strOk_of fun c hc => by
  rw [Str.ofString_eq_toList] at hc
  obtain ⟨d, _, rfl⟩ := List.mem_map.mp hc
  exact char_lt d
theorem reprChar_ok (q c : Nat) (hc : c < 0x110000) : ∀ d ∈ Builtin.Str.reprChar q c, d < 0x110000 := by
  have hd : ∀ d ∈ (Nat.toDigits 16 c).map Char.toNat, d < 0x110000 := fun d h => by
    obtain ⟨e, _, rfl⟩ := List.mem_map.mp h
    exact char_lt e
  intro d h
  unfold Builtin.Str.reprChar at h
  simp only at h
  repeat' split at h
  all_goals
    simp only [List.mem_cons, List.mem_append, List.mem_replicate, List.not_mem_nil, or_false] at h
    first
      | (rcases h with rfl | rfl <;> omega)
      | (subst h; exact hc)
      | (rcases h with (rfl | rfl) | ⟨_, rfl⟩ | h <;> first | omega | exact hd _ h)
theorem strOk_repr {x : Str} (h : PyData.strOk x = true) : PyData.strOk (reprText x) = true := by
  have hm := strOk_mem h
  have hq : reprQuote x < 0x110000 := by unfold reprQuote; split <;> omega
  have go : ∀ (l : List Nat) (acc : Array Nat), (∀ c ∈ l, c < 0x110000) → (∀ c ∈ acc.toList, c < 0x110000) → ∀ c ∈ (l.foldl (fun out c => out ++ (Builtin.Str.reprChar (reprQuote x) c).toArray) acc).toList, c < 0x110000 := by
    intro l
    induction l with
    | nil => intro acc _ ha; exact ha
    | cons d r ih =>
      intro acc hl ha
      refine ih _ (fun c hc => hl c (List.mem_cons_of_mem _ hc)) fun c hc => ?_
      simp only [Array.toList_append, List.mem_append] at hc
      rcases hc with hc | hc
      · exact ha c hc
      · exact reprChar_ok _ _ (hl d List.mem_cons_self) c (by simpa using hc)
  refine strOk_of fun c hc => ?_
  unfold reprText at hc
  simp only [Array.toList_push, List.mem_append, List.mem_singleton] at hc
  rcases hc with hc | rfl
  · rw [← Array.foldl_toList] at hc
    exact go _ _ hm (by simpa using hq) c hc
  · exact hq
theorem strOk_join {sep : Str} (hs : PyData.strOk sep = true) : ∀ (xs : List Str), (∀ x ∈ xs, PyData.strOk x = true) → PyData.strOk (Str.join sep xs) = true
  | [], _ => by exact strOk_of fun c hc => by cases hc
  | [x], h => by
    show PyData.strOk x = true
    exact h x List.mem_cons_self
  | x :: y :: r, h => by
    show PyData.strOk (x ++ sep ++ Str.join sep (y :: r)) = true
    exact strOk_append (strOk_append (h x List.mem_cons_self) hs) (strOk_join hs (y :: r) fun z hz => h z (List.mem_cons_of_mem _ hz))
theorem strOk_from : ∀ (ts : List Str) (k : Nat) (acc : Str), PyData.strOk acc = true → (∀ x ∈ ts, PyData.strOk x = true) → PyData.strOk (textFrom k acc ts) = true
  | [], _, _, h, _ => h
  | t :: r, k, acc, h, ht => by
    show PyData.strOk (textFrom (k + 1) (acc ++ (if k > 0 then ", " else "" : String) ++ t) r) = true
    refine strOk_from r _ _ (strOk_append (strOk_append h ?_) (ht t List.mem_cons_self)) fun z hz => ht z (List.mem_cons_of_mem _ hz)
    exact strOk_string _
theorem strOk_list {ts : List Str} (h : ∀ x ∈ ts, PyData.strOk x = true) : PyData.strOk (listText ts) = true := strOk_append (strOk_from ts 0 _ (strOk_string _) h) (strOk_string _)
theorem strOk_tuple {ts : List Str} (h : ∀ x ∈ ts, PyData.strOk x = true) : PyData.strOk (tupleText ts) = true := strOk_append (strOk_append (strOk_string _) (strOk_join (strOk_string _) ts h)) (strOk_string _)
theorem strOk_dict {ts : List Str} (h : ∀ x ∈ ts, PyData.strOk x = true) : PyData.strOk (dictText ts) = true := strOk_append (strOk_append (strOk_string _) (strOk_join (strOk_string _) ts h)) (strOk_string _)
mutual
/-- the texts within are in order -/
def okD : D → Bool
  | .str x => PyData.strOk x
  | .tup xs | .lst xs => okDs xs
  | .dct kvs => okKV kvs
  | _ => true
def okDs : List D → Bool
  | [] => true
  | x :: xs => okD x && okDs xs
def okKV : List (D × D) → Bool
  | [] => true
  | (a, b) :: r => okD a && okD b && okKV r
end
mutual
theorem strOk_shown : ∀ x : D, okD x = true → PyData.strOk (py x).shown = true
  | .non, _ => by simp only [py, PyData.shown]; exact strOk_string _
  | .bl b, _ => by simp only [py, PyData.shown]; cases b <;> exact strOk_string _
  | .int i, _ => by simp only [py, PyData.shown]; exact strOk_string _
  | .str x, h => by simp only [okD] at h; simp only [py, PyData.shown]; exact strOk_repr h
  | .tup xs, h => by simp only [okD] at h; simp only [py, PyData.shown]; exact strOk_tuple (strOk_shownAll xs h)
  | .lst xs, h => by simp only [okD] at h; simp only [py, PyData.shown]; exact strOk_list (strOk_shownAll xs h)
  | .dct kvs, h => by simp only [okD] at h; simp only [py, PyData.shown]; exact strOk_dict (strOk_shownKv kvs h)
  | .obj _ _, _ => by simp only [py, PyData.shown]; exact strOk_string _
  | .oth _, _ => by simp only [py, PyData.shown]; exact strOk_string _
  | .scr _, _ => by simp only [py, PyData.shown]; exact strOk_string _
theorem strOk_shownAll : ∀ xs : List D, okDs xs = true → ∀ y ∈ PyData.shownAll (pys xs), PyData.strOk y = true
  | [], _, y, hy => by simp [pys, PyData.shownAll] at hy
  | x :: xs, h, y, hy => by
    simp only [okDs, Bool.and_eq_true] at h
    simp only [pys, PyData.shownAll, List.mem_cons] at hy
    rcases hy with rfl | hy
    · exact strOk_shown x h.1
    · exact strOk_shownAll xs h.2 y hy
theorem strOk_shownKv : ∀ xs : List (D × D), okKV xs = true → ∀ y ∈ PyData.shownKv (pyKV xs), PyData.strOk y = true
  | [], _, y, hy => by simp [pyKV, PyData.shownKv] at hy
  | (a, b) :: xs, h, y, hy => by
    simp only [okKV, Bool.and_eq_true] at h
    simp only [pyKV, PyData.shownKv, List.mem_cons] at hy
    rcases hy with rfl | hy
    · exact strOk_append (strOk_append (strOk_shown a h.1.1) (strOk_string _)) (strOk_shown b h.1.2)
    · exact strOk_shownKv xs h.2 y hy
end
section
variable {G : Gam} {F : Hp}
mutual
theorem Rep.okD : ∀ (x : D) (v : V), Rep G F x v → okD x = true
  | .non, v, _ | .bl _, v, _ | .int _, v, _ | .obj _ _, v, _ | .oth _, v, _ | .scr _, v, _ => by simp [DL.okD]
  | .str x, v, h => by simp only [Rep] at h; simp only [DL.okD]; exact h.2
  | .tup xs, v, h => by simp only [Rep] at h; obtain ⟨a, vs, _, _, h2⟩ := h; simp only [DL.okD]; exact Reps.okD xs vs h2
  | .lst xs, v, h => by simp only [Rep] at h; obtain ⟨a, vs, _, _, h2⟩ := h; simp only [DL.okD]; exact Reps.okD xs vs h2
  | .dct kvs, v, h => by simp only [Rep] at h; obtain ⟨a, o, ks, ps, _, _, _, h2⟩ := h; simp only [DL.okD]; exact RepKV.okD kvs ks ps h2
theorem Reps.okD : ∀ (xs : List D) (vs : List V), Reps G F xs vs → okDs xs = true
  | [], _, _ => by simp [okDs]
  | x :: xs, vs, h => by
    simp only [Reps] at h
    obtain ⟨v, r, rfl, h1, h2⟩ := h
    simp only [okDs, Bool.and_eq_true]
    exact ⟨Rep.okD x v h1, Reps.okD xs r h2⟩
theorem RepKV.okD : ∀ (xs : List (D × D)) (ks : List NestedKey) (ps : List (V × V)), RepKV G F xs ks ps → okKV xs = true
  | [], _, _, _ => by simp [okKV]
  | (a, b) :: xs, ks, ps, h => by
    simp only [RepKV] at h
    obtain ⟨k, p, kr, pr, rfl, rfl, _, h1, h2, h3⟩ := h
    simp only [okKV, Bool.and_eq_true]
    exact ⟨⟨Rep.okD a _ h1, Rep.okD b _ h2⟩, RepKV.okD xs kr pr h3⟩
end
theorem Top.okD {H : Hp} (x : D) (v : V) (h : Top G F H x v) : okD x = true := by
  cases x with
  | tup xs => obtain ⟨a, vs, _, _, h2⟩ := h; simp only [DL.okD]; exact Reps.okD xs vs h2
  | lst xs => obtain ⟨a, vs, _, _, h2⟩ := h; simp only [DL.okD]; exact Reps.okD xs vs h2
  | dct kvs => obtain ⟨a, o, ks, ps, _, _, _, h2⟩ := h; simp only [DL.okD]; exact RepKV.okD kvs ks ps h2
  | str x => exact Rep.okD (G := G) (F := F) _ v h
  | _ => simp [DL.okD]
end
def oEq (neg : Bool) : Op2 := fun a b cs Q => match look a cs, look b cs with
  | some x, some y => isFl x = true ∧ isFl y = true ∧ min (py x).depth (py y).depth ≤ 60 ∧ Q (.d (.bl (neg ^^ PyData.eqv (py x) (py y)))) cs
  | _, _ => False
def oIn (neg : Bool) : Op2 := fun a b cs Q => match look a cs, look b cs with
  | some x, some (.lst ys) => isFl x = true ∧ isFls ys = true ∧ min (PyData.depthAll (pys ys)) (py x).depth ≤ 60 ∧ Q (.d (.bl (neg ^^ ((pys ys).any fun y => PyData.eqv y (py x))))) cs
  | some x, some (.tup ys) => isFl x = true ∧ isFls ys = true ∧ min (PyData.depthAll (pys ys)) (py x).depth ≤ 60 ∧ Q (.d (.bl (neg ^^ ((pys ys).any fun y => PyData.eqv y (py x))))) cs
  | _, _ => False
section
variable {X : Cx} {G : Gam}
theorem fin_same {pins : List (Addr × Obj)} {s : Shared} {σ : L2.St} {H : Hp} {Q : VK} {b : Bool} (I : Inv X pins σ H s) (h : Q (.bl b) H) : EP X pins σ Q (.bool b) s := ⟨.bl b, H, I, rfl, h⟩
theorem o_eq (hK : X.K = G.K) (hu : X.A.units + 64 < cLine) : OpR X (compareOp .Eq) (upR G (oEq false)) := by
  intro pins s σ H x y v u Q I rx ry h
  obtain ⟨F, ι, cs, wx, wy, Q0, S, r1, r2, o, hq⟩ := h
  unfold oEq at o
  split at o
  · rename_i a b l1 l2
    obtain ⟨p1, p2, p3, o⟩ := o
    have t1 := look_top S r1 l1
    have t2 := look_top S r2 l2
    obtain ⟨as, q1, _⟩ := Top.reads S.same I hK a _ _ t1 (isPy_of a p1) rx
    obtain ⟨bs, q2, _⟩ := Top.reads S.same I hK b _ _ t2 (isPy_of b p2) ry
    exact SeqAt.compareEq_reads q1 q2 (Top.lay a _ t1 p1) (Top.lay b _ t2 p2) (by omega) (fin_same I (hq _ _ _ _ _ _ .refl S rep_bl (by simpa using o)))
  · cases o
theorem o_ne (hK : X.K = G.K) (hu : X.A.units + 64 < cLine) : OpR X (compareOp .NotEq) (upR G (oEq true)) := by
  intro pins s σ H x y v u Q I rx ry h
  obtain ⟨F, ι, cs, wx, wy, Q0, S, r1, r2, o, hq⟩ := h
  unfold oEq at o
  split at o
  · rename_i a b l1 l2
    obtain ⟨p1, p2, p3, o⟩ := o
    have t1 := look_top S r1 l1
    have t2 := look_top S r2 l2
    obtain ⟨as, q1, _⟩ := Top.reads S.same I hK a _ _ t1 (isPy_of a p1) rx
    obtain ⟨bs, q2, _⟩ := Top.reads S.same I hK b _ _ t2 (isPy_of b p2) ry
    exact SeqAt.compareNe_reads q1 q2 (Top.lay a _ t1 p1) (Top.lay b _ t2 p2) (by omega) (fin_same I (hq _ _ _ _ _ _ .refl S rep_bl (by simpa using o)))
  · cases o
theorem top_lst_lay {F H : Hp} {ys : List D} {v : V} (h : Top G F H (.lst ys) v) (p : isFls ys = true) : PyData.canLayAll0 (pys ys) = true := by
  have := Top.lay (.lst ys) v h (by simp only [isFl]; exact p)
  simpa [py, PyData.canLay0] using this
theorem top_tup_lay {F H : Hp} {ys : List D} {v : V} (h : Top G F H (.tup ys) v) (p : isFls ys = true) : PyData.canLayAll0 (pys ys) = true := by
  have := Top.lay (.tup ys) v h (by simp only [isFl]; exact p)
  simpa [py, PyData.canLay0] using this
theorem o_inSeq (hK : X.K = G.K) (hu : X.A.units + 64 < cLine) : OpR X (compareOp .In) (upR G (oIn false)) := by
  intro pins s σ H x y v u Q I rx ry h
  obtain ⟨F, ι, cs, wx, wy, Q0, S, r1, r2, o, hq⟩ := h
  unfold oIn at o
  split at o
  · rename_i a ys l1 l2
    obtain ⟨p1, p2, p3, o⟩ := o
    have t1 := look_top S r1 l1
    have t2 := look_top S r2 l2
    obtain ⟨as, q1, _⟩ := Top.reads S.same I hK a _ _ t1 (isPy_of a p1) rx
    obtain ⟨bs, q2, _⟩ := Top.reads S.same I hK (.lst ys) _ _ t2 (isPy_of (.lst ys) (by simp only [isFl]; exact p2)) ry
    simp only [py] at q2
    exact SeqAt.in_list_reads q2 q1 (top_lst_lay t2 p2) (Top.lay a _ t1 p1) (by omega) (fin_same I (hq _ _ _ _ _ _ .refl S rep_bl (by simpa using o)))
  · rename_i a ys l1 l2
    obtain ⟨p1, p2, p3, o⟩ := o
    have t1 := look_top S r1 l1
    have t2 := look_top S r2 l2
    obtain ⟨as, q1, _⟩ := Top.reads S.same I hK a _ _ t1 (isPy_of a p1) rx
    obtain ⟨bs, q2, _⟩ := Top.reads S.same I hK (.tup ys) _ _ t2 (isPy_of (.tup ys) (by simp only [isFl]; exact p2)) ry
    simp only [py] at q2
    exact SeqAt.in_tuple_reads q2 q1 (top_tup_lay t2 p2) (Top.lay a _ t1 p1) (by omega) (fin_same I (hq _ _ _ _ _ _ .refl S rep_bl (by simpa using o)))
  · cases o
theorem o_notInSeq (hK : X.K = G.K) (hu : X.A.units + 64 < cLine) : OpR X (compareOp .NotIn) (upR G (oIn true)) := by
  intro pins s σ H x y v u Q I rx ry h
  obtain ⟨F, ι, cs, wx, wy, Q0, S, r1, r2, o, hq⟩ := h
  unfold oIn at o
  split at o
  · rename_i a ys l1 l2
    obtain ⟨p1, p2, p3, o⟩ := o
    have t1 := look_top S r1 l1
    have t2 := look_top S r2 l2
    obtain ⟨as, q1, _⟩ := Top.reads S.same I hK a _ _ t1 (isPy_of a p1) rx
    obtain ⟨bs, q2, _⟩ := Top.reads S.same I hK (.lst ys) _ _ t2 (isPy_of (.lst ys) (by simp only [isFl]; exact p2)) ry
    simp only [py] at q2
    exact SeqAt.notIn_list_reads q2 q1 (top_lst_lay t2 p2) (Top.lay a _ t1 p1) (by omega) (fin_same I (hq _ _ _ _ _ _ .refl S rep_bl (by simpa using o)))
  · rename_i a ys l1 l2
    obtain ⟨p1, p2, p3, o⟩ := o
    have t1 := look_top S r1 l1
    have t2 := look_top S r2 l2
    obtain ⟨as, q1, _⟩ := Top.reads S.same I hK a _ _ t1 (isPy_of a p1) rx
    obtain ⟨bs, q2, _⟩ := Top.reads S.same I hK (.tup ys) _ _ t2 (isPy_of (.tup ys) (by simp only [isFl]; exact p2)) ry
    simp only [py] at q2
    exact SeqAt.notIn_tuple_reads q2 q1 (top_tup_lay t2 p2) (Top.lay a _ t1 p1) (by omega) (fin_same I (hq _ _ _ _ _ _ .refl S rep_bl (by simpa using o)))
  · cases o
def oRepr : OpN := fun ws cs Q => match ws with
  | [w] => (match look w cs with
    | some x => isPy x = true ∧ (py x).showable = true ∧ (py x).depth ≤ 60 ∧ (py x).shown.length ≤ sizeLine ∧ Q (.d (.str (py x).shown)) cs
    | _ => False)
  | _ => False
theorem c_repr (hK : X.K = G.K) (hu : X.A.units + 64 < cLine) (hg : X.A.guards = some []) (hm : (X.base.get? sysModules).isSome = true) : CallR X (.builtin "repr") (upRN G oRepr) := by
  intro pins s σ H xs us Q I r h
  obtain ⟨F, ι, cs, ws, Q0, S, rw0, o, hq⟩ := h
  unfold oRepr at o
  split at o
  · obtain ⟨v, rfl, r0⟩ := pair1 rw0
    cases r with
    | @cons _ u _ us' ru rt =>
    cases rt
    split at o
    · rename_i x l
      obtain ⟨p1, p2, p3, p4, o⟩ := o
      have t1 := look_top S r0 l
      obtain ⟨as, q1, ap⟩ := Top.reads S.same I hK x _ _ t1 p1 ru
      have fin : ∀ (h' : Heap) (t : Tok) (tk : Nat), (∀ b o, s.heap.get? b = some o → h'.get? b = some o) → EP X pins σ Q (.str (py x).shown t) { s with heap := h', toks := tk } := fun h' t tk k =>
        ⟨.str (py x).shown, H, I.kept k, ⟨t, rfl⟩, hq _ _ _ _ _ _ .refl S (rep_str (strOk_shown x (Top.okD x _ t1))) o⟩
      cases x with
      | tup xs =>
        obtain ⟨a, _, rfl, _⟩ := t1
        cases (show u = Value.ref a from ru)
        exact repr_of_reads' q1 p2 (fun _ => ap hm) hg (by omega) (fun _ _ e => e) fin p4
      | lst xs =>
        obtain ⟨a, _, rfl, _⟩ := t1
        cases (show u = Value.ref a from ru)
        exact repr_of_reads' q1 p2 (fun _ => ap hm) hg (by omega) (fun _ _ e => e) fin p4
      | dct xs =>
        obtain ⟨a, _, _, _, rfl, _⟩ := t1
        cases (show u = Value.ref a from ru)
        exact repr_of_reads' q1 p2 (fun _ => ap hm) hg (by omega) (fun _ _ e => e) fin p4
      | non =>
        simp only [py] at q1
        cases q1
        exact PySem.P.repr_of_none (fin s.heap _ _ fun _ _ e => e)
      | bl b =>
        simp only [py] at q1
        cases q1
        exact PySem.P.repr_of_bool (fin s.heap _ _ fun _ _ e => e)
      | int i =>
        simp only [py] at q1
        cases q1
        simp only [py, PyData.showable, decide_eq_true_eq] at p2
        exact PySem.P.repr_of_int p2 (fin s.heap _ _ fun _ _ e => e)
      | str z =>
        simp only [py] at q1
        cases q1
        exact PySem.P.repr_of_str (fin s.heap _ _ fun _ _ e => e) p4
      | _ => simp [isPy] at p1
    · cases o
  · cases o
def tag : D → String
  | .non => "NoneType"
  | .bl _ => "bool"
  | .int _ => "int"
  | .str _ => "str"
  | .tup _ => "tuple"
  | .lst _ | .scr _ => "list"
  | .dct _ => "dict"
  | _ => ""
def tags : List String := ["NoneType", "bool", "int", "str", "tuple", "list", "dict"]
def isTy (x : D) (b : String) : Bool := tag x == b || (tag x == "bool" && b == "int")
theorem kitB_tab : ∀ a ∈ tags, ∀ b ∈ tags, kitB a b = some (a == b || (a == "bool" && b == "int")) := by decide +kernel
def isTag : D → Bool
  | .obj _ _ | .oth _ => false
  | _ => true
theorem tag_in {x : D} (h : isTag x = true) : tag x ∈ tags := by
  cases x <;> first | (simp [isTag] at h; done) | simp [tag, tags]
theorem Top.kit {F H : Hp} {pins : List (Addr × Obj)} {σ : L2.St} {s : Shared} (I : Inv X pins σ H s) (hK : X.K = G.K) {x : D} {v : V} {u : Value} (h : Top G F H x v) (ht : isTag x = true) (r : RelV v u) :
    ∃ P : Heap → Prop, PySem.W.KitX X.K u (.type (tag x)) P ∧ P s.heap ∧ u ≠ .builtin "__main__.__loader__#opaque" := by
  cases x with
  | non =>
    have h : Rep G F .non v := h
    simp only [Rep] at h; subst h
    cases (show u = Value.none from r); exact ⟨_, PySem.W.kitx_none, True.intro, fun z => nomatch z⟩
  | bl b =>
    have h : Rep G F (.bl b) v := h
    simp only [Rep] at h; subst h
    cases (show u = Value.bool b from r); exact ⟨_, PySem.W.kitx_bool, True.intro, fun z => nomatch z⟩
  | int i =>
    have h : Rep G F (.int i) v := h
    simp only [Rep] at h; subst h
    obtain ⟨t, q⟩ := (show ∃ t, u = Value.int i t from r); cases q; exact ⟨_, PySem.W.kitx_int, True.intro, fun z => nomatch z⟩
  | str y =>
    have h : Rep G F (.str y) v := h
    simp only [Rep] at h; obtain ⟨rfl, _⟩ := h
    obtain ⟨t, q⟩ := (show ∃ t, u = Value.str y t from r); cases q; exact ⟨_, PySem.W.kitx_str, True.intro, fun z => nomatch z⟩
  | tup xs =>
    obtain ⟨a, vs, rfl, h1, h2⟩ := h
    cases (show u = Value.ref a from r)
    obtain ⟨its, rv, ⟨o, ho, hc, n, hd⟩, _⟩ := I.tuple (hK ▸ h1.sq)
    exact ⟨_, PySem.W.kitx_tuple, ⟨o, ho, hc⟩, fun z => nomatch z⟩
  | lst xs =>
    obtain ⟨a, vs, rfl, h1, h2⟩ := h
    cases (show u = Value.ref a from r)
    obtain ⟨its, rv, ⟨o, n, ho, hc, _, hd⟩, _⟩ := I.list (SqL.of h1)
    exact ⟨_, PySem.W.kitx_list, ⟨o, ho, hc⟩, fun z => nomatch z⟩
  | scr xs =>
    obtain ⟨a, rfl, h1⟩ := h
    cases (show u = Value.ref a from r)
    obtain ⟨its, rv, ⟨o, n, ho, hc, _, hd⟩, _⟩ := I.list (hK ▸ h1)
    exact ⟨_, PySem.W.kitx_list, ⟨o, ho, hc⟩, fun z => nomatch z⟩
  | dct kvs =>
    obtain ⟨a, o, ks, ps, rfl, h1, h2, h3⟩ := h
    cases (show u = Value.ref a from r)
    exact ⟨_, PySem.W.kitx_dict, ⟨o, DcAt.get I hK h1, h2.ex.1⟩, fun z => nomatch z⟩
  | _ => simp [isTag] at ht
def oIsi : OpN := fun ws cs Q => match ws with
  | [w, .d (.oth (.ty b))] => (match look w cs with
    | some x => isTag x = true ∧ b ∈ tags ∧ Q (.d (.bl (isTy x b))) cs
    | _ => False)
  | _ => False
theorem c_isi (hK : X.K = G.K) : CallR X (.builtin "isinstance") (upRN G oIsi) := by
  intro pins s σ H xs us Q I r h
  obtain ⟨F, ι, cs, ws, Q0, S, rw0, o, hq⟩ := h
  unfold oIsi at o
  split at o
  · rename_i w b
    obtain ⟨v, u, rfl, r0, r1⟩ := pair2 rw0
    obtain ⟨u1, u2, rfl, q1, q2⟩ := vals2 r
    split at o
    · rename_i x l
      obtain ⟨p1, p2, o⟩ := o
      have r1 : Rep G F (.oth (.ty b)) u := r1
      simp only [Rep] at r1
      subst r1
      have q2 : u2 = .type b := q2
      subst q2
      obtain ⟨P, Z, p, hx⟩ := Top.kit I hK (look_top S r0 l) p1 q1
      refine PySem.W.kia_one Z I.kIn p (kit_ty (kitB_tab _ (tag_in p1) _ p2)) hx fun tk => ⟨.bl _, H, I.tok tk, rfl, hq _ _ _ _ _ _ .refl S rep_bl o⟩
    · cases o
  · cases o
end
end DL
namespace DL
open PySem PySem.Spec L2
def oIx : Op2 := fun a b cs Q => match look b cs with
  | some (.int i) => (match look a cs with
    | some (.lst xs) => (match atI xs i with
      | some x => Q (.d x) cs
      | none => False)
    | some (.tup xs) => (match atI xs i with
      | some x => Q (.d x) cs
      | none => False)
    | some (.scr xs) => (match atI xs i with
      | some x => Q (.d (.int x)) cs
      | none => False)
    | some (.str z) => z.length ≤ sizeLine ∧ (match atI z.cps.toList i with
      | some c => Q (.d (.str ⟨#[c]⟩)) cs
      | none => False)
    | _ => False)
  | _ => False
section
variable {X : Cx} {G : Gam} {F : Hp}
theorem Reps.len {xs : List D} {vs : List V} (h : Reps G F xs vs) : xs.length = vs.length := h.length.symm
theorem Reps.at_ : ∀ {xs : List D} {vs : List V} {i : Nat} {x : D}, Reps G F xs vs → xs[i]? = some x → ∃ v, vs[i]? = some v ∧ Rep G F x v
  | [], _, i, x, _, e => by simp at e
  | y :: ys, vs, i, x, h, e => by
    simp only [Reps] at h
    obtain ⟨v, r, rfl, h1, h2⟩ := h
    cases i with
    | zero => simp at e; subst e; exact ⟨v, rfl, h1⟩
    | succ i => simpa using Reps.at_ h2 (by simpa using e)
theorem atI_rep {xs : List D} {vs : List V} {i : Int} {x : D} (h : Reps G F xs vs) (e : atI xs i = some x) : ∃ v, atI vs i = some v ∧ Rep G F x v := by
  unfold atI at e ⊢
  rw [← h.len]
  cases q : ixN xs.length i with
  | none => rw [q] at e; cases e
  | some j =>
    rw [q] at e
    exact Reps.at_ h e
theorem x_ix (hK : X.K = G.K) : IxR X (upR G oIx) := IxR.imp ix_seq fun x y H Q q => by
  obtain ⟨F, ι, cs, wx, wy, Q0, S, r1, r2, o, hq⟩ := q
  unfold oIx at o
  split at o
  · rename_i i l2
    have e2 := look_int S r2 l2
    subst e2
    split at o
    · rename_i xs l1
      obtain ⟨a, vs, rfl, h1, p1⟩ := look_lst S r1 l1
      split at o
      · rename_i x e
        obtain ⟨v, e1, rv⟩ := atI_rep p1 e
        exact .inl ⟨a, vs, i, v, rfl, rfl, SqL.of h1, e1, hq _ _ _ (.d x) _ _ .refl S rv o⟩
      · cases o
    · rename_i xs l1
      obtain ⟨a, vs, rfl, h1, _, p1⟩ := look_tup' S r1 l1
      split at o
      · rename_i x e
        obtain ⟨v, e1, rv⟩ := atI_rep p1 e
        exact .inr (.inl ⟨a, vs, i, v, rfl, rfl, hK ▸ h1, e1, hq _ _ _ (.d x) _ _ .refl S rv o⟩)
      · cases o
    · rename_i xs l1
      obtain ⟨a, rfl, h1⟩ := look_top S r1 l1
      split at o
      · rename_i x e
        refine .inl ⟨a, _, i, .int x, rfl, rfl, hK ▸ h1, ?_, hq _ _ _ _ _ _ .refl S rep_int o⟩
        unfold atI at e ⊢
        rw [List.length_map]
        cases q : ixN xs.length i with
        | none => rw [q] at e; cases e
        | some j =>
          rw [q] at e
          have e : xs[j]? = some x := e
          show (xs.map V.int)[j]? = _
          rw [List.getElem?_map, e]
          rfl
      · cases o
    · rename_i z l1
      obtain ⟨rfl, k⟩ := look_str S r1 l1
      obtain ⟨o1, o⟩ := o
      split at o
      · rename_i c e
        refine .inr (.inr ⟨z, i, c, rfl, rfl, o1, e, hq _ _ _ _ _ _ .refl S (rep_str ?_) o⟩)
        refine strOk_of fun d hd => ?_
        simp at hd
        subst hd
        unfold atI at e
        cases q : ixN z.cps.toList.length i with
        | none => rw [q] at e; cases e
        | some j =>
          rw [q] at e
          exact strOk_mem k _ (List.mem_of_getElem? e)
      · cases o
    · cases o
  · cases o
end
abbrev DP := Nv → Cs → (Option Int → Cs → Prop) → DX → Prop
def upO (G : Gam) (Wx : WX) (t : DP) : TO := fun σ H Q => ∃ F ι env cs Q0 E0, Sim G F ι cs H ∧ RepEnv G F ι env σ ∧ t env cs Q0 E0 ∧
  (∀ F' ι' cs' b H', Ext F F' ι ι' → Sim G F' ι' cs' H' → Q0 b cs' → Q b H') ∧
  ∀ F' ι' cs' x cls od H', Ext F F' ι ι' → Sim G F' ι' cs' H' → RepX G F' x cls od H' → E0 x cs' → Wx cls od σ H'
def DPo (X : Cx) (G : Gam) (Wx : WX) (e : Option Expr) (t : DP) : Prop := PO X e (upO G Wx t)
def dNoP : DP := fun _ cs Q _ => Q none cs
def dP (t : DT) : DP := fun env cs Q E => t env cs (fun w cs1 => match w with
  | .d (.int i) => Q (some i) cs1
  | _ => False) E
theorem PO.imp {X : Cx} {e : Option Expr} {t u : TO} (h : PO X e t) (f : ∀ σ H Q, u σ H Q → t σ H Q) : PO X e u := ⟨fun pins s σ H Q I q => h.run pins s σ H Q I (f σ H Q q)⟩
def cutD {α : Type} (xs : List α) (lo hi : Option Int) : List α := (xs.drop (HT.sIx xs.length 0 lo)).take (HT.sIx xs.length xs.length hi - HT.sIx xs.length 0 lo)
def oSl (w : W) (lo hi : Option Int) (cs : Cs) (Q : DQ) : Prop := match look w cs with
  | some (.str z) => z.length ≤ sizeLine ∧ Q (.d (.str (cutS z lo hi))) cs
  | some (.tup xs) => Q (.d (.tup (cutD xs lo hi))) cs
  | some (.lst xs) => Q (.c cs.length) (cs ++ [.lst (cutD xs lo hi)])
  | _ => False
def dSl (te : DT) (tl th : DP) : DT := fun env cs Q E => te env cs (fun w cs1 => tl env cs1 (fun l cs2 => th env cs2 (fun h cs3 => oSl w l h cs3 Q) E) E) E
section
variable {X : Cx} {G : Gam} {Wx : WX} {F : Hp}
theorem p_none : DPo X G Wx none dNoP := PO.imp po_none fun σ H Q h => by
  obtain ⟨F, ι, env, cs, Q0, E0, S, R, t, hq, hE⟩ := h
  exact hq F ι cs none H .refl S t
theorem p_some {e : Expr} {te : DT} (h : DE X G Wx e te) : DPo X G Wx (some e) (dP te) := PO.imp (po_some h) fun σ H Q h => by
  obtain ⟨F, ι, env, cs, Q0, E0, S, R, t, hq, hE⟩ := h
  refine ⟨F, ι, env, cs, _, E0, S, R, t, fun F1 ι1 cs1 w v H1 e1 S1 r1 q1 => ?_, hE⟩
  split at q1
  · rename_i i
    have r1 : Rep G F1 (.int i) v := r1
    simp only [Rep] at r1
    exact ⟨i, r1, hq F1 ι1 cs1 _ H1 e1 S1 q1⟩
  · cases q1
theorem Reps.drop : ∀ {xs : List D} {vs : List V} (n : Nat), Reps G F xs vs → Reps G F (xs.drop n) (vs.drop n)
  | xs, vs, 0, h => by simpa using h
  | [], vs, n + 1, h => by simp only [Reps] at h; subst h; simp [Reps]
  | x :: xs, vs, n + 1, h => by
    simp only [Reps] at h
    obtain ⟨v, r, rfl, h1, h2⟩ := h
    simpa using Reps.drop n h2
theorem Reps.take : ∀ {xs : List D} {vs : List V} (n : Nat), Reps G F xs vs → Reps G F (xs.take n) (vs.take n)
  | xs, vs, 0, h => by simp [Reps]
  | [], vs, n + 1, h => by simp only [Reps] at h; subst h; simp [Reps]
  | x :: xs, vs, n + 1, h => by
    simp only [Reps] at h
    obtain ⟨v, r, rfl, h1, h2⟩ := h
    simp only [List.take_succ_cons, Reps]
    exact ⟨v, _, rfl, h1, Reps.take n h2⟩
theorem Reps.cut {xs : List D} {vs : List V} {lo hi : Option Int} (h : Reps G F xs vs) : Reps G F (cutD xs lo hi) (cutV vs lo hi) := by
  unfold cutD cutV
  rw [← h.len]
  exact (h.drop _).take _
theorem strOk_cut {z : Str} {lo hi : Option Int} (h : PyData.strOk z = true) : PyData.strOk (cutS z lo hi) = true := strOk_of fun c hc => by
  unfold cutS at hc
  simp only at hc
  exact strOk_mem h c (List.mem_of_mem_drop (List.mem_of_mem_take (by simpa using hc)))
def upSl (G : Gam) : V → Option Int → Option Int → Hp → VK → Prop := fun x lo hi H Q => ∃ F ι cs w Q0, Sim G F ι cs H ∧ RepW G F ι w x ∧ oSl w lo hi cs Q0 ∧
  ∀ F' ι' cs' w v H', Ext F F' ι ι' → Sim G F' ι' cs' H' → RepW G F' ι' w v → Q0 w cs' → Q v H'
theorem SlR.imp {r r' : V → Option Int → Option Int → Hp → VK → Prop} (h : SlR X r) (i : ∀ x lo hi H Q, r' x lo hi H Q → r x lo hi H Q) : SlR X r' := fun pins s σ H x v vl vu lo hi sl Q I rx hs pl pu q =>
  h pins s σ H x v vl vu lo hi sl Q I rx hs pl pu (i _ _ _ _ _ q)
theorem x_slT (hK : X.K = G.K) {pins : List (Addr × Obj)} {s : Shared} {σ : L2.St} {H : Hp} {x : V} {v vl vu : Value} {lo hi : Option Int} {sl : Addr} {Q : VK} {ι : Pl} {cs : Cs} {w : W} {Q0 : DQ} {xs : List D} (I : Inv X pins σ H s) (rx : RelV x v) (hs : s.heap.IsSliceOf sl vl vu .none)
    (pl : IsPart vl lo) (pu : IsPart vu hi) (S : Sim G F ι cs H) (r : RepW G F ι w x) (l : look w cs = some (.tup xs)) (o : Q0 (.d (.tup (cutD xs lo hi))) cs)
    (hq : ∀ F' ι' cs' w v H', Ext F F' ι ι' → Sim G F' ι' cs' H' → RepW G F' ι' w v → Q0 w cs' → Q v H') :
    ∃ T id, typeLookup (.type T) "__getitem__" = pure (some (.builtin id)) ∧ s.TypeIs v T ∧ wpAny (model X.prog X.w) X.A (getItem v (.ref sl)) (EP X pins σ Q) X.xe s := by
  obtain ⟨a, vs, rfl, f1, p1⟩ := look_tupP S r l
  cases (show v = Value.ref a from rx)
  obtain ⟨its, rv, ht, hz⟩ := I.tuple (hK ▸ SqT.mono S.same f1.sq)
  have n1 : its.toArray.size = xs.length := by rw [List.size_toArray, ← rv.length, p1.len]
  refine ⟨"tuple", _, PyProof.Rows.slot_tuple_getitem.lookup, ht.typeIs, ?_⟩
  by_cases hw : HT.sIx xs.length 0 lo = 0 ∧ HT.sIx xs.length xs.length hi = xs.length
  · have hc : cutD xs lo hi = xs := by
      unfold cutD
      rw [hw.1, hw.2]
      simp
    rw [hc] at o
    exact getItem_tuple_whole ht hs pl pu (by rw [n1]; exact hw) ⟨.ref a, H, I, rfl, hq _ _ _ (.d (.tup xs)) _ _ .refl S (by simp only [RepW, Rep]; exact ⟨a, vs, rfl, f1, p1⟩) o⟩
  · have hv : cutV vs lo hi = (vs.drop (HT.sIx xs.length 0 lo)).take (HT.sIx xs.length xs.length hi - HT.sIx xs.length 0 lo) := by unfold cutV; rw [← p1.len]
    have rc : Vals (cutV vs lo hi) ((its.drop (HT.sIx xs.length 0 lo)).take (HT.sIx xs.length xs.length hi - HT.sIx xs.length 0 lo)) := by
      rw [hv]; exact (rv.drop _).take _
    have I2 := tup_laid (tk := s.toks) I rc (Nat.le_trans (cutV_length vs lo hi) hz)
    obtain ⟨e3, S3⟩ := S.fixed (o := .frz (tupO ((its.drop (HT.sIx xs.length 0 lo)).take (HT.sIx xs.length xs.length hi - HT.sIx xs.length 0 lo))) (.tup (cutV vs lo hi))) (I.hok.fresh (Nat.le_refl s.heap.objs.size))
    refine HT.getItem_tuple_cut ht hs pl pu (by rw [n1]; exact hw) ?_ (by rw [List.size_toArray, ← rv.length]; exact hz)
    rw [n1]
    exact ⟨.ref s.heap.objs.size, _, I2, rfl, hq _ _ _ (.d (.tup (cutD xs lo hi))) _ _ e3 S3 (tup_rep upd_same rfl (Reps.mono e3.same _ _ p1.cut)) o⟩
theorem x_sl (hK : X.K = G.K) : SlR X (upSl G) := fun pins s σ H x v vl vu lo hi sl Q I rx hs pl pu q => by
  obtain ⟨F, ι, cs, w, Q0, S, r, o, hq⟩ := q
  unfold oSl at o
  split at o
  · rename_i z l
    obtain ⟨rfl, k⟩ := look_str S r l
    exact sl_str pins s σ H _ v vl vu lo hi sl Q I rx hs pl pu ⟨z, rfl, o.1, hq _ _ _ _ _ _ .refl S (rep_str (strOk_cut k)) o.2⟩
  · rename_i xs l
    exact x_slT hK I rx hs pl pu S r l o hq
  · rename_i xs l
    obtain ⟨a, vs, rfl, h1, p1⟩ := look_lst S r l
    refine sl_list pins s σ H _ v vl vu lo hi sl Q I rx hs pl pu ⟨a, vs, rfl, SqL.of h1, fun p hp => ?_⟩
    obtain ⟨e3, S3⟩ := S.owned (o := .lst (cutV vs lo hi)) (x := .lst (cutD xs lo hi)) hp fun ι' => ⟨S.dead hp, _, upd_same, p1.cut⟩
    exact hq _ _ _ (.c cs.length) _ _ e3 S3 ⟨p, by rw [← S.len]; simp [Pl.add], rfl⟩ o
  · cases o
theorem e_slice {e : Expr} {lo hi : Option Expr} {te : DT} {tl th : DP} {pos p2 : Pos} (hK : X.K = G.K) (he : DE X G Wx e te) (hl : DPo X G Wx lo tl) (hh : DPo X G Wx hi th) : DE X G Wx (.Subscript e (.Slice lo hi none p2) pos) (dSl te tl th) :=
  PE.imp (pe_slice (x_sl hK) he hl hh) fun σ H Q h => by
    obtain ⟨F, ι, env, cs, Q0, E0, S, R, t, hq, hE⟩ := h
    refine ⟨F, ι, env, cs, _, E0, S, R, t, fun F1 ι1 cs1 w v H1 e1 S1 r1 q1 => ?_, hE⟩
    refine ⟨F1, ι1, env, cs1, _, E0, S1, R.mono e1, q1, fun F2 ι2 cs2 l H2 e2 S2 q2 => ?_, fun F2 ι2 cs2 z cls od H2 e2 => hE F2 ι2 cs2 z cls od H2 (e1.trans e2)⟩
    refine ⟨F2, ι2, env, cs2, _, E0, S2, R.mono (e1.trans e2), q2, fun F3 ι3 cs3 l' H3 e3 S3 q3 => ?_, fun F3 ι3 cs3 z cls od H3 e3 => hE F3 ι3 cs3 z cls od H3 (e1.trans (e2.trans e3))⟩
    exact ⟨F3, ι3, cs3, w, Q0, S3, r1.mono (e2.trans e3), q3, fun F4 ι4 cs4 w' v' H4 e4 => hq F4 ι4 cs4 w' v' H4 (e1.trans (e2.trans (e3.trans e4)))⟩
end
abbrev OSet := W → W → W → Cs → (Cs → Prop) → Prop
def upSet (G : Gam) (o : OSet) : TSet := fun x i v H Q => ∃ F ι cs wx wi wv Q0, Sim G F ι cs H ∧ RepW G F ι wx x ∧ RepW G F ι wi i ∧ RepW G F ι wv v ∧ o wx wi wv cs Q0 ∧
  ∀ F' ι' cs' H', Ext F F' ι ι' → Sim G F' ι' cs' H' → Q0 cs' → Q H'
theorem PSet.imp {X : Cx} {t u : TSet} (h : PSet X t) (f : ∀ o i v H Q, u o i v H Q → t o i v H Q) : PSet X u := fun pins s σ H o i v ov iv w Q I r1 r2 r3 q => h pins s σ H o i v ov iv w Q I r1 r2 r3 (f _ _ _ _ _ q)
def oSetL : OSet := fun o i v cs Q => fixW v cs fun x cs1 => match o, look i cs1 with
  | .c n, some (.int k) => (match cs1[n]? with
    | some (.lst xs) => (match ixN xs.length k with
      | some j => Q (cs1.set n (.lst (xs.set j x)))
      | none => False)
    | _ => False)
  | _, _ => False
def dgSub (to ti : DT) (o : OSet) : DG := fun w env cs Q => to env cs (fun x cs1 => ti env cs1 (fun i cs2 => o x i w cs2 (Q env)) fun _ _ => False) fun _ _ => False
section
variable {X : Cx} {G : Gam} {Wx : WX} {F : Hp}
theorem Reps.set : ∀ {xs : List D} {vs : List V} {x : D} {v : V} (j : Nat), Reps G F xs vs → Rep G F x v → Reps G F (xs.set j x) (vs.set j v)
  | [], vs, x, v, j, h, r => by simp only [Reps] at h; subst h; simp [Reps]
  | y :: ys, vs, x, v, j, h, r => by
    simp only [Reps] at h
    obtain ⟨u, q, rfl, h1, h2⟩ := h
    cases j with
    | zero => simp only [List.set_cons_zero, Reps]; exact ⟨_, _, rfl, r, h2⟩
    | succ j => simp only [List.set_cons_succ, Reps]; exact ⟨_, _, rfl, h1, Reps.set j h2 r⟩
theorem st_list : PSet X (upSet G oSetL) := PSet.imp set_list fun o i v H Q q => by
  obtain ⟨F, ι, cs, wx, wi, wv, Q0, S, r1, r2, r3, o, hq⟩ := q
  obtain ⟨F1, cs1, x, e1, S1, rx, o⟩ := fixW_ok S r3 o
  split at o
  · rename_i n k l _
    have e2 := look_int S1 (r2.mono e1) l
    subst e2
    obtain ⟨a, ha, rfl⟩ := r1.mono e1
    split at o
    · rename_i xs lx
      split at o
      · rename_i j ej
        obtain ⟨a', h1, h2⟩ := S1.cell n _ lx
        rw [ha] at h1; cases h1
        obtain ⟨h3, vs, h4, h5⟩ := h2
        refine ⟨a, vs, k, j, rfl, rfl, h4, by rw [← h5.len]; exact ej, ?_⟩
        exact hq F1 ι _ _ e1 (S1.write (x := .lst (xs.set j x)) ha lx h3 ⟨h3, _, upd_same, h5.set j rx⟩) o
      · cases o
    · cases o
  · cases o
theorem g_sub {vs : List Nat} {o i : Expr} {to ti : DT} {os : OSet} {pos : Pos} (ho : DE X G WxF o to) (hi : DE X G WxF i ti) (hs : PSet X (upSet G os))
    (ha : ∀ v, assign (.Subscript o i pos) X.env v = (do
      let ov ← holding [v] (eval o X.env)
      let iv ← holding [v, ov] (eval i X.env)
      standAt pos
      holding [v, ov, iv] (setItem ov iv v)
      release [v, ov, iv] []) := by intro _; rfl) : DGt X G vs (.Subscript o i pos) (dgSub to ti os) :=
  PG.imp (pg_sub ho hi hs ha) fun v σ H Q h => by
    obtain ⟨F, ι, env, cs, w, Q0, S, R, r, t, hq⟩ := h
    refine ⟨F, ι, env, cs, _, _, S, R, t, fun F1 ι1 cs1 x xv H1 e1 S1 r1 q1 => ?_, fun _ _ _ _ _ _ _ _ _ _ z => z.elim⟩
    refine ⟨F1, ι1, env, cs1, _, _, S1, R.mono e1, q1, fun F2 ι2 cs2 i iv H2 e2 S2 r2 q2 => ?_, fun _ _ _ _ _ _ _ _ _ _ z => z.elim⟩
    refine ⟨F2, ι2, cs2, x, i, w, _, S2, r1.mono e2, r2, r.mono (e1.trans e2), q2, fun F3 ι3 cs3 H3 e3 S3 q3 => ?_⟩
    exact hq F3 ι3 cs3 env σ H3 (e1.trans (e2.trans e3)) S3 (R.mono (e1.trans (e2.trans e3))) rfl q3
end
end DL
namespace DL
open PySem PySem.Spec L2
abbrev OpM := W → List W → Cs → DQ → Prop
/-- of what methods are called here -/
def hasM : D → Bool
  | .str _ | .int _ | .tup _ | .lst _ | .scr _ | .dct _ => true
  | _ => false
def isT (T : String) (w : W) (cs : Cs) : Prop := match look w cs with
  | some x => hasM x = true ∧ tag x = T
  | none => False
/-- o.m(..), o of the built-in type T -/
def dBM (T : String) (o : OpM) (to : DT) (t : DA) : DT := fun env cs Q E => to env cs (fun w cs1 => isT T w cs1 ∧ t env cs1 (fun ws cs2 => o w ws cs2 Q) E) E
def upM (G : Gam) (o : OpM) : V → List V → Hp → VK → Prop := fun x xs H Q => ∃ F ι cs w ws Q0, Sim G F ι cs H ∧ RepW G F ι w x ∧ Paired (RepW G F ι) ws xs ∧ o w ws cs Q0 ∧
  ∀ F' ι' cs' w v H', Ext F F' ι ι' → Sim G F' ι' cs' H' → RepW G F' ι' w v → Q0 w cs' → Q v H'
theorem MtR.imp {X : Cx} {id : String} {r r' : V → List V → Hp → VK → Prop} (h : MtR X id r) (i : ∀ x xs H Q, r' x xs H Q → r x xs H Q) : MtR X id r' := fun pins s σ H x xs v us Q I rx rs q => h pins s σ H x xs v us Q I rx rs (i _ _ _ _ q)
section
variable {X : Cx} {G : Gam} {Wx : WX}
theorem isT_ok {F H : Hp} {ι : Pl} {cs : Cs} {pins : List (Addr × Obj)} {σ : L2.St} {s : Shared} {T : String} {w : W} {v : V} {u : Value} (I : Inv X pins σ H s) (hK : X.K = G.K) (S : Sim G F ι cs H) (r : RepW G F ι w v) (h : isT T w cs) (ru : RelV v u) :
    s.TypeIs u T ∧ ∀ a, u = .ref a → ∃ ob, s.heap.get? a = some ob ∧ ob.dict = none := by
  unfold isT at h
  split at h
  · rename_i x l
    obtain ⟨h1, rfl⟩ := h
    have t := look_top S r l
    cases x with
    | tup xs =>
      obtain ⟨a, vs, rfl, ⟨ob, hd, h1⟩, h2⟩ := t
      cases (show u = Value.ref a from ru)
      have hg : s.heap.get? a = some ob := by
        rcases h1 with h1 | ⟨_, _, h1, _⟩
        · exact (I.hok a _ h1).1
        · exact (hK ▸ I.kIn) a ob h1
      have hc : ob.cls = .type "tuple" := by
        rcases h1 with h1 | ⟨_, _, _, h1, _⟩
        · obtain ⟨_, _, its, _, ⟨o, e, c, _⟩⟩ := I.hok a _ h1
          rw [hg] at e; cases e
          exact c
        · exact h1
      exact ⟨⟨ob, hg, hc⟩, fun b e => by cases e; exact ⟨ob, hg, hd⟩⟩
    | lst xs =>
      obtain ⟨a, vs, rfl, h1, h2⟩ := t
      cases (show u = Value.ref a from ru)
      obtain ⟨its, rv, pl, _⟩ := I.list (SqL.of h1)
      refine ⟨pl.isList.typeIs, fun b e => ?_⟩
      cases e
      obtain ⟨o, n, e, c, hd, _⟩ := pl
      exact ⟨o, e, hd⟩
    | scr xs =>
      obtain ⟨a, rfl, h1⟩ := t
      cases (show u = Value.ref a from ru)
      obtain ⟨its, rv, pl, _⟩ := I.list (hK ▸ h1)
      refine ⟨pl.isList.typeIs, fun b e => ?_⟩
      cases e
      obtain ⟨o, n, e, c, hd, _⟩ := pl
      exact ⟨o, e, hd⟩
    | dct kvs =>
      obtain ⟨a, o, ks, ps, rfl, h1, h2, h3⟩ := t
      cases (show u = Value.ref a from ru)
      have hg := DcAt.get I hK h1
      exact ⟨⟨o, hg, h2.ex.1⟩, fun b e => by cases e; exact ⟨o, hg, h2.ex.2.1⟩⟩
    | str z =>
      have t : Rep G F (.str z) v := t
      simp only [Rep] at t
      obtain ⟨rfl, _⟩ := t
      obtain ⟨k, rfl⟩ := ru
      exact ⟨typeIs_str s z k, fun _ e => nomatch e⟩
    | int i =>
      have t : Rep G F (.int i) v := t
      simp only [Rep] at t
      subst t
      obtain ⟨k, rfl⟩ := ru
      exact ⟨typeIs_int s i k, fun _ e => nomatch e⟩
    | _ => cases h1
  · cases h
theorem bm_up {T : String} {o : OpM} {to : DT} {t : DA} {σ : L2.St} {H : Hp} {Q : VK} (h : upE G Wx (dBM T o to t) σ H Q) : upE G Wx to σ H fun x H1 => (∃ F ι cs w, Sim G F ι cs H1 ∧ RepW G F ι w x ∧ isT T w cs) ∧ upA G Wx t σ H1 fun xs H2 => upM G o x xs H2 Q := by
  obtain ⟨F, ι, env, cs, Q0, E0, S, R, t, hq, hE⟩ := h
  refine ⟨F, ι, env, cs, _, E0, S, R, t, fun F1 ι1 cs1 w v H1 e1 S1 r1 q1 => ⟨⟨F1, ι1, cs1, w, S1, r1, q1.1⟩, ?_⟩, hE⟩
  refine ⟨F1, ι1, env, cs1, _, E0, S1, R.mono e1, q1.2, fun F2 ι2 cs2 ws vs H2 e2 S2 r2 q2 => ?_, fun F2 ι2 cs2 z cls od H2 e2 => hE F2 ι2 cs2 z cls od H2 (e1.trans e2)⟩
  exact ⟨F2, ι2, cs2, w, ws, Q0, S2, r1.mono e2, r2, q2, fun F3 ι3 cs3 w' v' H3 e3 => hq F3 ι3 cs3 w' v' H3 (e1.trans (e2.trans e3))⟩
variable {o e : Expr} {es : List Expr} {to : DT} {t : DA} {name : Str} {apos cpos : Pos} {T id : String} {om : OpM}
theorem e_bm (pa : PlainAttrs T) (slot : Slot T name id) (hty : typeOf (.builtin id) = pure (.type "method_descriptor")) (hK : X.K = G.K) (hm : MtR X id (upM G om)) (ho : DE X G Wx o to) (ha : DAs X G Wx (e :: es) t)
    (hbase : attributeBase o name X.env (eval o X.env) = eval o X.env := by rfl)
    (hfew : ((backTo cpos (starEach (e :: es) X.env)).all (fun x => !x.1) && (backToKw cpos (keywordEach [] X.env)).all (fun x => x.1.isSome)
      && decide ((e :: es).length + ([] : List Keyword).length + (if ([] : List Keyword).isEmpty then 0 else 1) < 30)) = true := by rfl)
    (hline : (apos.endLine == cpos.line) = true := by rfl) (hs : starEach (e :: es) X.env = (false, eval e X.env) :: starEach es X.env := by rfl) (hplain : (backTo cpos (starEach es X.env)).any (·.1) = false := by rfl) :
    DE X G Wx (.Call (.Attribute o name apos) (e :: es) [] cpos) (dBM T om to t) := by
  refine ⟨fun pins s σ H Q I h => ?_⟩
  refine wpAny_Call_method_late hbase hfew hline rfl (thn (ho.run pins s σ H _ I (bm_up h)) fun v s1 ⟨x, H1, I1, r1, ⟨F, ι, cs, w, S, rw0, ty⟩, q1⟩ => ?_)
  obtain ⟨h1, h2⟩ := isT_ok I1 hK S rw0 ty r1
  refine ⟨T, id, pa, slot, hty, h1, h2, ?_⟩
  have hA := ha.run cpos pins s1 σ H1 _ I1 q1
  rw [hs] at hA ⊢
  refine Calls.callWith_builtin (by show (false || (backTo cpos (starEach es X.env)).any (·.1)) = false; rw [hplain] <;> rfl) (Calls.evalArgs_plain ?_)
  exact thn hA fun us s2 ⟨vs, H2, I2, r2, q2⟩ => hm pins s2 σ H2 x vs v us Q I2 r1 r2 q2
end
def oAppend : OpM := fun w ws cs Q => match w, ws with
  | .c i, [u] => fixW u cs fun x cs1 => (match cs1[i]? with
    | some (.lst xs) => xs.length < sizeLine ∧ Q (.d .non) (cs1.set i (.lst (xs ++ [x])))
    | _ => False)
  | _, _ => False
def oExtend : OpM := fun w ws cs Q => match w, ws with
  | .c i, [u] => (match cs[i]?, look u cs with
    | some (.lst xs), some (.lst ys) => xs.length + ys.length ≤ sizeLine ∧ Q (.d .non) (cs.set i (.lst (xs ++ ys)))
    | _, _ => False)
  | _, _ => False
section
variable {X : Cx} {G : Gam} {F H : Hp} {ι : Pl} {cs : Cs}
theorem rep_non : RepW G F ι (.d .non) .non := by simp only [RepW, Rep]
theorem cell_lst (S : Sim G F ι cs H) {i : Nat} {v : V} (r : RepW G F ι (.c i) v) {xs : List D} (h : cs[i]? = some (.lst xs)) : ∃ a vs, v = .ref a ∧ ι.l[i]? = some a ∧ F a = none ∧ H a = some (.lst vs) ∧ Reps G F xs vs := by
  obtain ⟨a, ha, rfl⟩ := r
  obtain ⟨a', h1, h2, vs, h3, h4⟩ := S.cell i _ h
  rw [ha] at h1; cases h1
  exact ⟨a, vs, rfl, ha, h2, h3, h4⟩
theorem Reps.rev : ∀ {xs : List D} {vs : List V}, Reps G F xs vs → Reps G F xs.reverse vs.reverse
  | [], vs, h => by simp only [Reps] at h; subst h; simp [Reps]
  | x :: xs, vs, h => by
    simp only [Reps] at h
    obtain ⟨v, r, rfl, h1, h2⟩ := h
    rw [List.reverse_cons, List.reverse_cons]
    exact Reps.append (Reps.rev h2) (Reps.one h1)
theorem m_append : MtR X "list.append" (upM G oAppend) := MtR.imp mt_append fun x xs H Q q => by
  obtain ⟨F, ι, cs, w, ws, Q0, S, r1, r2, o, hq⟩ := q
  unfold oAppend at o
  split at o
  · rename_i i u
    obtain ⟨v, rfl, ru⟩ := pair1 r2
    obtain ⟨F1, cs1, x, e1, S1, rx, o⟩ := fixW_ok S ru o
    split at o
    · rename_i ys l
      obtain ⟨a, vs, rfl, h1, h2, h3, h4⟩ := cell_lst S1 (r1.mono e1) l
      refine ⟨a, vs, v, rfl, rfl, h3, by rw [← h4.len]; exact o.1, ?_⟩
      exact hq F1 ι _ _ _ _ e1 (S1.write (x := .lst (ys ++ [x])) h1 l h2 ⟨h2, _, upd_same, h4.append (Reps.one rx)⟩) rep_non o.2
    · cases o
  · cases o
theorem m_extend : MtR X "list.extend" (upM G oExtend) := MtR.imp mt_extend fun x xs H Q q => by
  obtain ⟨F, ι, cs, w, ws, Q0, S, r1, r2, o, hq⟩ := q
  unfold oExtend at o
  split at o
  · rename_i i u
    obtain ⟨v, rfl, ru⟩ := pair1 r2
    split at o
    · rename_i xs ys l1 l2
      obtain ⟨a, vs, rfl, h1, h2, h3, h4⟩ := cell_lst S r1 l1
      obtain ⟨b, us, rfl, h5, h6⟩ := look_lst S ru l2
      refine ⟨a, b, vs, us, rfl, rfl, h3, h5, by rw [← h4.len, ← h6.len]; exact o.1, ?_⟩
      exact hq F ι _ _ _ _ .refl (S.write (x := .lst (xs ++ ys)) h1 l1 h2 ⟨h2, _, upd_same, h4.append h6⟩) rep_non o.2
    · cases o
  · cases o
end
/-- the texts of a list of texts -/
def txts : List D → Option (List Str)
  | [] => some []
  | .str b :: r => (txts r).map (b :: ·)
  | _ => none
def oJoin : OpM := fun w ws cs Q => match w, ws with
  | .d (.str a), [u] => (match look u cs with
    | some (.lst xs) => (match txts xs with
      | some ys => (ys.map (·.length)).sum + ys.length * a.length ≤ 16777216 ∧ Q (.d (.str (Str.join a ys))) cs
      | none => False)
    | some (.tup xs) => (match txts xs with
      | some ys => (ys.map (·.length)).sum + ys.length * a.length ≤ 16777216 ∧ Q (.d (.str (Str.join a ys))) cs
      | none => False)
    | _ => False)
  | _, _ => False
section
variable {X : Cx} {G : Gam} {F H : Hp} {ι : Pl} {cs : Cs}
theorem txts_rep : ∀ {xs : List D} {vs : List V} {ys : List Str}, Reps G F xs vs → txts xs = some ys → vs = ys.map V.str ∧ ∀ y ∈ ys, PyData.strOk y = true
  | [], vs, ys, h, e => by
    simp only [Reps] at h
    simp [txts] at e
    subst h e
    exact ⟨rfl, by simp⟩
  | x :: xs, vs, ys, h, e => by
    cases x with
    | str b =>
      simp only [Reps] at h
      obtain ⟨v, r, rfl, h1, h2⟩ := h
      simp only [txts] at e
      cases q : txts xs with
      | none => rw [q] at e; cases e
      | some zs =>
        rw [q] at e; cases e
        have h1 : Rep G F (.str b) v := h1
        simp only [Rep] at h1
        obtain ⟨e1, k⟩ := txts_rep h2 q
        refine ⟨by rw [h1.1, e1]; rfl, fun y hy => ?_⟩
        rcases List.mem_cons.mp hy with rfl | hy
        · exact h1.2
        · exact k y hy
    | _ => cases e
theorem m_join (hK : X.K = G.K) : MtR X "str.join" (upM G oJoin) := MtR.imp mt_join fun x xs H Q q => by
  obtain ⟨F, ι, cs, w, ws, Q0, S, r1, r2, o, hq⟩ := q
  unfold oJoin at o
  split at o
  · rename_i a u
    obtain ⟨v, rfl, ru⟩ := pair1 r2
    have r1 : Rep G F (.str a) x := r1
    simp only [Rep] at r1
    obtain ⟨rfl, ka⟩ := r1
    split at o
    · rename_i xs l
      obtain ⟨p, vs, rfl, h1, h2⟩ := look_lst S ru l
      split at o
      · rename_i ys e
        obtain ⟨rfl, k⟩ := txts_rep h2 e
        exact ⟨a, p, ys, rfl, rfl, .inl (SqL.of h1), o.1, by rw [TL.join_eq]; exact hq _ _ _ _ _ _ .refl S (rep_str (strOk_join ka ys k)) o.2⟩
      · cases o
    · rename_i xs l
      obtain ⟨p, vs, rfl, h1, _, h2⟩ := look_tup' S ru l
      split at o
      · rename_i ys e
        obtain ⟨rfl, k⟩ := txts_rep h2 e
        exact ⟨a, p, ys, rfl, rfl, .inr (hK ▸ h1), o.1, by rw [TL.join_eq]; exact hq _ _ _ _ _ _ .refl S (rep_str (strOk_join ka ys k)) o.2⟩
      · cases o
    · cases o
  · cases o
end
end DL
namespace DL
open PySem PySem.Spec L2
def leafOf : NestedKey → Option Leaf
  | .none => some .none
  | .num i => some (.num i)
  | .text x => some (.text x)
  | .tup _ => none
theorem leafOf_key {k : NestedKey} {l : Leaf} (h : leafOf k = some l) : l.key = k := by
  cases k <;> simp [leafOf] at h <;> subst h <;> rfl
theorem leafOf_some {k : NestedKey} (h : isTupK k = false) : ∃ l, leafOf k = some l := by
  cases k with
  | tup ks => cases h
  | _ => exact ⟨_, rfl⟩
theorem isTupK_leaf (l : Leaf) : isTupK l.key = false := by cases l <;> rfl
theorem depth_leaf (l : Leaf) : l.key.depth ≤ 8 := by cases l <;> simp [Leaf.key, NestedKey.depth]
section
variable {G : Gam} {F : Hp}
theorem isOf_of {x : D} {v : V} {u : Value} {k : NestedKey} {l : Leaf} (h : Rep G F x v) (r : RelV v u) (hk : key x = some k) (hl : leafOf k = some l) : Leaf.isOf l u = true := by
  cases x with
  | non =>
    simp only [Rep] at h; subst h
    simp [key] at hk; subst hk
    simp [leafOf] at hl; subst hl
    cases r; rfl
  | bl b =>
    simp only [Rep] at h; subst h
    simp [key] at hk; subst hk
    simp [leafOf] at hl; subst hl
    cases r
    simp [Leaf.isOf]
  | int i =>
    simp only [Rep] at h; subst h
    simp [key] at hk; subst hk
    simp [leafOf] at hl; subst hl
    obtain ⟨t, rfl⟩ := r
    simp [Leaf.isOf]
  | str z =>
    simp only [Rep] at h; obtain ⟨rfl, _⟩ := h
    simp [key] at hk; subst hk
    simp [leafOf] at hl; subst hl
    obtain ⟨t, rfl⟩ := r
    show (z == z) = true
    simp
  | tup xs =>
    simp only [key] at hk
    cases q : keys xs with
    | none => rw [q] at hk; cases hk
    | some ks =>
      rw [q] at hk; cases hk
      cases hl
  | _ => simp [key] at hk
theorem leaf_back {l : Leaf} {u : Value} (h : Leaf.isOf l u = true) (hs : ∀ x, l = .text x → PyData.strOk x = true) : ∃ x v, RelV v u ∧ key x = some l.key ∧ ∀ (G : Gam) (F : Hp), Rep G F x v := by
  cases l with
  | none =>
    cases u <;> first
      | exact ⟨.non, .non, rfl, by simp [key, Leaf.key], fun G F => by simp only [Rep]⟩
      | (exact absurd h Bool.false_ne_true)
  | num i =>
    cases u with
    | int j t =>
      have : j = i := of_decide_eq_true h
      subst this
      exact ⟨.int j, .int j, ⟨t, rfl⟩, by simp [key, Leaf.key], fun G F => by simp only [Rep]⟩
    | bool b =>
      have : (if b = true then (1 : Int) else 0) = i := of_decide_eq_true h
      subst this
      exact ⟨.bl b, .bl b, rfl, by simp [key, Leaf.key], fun G F => by simp only [Rep]⟩
    | _ => exact absurd h Bool.false_ne_true
  | text x =>
    obtain ⟨t, rfl⟩ := Value.isStrOf_shape (show Value.isStrOf x u = true from h)
    exact ⟨.str x, .str x, ⟨t, rfl⟩, by simp [key, Leaf.key], fun G F => by simp only [Rep]; exact ⟨True.intro, hs x rfl⟩⟩
theorem raw_pairs {P : Program} {w : World} : ∀ {es : List DictEntry} {kvs : List (Leaf × Value)}, Pairs (leafKind P w) es kvs → (∀ e ∈ es, ∃ k, Leaf.isOf k e.key = true ∧ e.hash = k.key.hash w) → (∀ kv ∈ kvs, ∀ x, kv.1 = .text x → PyData.strOk x = true) →
    ∀ {vs : List V} {xs : List D}, Vals vs (kvs.map (·.2)) → Reps G F xs vs → ∃ kd ps, RawE w (kvs.map (·.1.key)) ps es ∧ RepKV G F kd (kvs.map (·.1.key)) ps ∧ kd.map (·.2) = xs ∧ kd.map (fun p => key p.1) = kvs.map fun p => some p.1.key
  | _, _, .nil, _, _, vs, xs, rv, rx => by
    cases rv
    have : xs = [] := by have := rx.len; simpa using this
    subst this
    exact ⟨[], [], by simp [RawE], by simp [RepKV], rfl, rfl⟩
  | _, _, .cons (e := e) (kv := kv) (es := es) (kvs := kvs) h1 h2 t, hh, hs, vs, xs, rv, rx => by
    cases rv with
    | @cons v u vr ur r rt =>
      cases xs with
      | nil => simp [Reps] at rx
      | cons x xs =>
        simp only [Reps] at rx
        obtain ⟨v', r', e', rx1, rx2⟩ := rx
        cases e'
        obtain ⟨kd, ps, q1, q2, q3, q4⟩ := raw_pairs t (fun e he => hh e (List.mem_cons_of_mem _ he)) (fun kv hk => hs kv (List.mem_cons_of_mem _ hk)) rt rx2
        obtain ⟨xk, vk, rk, kk, repk⟩ := leaf_back (l := kv.1) h1 (fun z ez => hs kv List.mem_cons_self z ez)
        obtain ⟨l, l1, l2⟩ := hh e List.mem_cons_self
        have : l = kv.1 := (leafKind P w).inj e.key l kv.1 l1 h1
        subst this
        refine ⟨(xk, x) :: kd, (vk, v) :: ps, ?_, ?_, by simp [q3], by simp [q4, kk]⟩
        · simp only [List.map_cons, RawE]
          exact ⟨_, _, _, _, rfl, rfl, l2, rk, by rw [h2]; exact r, q1⟩
        · simp only [List.map_cons, RepKV]
          exact ⟨_, _, _, _, rfl, rfl, kk, repk G F, rx1, q2⟩
theorem nodup_keys {kvs : List (Leaf × Value)} (h : (kvs.map (·.1)).Nodup) : (kvs.map (·.1.key)).Nodup := by
  have : kvs.map (·.1.key) = (kvs.map (·.1)).map Leaf.key := by simp
  rw [this]
  refine List.Pairwise.map _ (fun a b hab e => hab (Leaf.key_inj e)) h
/-- back from the library's view -/
theorem raw_of {P : Program} {w : World} {h : Heap} {d : Addr} {kvs : List (Leaf × Value)} (x : h.DictOf (leafKind P w) d kvs) (hs : ∀ kv ∈ kvs, ∀ x, kv.1 = .text x → PyData.strOk x = true) (hl : kvs.length ≤ sizeLine)
    {vs : List V} {xs : List D} (rv : Vals vs (kvs.map (·.2))) (rx : Reps G F xs vs) :
    ∃ o kd ps, h.get? d = some o ∧ RawO w (kvs.map (·.1.key)) ps o ∧ RepKV G F kd (kvs.map (·.1.key)) ps ∧ kd.map (·.2) = xs ∧ kd.map (fun p => key p.1) = kvs.map fun p => some p.1.key := by
  obtain ⟨o, es, ep, h1, h2, h3, h4, h5, h6⟩ := x
  obtain ⟨kd, ps, q1, q2, q3, q4⟩ := raw_pairs h5 (fun e he => h4 e (by simpa using he)) hs rv rx
  refine ⟨o, kd, ps, h1, ⟨h2, ⟨es, ep, h3, q1⟩, ⟨nodup_keys h6, .inl fun k hk => ?_, fun k hk => ?_⟩, by simpa using hl⟩, q2, q3, q4⟩
  · obtain ⟨kv, _, rfl⟩ := List.mem_map.mp hk; exact isTupK_leaf _
  · obtain ⟨kv, _, rfl⟩ := List.mem_map.mp hk; exact depth_leaf _
theorem pairs_of {P : Program} {w : World} : ∀ {ks : List NestedKey} {ps : List (V × V)} {es : List DictEntry} {kd : List (D × D)}, RawE w ks ps es → RepKV G F kd ks ps → (∀ k ∈ ks, isTupK k = false) →
    ∃ kvs : List (Leaf × Value), Pairs (leafKind P w) es kvs ∧ kvs.map (·.1.key) = ks ∧ Vals (ps.map (·.2)) (kvs.map (·.2)) ∧ ∀ e ∈ es, ∃ k, Leaf.isOf k e.key = true ∧ e.hash = k.key.hash w
  | [], ps, es, kd, h, r, hk => by
    simp only [RawE] at h
    obtain ⟨rfl, rfl⟩ := h
    exact ⟨[], .nil, rfl, .nil, by simp⟩
  | k :: ks, ps, es, kd, h, r, hk => by
    simp only [RawE] at h
    obtain ⟨p, q, e, f, rfl, rfl, h1, h2, h3, h4⟩ := h
    cases kd with
    | nil => simp only [RepKV] at r; cases r.1
    | cons ab kd =>
      obtain ⟨a, b⟩ := ab
      simp only [RepKV] at r
      obtain ⟨k', p', r', q', e1, e2, r1, r2, r3, r4⟩ := r
      cases e1; cases e2
      obtain ⟨kvs, g1, g2, g3, g4⟩ := pairs_of (P := P) h4 r4 fun k hk' => hk k (List.mem_cons_of_mem _ hk')
      obtain ⟨l, el⟩ := leafOf_some (hk k List.mem_cons_self)
      have io : Leaf.isOf l e.key = true := isOf_of r2 h2 r1 el
      refine ⟨(l, e.val) :: kvs, .cons io rfl g1, by simp [g2, leafOf_key el], .cons h3 g3, fun e' he => ?_⟩
      rcases List.mem_cons.mp he with rfl | he
      · exact ⟨l, io, by rw [leafOf_key el]; exact h1⟩
      · exact g4 e' he
/-- the library's view of it -/
theorem dictOf_of {P : Program} {w : World} {h : Heap} {d : Addr} {o : Obj} {ks : List NestedKey} {ps : List (V × V)} {kd : List (D × D)} (ho : h.get? d = some o) (x : RawO w ks ps o) (r : RepKV G F kd ks ps) (hk : ∀ k ∈ ks, isTupK k = false) :
    ∃ kvs : List (Leaf × Value), h.DictOf (leafKind P w) d kvs ∧ kvs.map (·.1.key) = ks ∧ Vals (ps.map (·.2)) (kvs.map (·.2)) := by
  obtain ⟨es, ep, hd, re⟩ := x.dat
  obtain ⟨kvs, g1, g2, g3, g4⟩ := pairs_of (P := P) re r hk
  refine ⟨kvs, ⟨o, es, ep, ho, x.ex, hd, fun e he => g4 e (by simpa using he), g1, ?_⟩, g2, g3⟩
  have := x.ok.nd
  rw [← g2] at this
  have e : kvs.map (·.1.key) = (kvs.map (·.1)).map Leaf.key := by simp
  rw [e] at this
  exact (List.pairwise_map.mp this).imp fun h e => h (congrArg Leaf.key e)
end
def newO : Obj := { cls := .type "dict", data := .dict #[] }
abbrev DPs := Nv → Cs → (List (W × W) → Cs → Prop) → DX → Prop
def dPairs : List (DT × DT) → DPs
  | [], _, cs, Q, _ => Q [] cs
  | (tk, tv) :: r, env, cs, Q, E => tk env cs (fun x cs1 => tv env cs1 (fun y cs2 => dPairs r env cs2 (fun ps cs3 => Q ((x, y) :: ps) cs3) E) E) E
def dDict0 : DT := fun _ cs Q _ => Q (.c cs.length) (cs ++ [.dct [] newO])
/-- keys: data of their own; values: handed over; what stands then has keys that are equal (True for 1, ..) -/
def dDict (ts : List (DT × DT)) : DT := fun env cs Q E => dPairs ts env (cs ++ [.dct [] newO]) (fun ps cs1 => fixAll (ps.map (·.1)) cs1 fun kds cs2 => fixAll (ps.map (·.2)) cs2 fun vds cs3 =>
  cs3[cs.length]? = some (.dct [] newO) ∧ ∃ ls : List Leaf, kds.map key = ls.map (fun l => some l.key) ∧ ls.Nodup ∧
    ∀ kd o, kd.map (fun p => key p.1) = ls.map (fun l => some l.key) → kd.map (·.2) = vds → Q (.c cs.length) (cs3.set cs.length (.dct kd o))) E
section
variable {X : Cx} {G : Gam} {Wx : WX} {pos : Pos}
theorem rawO_new {w : World} : RawO w [] [] newO := ⟨⟨rfl, rfl, rfl⟩, ⟨#[], 0, rfl, by simp [RawE]⟩, ⟨List.nodup_nil, .inl (by simp), by simp⟩, by simp⟩
theorem new_cell {F H : Hp} {ι : Pl} {cs : Cs} {p : Addr} (S : Sim G F ι cs H) (hp : H p = none) (hsm : (p == sysModules) = false) : Ext F F ι (ι.add p) ∧ Sim G F (ι.add p) (cs ++ [.dct [] newO]) (upd H p (dcx p newO)) :=
  S.owned hp fun ι' => ⟨S.dead hp, hsm, [], [], upd_same, rawO_new, by simp [RepKV]⟩
theorem dcx_laid {pins : List (Addr × Obj)} {s : Shared} {σ : L2.St} {H : Hp} (I : Inv X pins σ H s) : Inv X pins σ (upd H s.heap.objs.size (dcx s.heap.objs.size newO)) { s with heap := s.heap.push newO } :=
  I.laid (t' := s.toks) (fun _ _ q => Heap.get?_push_of_some _ q) (Nat.le_refl _) ⟨Heap.get?_push_size _ rfl, ⟨_, Heap.get?_push_size _ rfl⟩, fun h1 h2 q k => k _ q⟩
theorem new_ne {pins : List (Addr × Obj)} {s : Shared} {σ : L2.St} {H : Hp} (I : Inv X pins σ H s) : (s.heap.objs.size == sysModules) = false := by
  have := I.big
  exact beq_eq_false_iff_ne.mpr (Ne.symm (Nat.ne_of_lt this))
theorem e_dict0 : DE X G Wx (.Dict [] [] pos) dDict0 := ⟨fun pins s σ H Q I h => by
  obtain ⟨F, ι, env, cs, Q0, E0, S, R, t, hq, hE⟩ := h
  have hp := I.hok.fresh (Nat.le_refl s.heap.objs.size)
  obtain ⟨e1, S1⟩ := new_cell S hp (new_ne I)
  exact wpAny_Dict_empty ⟨.ref s.heap.objs.size, _, dcx_laid I, rfl, hq F _ _ (.c cs.length) _ _ e1 S1 ⟨_, by rw [← S.len]; simp [Pl.add], rfl⟩ t⟩⟩
theorem merged_apart {α : Type} [DecidableEq α] : ∀ (more acc : List (α × Value)), ((acc ++ more).map (·.1)).Nodup → merged acc more = acc ++ more
  | [], acc, _ => by simp [merged]
  | kv :: more, acc, h => by
    have hn : ¬ (acc.any fun p => decide (p.1 = kv.1)) = true := by
      intro q
      obtain ⟨p, hp, e⟩ := List.any_eq_true.mp q
      have e := of_decide_eq_true e
      rw [List.map_append, List.nodup_append] at h
      exact h.2.2 p.1 (List.mem_map_of_mem hp) kv.1 (by simp) e
    show merged (stored acc kv.1 kv.2) more = _
    have : stored acc kv.1 kv.2 = acc ++ [kv] := by unfold stored; rw [if_neg hn]
    rw [this, merged_apart more (acc ++ [kv]) (by simpa using h)]
    simp
theorem VV.snd : ∀ {ps : List (V × V)} {ws : List (Value × Value)}, VV ps ws → Vals (ps.map (·.2)) (ws.map (·.2))
  | _, _, .nil => .nil
  | _, _, .cons h t => .cons h.2 (VV.snd t)
end
end DL
namespace DL
open PySem PySem.Spec L2
def orOp (o o' : Op2) : Op2 := fun a b cs Q => o a b cs Q ∨ o' a b cs Q
def oInS (neg : Bool) : Op2 := fun a b cs Q => match look a cs, look b cs with
  | some (.str x), some (.str z) => (match x.cps.toList with
    | [c] => Q (.d (.bl (neg ^^ decide (c ∈ z.cps.toList)))) cs
    | _ => False)
  | _, _ => False
def dChain (o o' : Op2) (ta tb tc : DT) : DT := fun env cs Q E => ta env cs (fun x cs1 => tb env cs1 (fun y cs2 => o x y cs2 fun z cs3 => match z with
  | .d (.bl k) => (if k = true then tc env cs3 (fun w cs4 => o' y w cs4 Q) E else Q (.d (.bl false)) cs3)
  | _ => False) E) E
section
variable {X : Cx} {G : Gam} {Wx : WX} {a b c : Expr} {ta tb tc : DT} {op op' : CmpOp} {o o' : Op2} {pos : Pos}
theorem one_sign {x : Str} {c : Nat} (h : x.cps.toList = [c]) : x = ⟨#[c]⟩ := by
  cases x with
  | mk a =>
    have : a = [c].toArray := by rw [← h]
    rw [this]
theorem o_inS : OpR X (compareOp .In) (upR G (oInS false)) := OpR.imp op_in_sign fun x y H Q q => by
  obtain ⟨F, ι, cs, wx, wy, Q0, S, r1, r2, o, hq⟩ := q
  unfold oInS at o
  split at o
  · rename_i x z l1 l2
    obtain ⟨rfl, _⟩ := look_str S r1 l1
    obtain ⟨rfl, _⟩ := look_str S r2 l2
    split at o
    · rename_i c e
      exact ⟨c, z, by rw [one_sign e], rfl, hq _ _ _ _ _ _ .refl S rep_bl (by simpa using o)⟩
    · cases o
  · cases o
theorem chain_up {σ : L2.St} {H : Hp} {Q : VK} (h : upE G Wx (dChain o o' ta tb tc) σ H Q) : tChain (upR G o) (upR G o') (upE G Wx ta) (upE G Wx tb) (upE G Wx tc) σ H Q := by
  obtain ⟨F, ι, env, cs, Q0, E0, S, R, t, hq, hE⟩ := h
  refine ⟨F, ι, env, cs, _, E0, S, R, t, fun F1 ι1 cs1 x v H1 e1 S1 r1 q1 => ?_, hE⟩
  refine ⟨F1, ι1, env, cs1, _, E0, S1, R.mono e1, q1, fun F2 ι2 cs2 y u H2 e2 S2 r2 q2 => ?_, fun F2 ι2 cs2 z cls od H2 e2 => hE F2 ι2 cs2 z cls od H2 (e1.trans e2)⟩
  refine ⟨F2, ι2, cs2, x, y, _, S2, r1.mono e2, r2, q2, fun F3 ι3 cs3 z w H3 e3 S3 r3 q3 => ?_⟩
  split at q3
  · rename_i k
    have r3 : Rep G F3 (.bl k) w := r3
    simp only [Rep] at r3
    refine ⟨k, r3, ?_⟩
    split
    · rename_i hk
      rw [if_pos hk] at q3
      refine ⟨F3, ι3, env, cs3, _, E0, S3, R.mono (e1.trans (e2.trans e3)), q3, fun F4 ι4 cs4 w4 v4 H4 e4 S4 r4 q4 => ?_, fun F4 ι4 cs4 z cls od H4 e4 => hE F4 ι4 cs4 z cls od H4 (e1.trans (e2.trans (e3.trans e4)))⟩
      exact ⟨F4, ι4, cs4, y, w4, Q0, S4, r2.mono (e3.trans e4), r4, q4, fun F5 ι5 cs5 w5 v5 H5 e5 => hq F5 ι5 cs5 w5 v5 H5 (e1.trans (e2.trans (e3.trans (e4.trans e5))))⟩
    · rename_i hk
      rw [if_neg hk] at q3
      exact hq F3 ι3 cs3 _ _ H3 (e1.trans (e2.trans e3)) S3 rep_bl q3
  · cases q3
theorem e_chain (ho : OpR X (compareOp op) (upR G o)) (ho' : OpR X (compareOp op') (upR G o')) (ha : DE X G Wx a ta) (hb : DE X G Wx b tb) (hc : DE X G Wx c tc)
    (hm : lastMarks [op, op'] [b, c] = false := by with_unfolding_all rfl) : DE X G Wx (.Compare a [op, op'] [b, c] pos) (dChain o o' ta tb tc) := PE.imp (pe_chain ho ho' ha hb hc hm) fun _ _ _ => chain_up
theorem t_chain (ho : OpR X (compareOp op) (upR G o)) (ho' : OpR X (compareOp op') (upR G o')) (ha : DE X G Wx a ta) (hb : DE X G Wx b tb) (hc : DE X G Wx c tc)
    (hm : lastMarks [op, op'] [b, c] = false := by with_unfolding_all rfl) : DTst X G Wx (.Compare a [op, op'] [b, c] pos) (dTest (dChain o o' ta tb tc)) := PT.imp (pt_chain ho ho' ha hb hc hm) fun σ H Q h => by
  have h1 := test_up h
  obtain ⟨F, ι, env, cs, Q0, E0, S, R, t, hq, he⟩ := h1
  exact chain_up ⟨F, ι, env, cs, Q0, E0, S, R, t, hq, he⟩
/-- a global datum: a whole number, a text -/
theorem e_gint {x : Str} {u : Value} {i : Int} (hg : Gl X x) (hm : X.mg x = some u) (hu : ∃ t, u = .int i t) (hd : (x == ("__debug__" : Str)) = false := by decide) : DE X G Wx (.Name x pos) (dC (.int i)) :=
  e_glob (v := .int i) hg hm hu (fun F => by simp only [Rep]) hd
theorem e_gstr {x : Str} {u : Value} {i : Str} (hg : Gl X x) (hm : X.mg x = some u) (hu : ∃ t, u = .str i t) (hk : PyData.strOk i = true) (hd : (x == ("__debug__" : Str)) = false := by decide) : DE X G Wx (.Name x pos) (dC (.str i)) :=
  e_glob (v := .str i) hg hm hu (fun F => by simp only [Rep]; exact ⟨True.intro, hk⟩) hd
/-- a built-in type as a value -/
theorem e_ty {x : Str} {T : String} (hg : Gl X x) (hm : X.mg x = none) (hv : bootBuiltins x = some (.type T)) (hn : x ≠ "__name__" := by decide) (hd : (x == ("__debug__" : Str)) = false := by decide) : DE X G Wx (.Name x pos) (dC (.oth (.ty T))) :=
  e_tC (pe_bltn (v := .ty T) hg hm hv rfl hn hd) fun F => by simp only [Rep]
theorem ev (i : Nat) {x : Str} (hN : X.N[i]? = some x := by rfl) (hv : Vis X.env.scope x := by first | exact Or.inl rfl | exact Or.inr (Or.inl rfl) | exact Or.inr (Or.inr rfl)) (hd : (x == ("__debug__" : Str)) = false := by decide)
    (hcd : (x == ("__classdict__" : Str)) = false := by decide) : DE X G Wx (.Name x pos) (dVar i) := e_var hN hv hd hcd
end
theorem bo_len : bootBuiltins "len" = some (.builtin "len") := by decide +kernel
theorem bo_abs : bootBuiltins "abs" = some (.builtin "abs") := by decide +kernel
theorem bo_max : bootBuiltins "max" = some (.builtin "max") := by decide +kernel
theorem bo_min : bootBuiltins "min" = some (.builtin "min") := by decide +kernel
theorem bo_divmod : bootBuiltins "divmod" = some (.builtin "divmod") := by decide +kernel
theorem bo_all : bootBuiltins "all" = some (.builtin "all") := by decide +kernel
theorem bo_repr : bootBuiltins "repr" = some (.builtin "repr") := by decide +kernel
theorem bo_isinstance : bootBuiltins "isinstance" = some (.builtin "isinstance") := by decide +kernel
theorem bo_str : bootBuiltins "str" = some (.type "str") := by decide +kernel
theorem bo_int : bootBuiltins "int" = some (.type "int") := by decide +kernel
theorem bo_bool : bootBuiltins "bool" = some (.type "bool") := by decide +kernel
theorem bo_list : bootBuiltins "list" = some (.type "list") := by decide +kernel
theorem bo_tuple : bootBuiltins "tuple" = some (.type "tuple") := by decide +kernel
theorem bo_dict : bootBuiltins "dict" = some (.type "dict") := by decide +kernel
theorem tkF {X : Cx} : Takes X WxF := fun u s' ⟨a, B, sI, pins, σ, H, cls, d, e, I, nb, up, sky, na, os, ag, w⟩ => w.elim
end DL
namespace DL
open PySem PySem.Spec L2
section
variable {X : Cx} {G : Gam}
def oIsBl (neg : Bool) : Op2 := fun a b cs Q => match a, b with
  | .d (.bl x), .d (.bl y) => Q (.d (.bl (neg ^^ decide (x = y)))) cs
  | _, _ => False
theorem o_notBl : OpR X (compareOp .IsNot) (upR G (oIsBl true)) := OpR.imp op_notBl fun x y H Q q => by
  obtain ⟨F, ι, cs, wx, wy, Q0, S, r1, r2, o, hq⟩ := q
  unfold oIsBl at o
  split at o
  · rename_i p q
    have r1 : Rep G F (.bl p) x := r1
    have r2 : Rep G F (.bl q) y := r2
    simp only [Rep] at r1 r2
    exact ⟨p, q, r1, r2, hq _ _ _ _ _ _ .refl S rep_bl (by simpa using o)⟩
  · cases o
def oTupleOf : OpN := fun ws cs Q => match ws with
  | [w] => (match look w cs with
    | some (.lst xs) => Q (.d (.tup xs)) cs
    | some (.tup xs) => Q (.d (.tup xs)) cs
    | _ => False)
  | _ => False
def oListOf : OpN := fun ws cs Q => match ws with
  | [w] => (match look w cs with
    | some (.lst xs) => Q (.c cs.length) (cs ++ [.lst xs])
    | some (.tup xs) => Q (.c cs.length) (cs ++ [.lst xs])
    | _ => False)
  | _ => False
theorem c_tupleOf (hK : X.K = G.K) : CallR X (.type "tuple") (upRN G oTupleOf) := by
  intro pins s σ H xs us Q I r q
  obtain ⟨F, ι, cs, ws, Q0, S, rw0, o, hq⟩ := q
  unfold oTupleOf at o
  split at o
  · obtain ⟨v, rfl, r0⟩ := pair1 rw0
    obtain ⟨u, rfl, ru⟩ := r.one
    split at o
    · rename_i ys l
      obtain ⟨a, vs, rfl, h1, p1⟩ := look_lst S r0 l
      cases (show u = Value.ref a from ru)
      obtain ⟨its, rv, pl, hz⟩ := I.list (SqL.of h1)
      refine call_tuple_list pl.isList (fun h' hk => ?_) (by rw [List.size_toArray, ← rv.length]; exact hz)
      have I1 : Inv X pins σ H { s with heap := h' } := I.kept (t' := s.toks) hk
      have I2 := tup_laid (tk := s.toks) I1 rv hz
      obtain ⟨e3, S3⟩ := S.fixed (o := .frz (tupO its) (.tup vs)) (I1.hok.fresh (Nat.le_refl h'.objs.size))
      exact ⟨.ref h'.objs.size, _, I2, rfl, hq _ _ _ (.d (.tup ys)) _ _ e3 S3 (tup_rep upd_same rfl (Reps.mono e3.same _ _ p1)) o⟩
    · rename_i ys l
      obtain ⟨a, vs, rfl, f1, p1⟩ := look_tupP S r0 l
      cases (show u = Value.ref a from ru)
      obtain ⟨its, rv, pl, hz⟩ := I.tuple (hK ▸ SqT.mono S.same f1.sq)
      exact call_tuple_same (items := its.toArray) pl ⟨.ref a, H, I, rfl, hq _ _ _ (.d (.tup ys)) _ _ .refl S (by simp only [RepW, Rep]; exact ⟨a, vs, rfl, f1, p1⟩) o⟩
    · cases o
  · cases o
theorem c_listOf (hK : X.K = G.K) : CallR X (.type "list") (upRN G oListOf) := CallR.imp call_list_of fun xs H Q q => by
  obtain ⟨F, ι, cs, ws, Q0, S, r, o, hq⟩ := q
  unfold oListOf at o
  split at o
  · obtain ⟨v, rfl, r0⟩ := pair1 r
    split at o
    · rename_i ys l
      obtain ⟨a, vs, rfl, h1, p1⟩ := look_lst S r0 l
      refine ⟨a, vs, rfl, .inl (SqL.of h1), fun p hp => ?_⟩
      obtain ⟨e3, S3⟩ := S.owned (o := .lst vs) (x := .lst ys) hp fun ι' => ⟨S.dead hp, _, upd_same, p1⟩
      exact hq _ _ _ (.c cs.length) _ _ e3 S3 ⟨p, by rw [← S.len]; simp [Pl.add], rfl⟩ o
    · rename_i ys l
      obtain ⟨a, vs, rfl, h1, _, p1⟩ := look_tup' S r0 l
      refine ⟨a, vs, rfl, .inr (hK ▸ h1), fun p hp => ?_⟩
      obtain ⟨e3, S3⟩ := S.owned (o := .lst vs) (x := .lst ys) hp fun ι' => ⟨S.dead hp, _, upd_same, p1⟩
      exact hq _ _ _ (.c cs.length) _ _ e3 S3 ⟨p, by rw [← S.len]; simp [Pl.add], rfl⟩ o
    · cases o
  · cases o
variable {Wx : WX} {pos : Pos}
end
def dPar3 (i j l : Nat) (t : DA) : DS := fun D env cs => t env cs (fun ws cs1 => match ws with
  | [u, v, w] => D.nx (((env.set i (some u)).set j (some v)).set l (some w)) cs1
  | _ => False) fun x cs1 => D.ex x env cs1
end DL
namespace DL
open PySem PySem.Spec L2
theorem log2_le {n k : Nat} (h : n < 2 ^ k) : n.log2 ≤ k := by
  by_cases h0 : n = 0
  · subst h0; simp
  · have := (Nat.log2_lt h0).mpr h
    omega
theorem cmul_small {i j : Int} (h : i.natAbs < 2 ^ 250) (h' : j.natAbs < 2 ^ 250) : CMulW i j := by
  unfold CMulW
  have a := log2_le h
  have b := log2_le h'
  omega
theorem lt_big {n : Nat} (h : n < 1000000000000000000000000000000) : n < 2 ^ 250 := Nat.lt_trans h (by decide)
theorem cmul_30 {i j : Int} (h : i.natAbs < 1000000000000000000000000000000) (h' : j.natAbs < 1000000000000000000000000000000) : CMulW i j := cmul_small (lt_big h) (lt_big h')
theorem cdiv_ok {i j : Int} (h0 : 0 < j) (h : j.natAbs < 2 ^ 250) : CDivW i j := ⟨h0, by have := log2_le h; omega⟩
theorem cpow_ok {i j : Int} (h : (decide (0 ≤ j) && decide (j ≤ 1000000) && decide (i.natAbs < 2 ^ 64)) = true) : CPow i j := by
  simp only [Bool.and_eq_true, decide_eq_true_eq] at h
  exact ⟨h.1.1, h.1.2, h.2⟩
theorem atI_lt {α : Type} {xs : List α} {k : Int} (h0 : 0 ≤ k) (h1 : k < xs.length) : ∃ x, atI xs k = some x ∧ xs[k.toNat]? = some x := by
  have hk : k.toNat < xs.length := by omega
  refine ⟨xs[k.toNat], ?_, List.getElem?_eq_getElem hk⟩
  have := atI_nat (List.getElem?_eq_getElem hk)
  rwa [show ((k.toNat : Nat) : Int) = k by omega] at this
theorem retD_d {n : Nat} {x : D} {cs : Cs} {Q : DQ} : retD n (.d x) cs Q = Q (.d x) (dropTo n cs) := rfl
theorem dropTo_cut {cs g : Cs} (h : closed cs) : dropTo cs.length (cs ++ g) = cs := (dropTo_append rfl).trans h
theorem dropTo_set {cs : Cs} {i : Nat} {x : Cell} (h : closed cs) (hx : plainC x = true) : dropTo cs.length (cs.set i x) = cs.set i x := by
  have := closed_set (i := i) h hx
  unfold closed at this
  rwa [List.length_set] at this
theorem retD_new {cs : Cs} {xs : List D} {Q : DQ} (h : closed cs) : retD cs.length (.c cs.length) (cs ++ [.lst xs]) Q = Q (.c cs.length) (cs ++ [.lst xs]) := by
  unfold retD
  simp only [Nat.lt_irrefl, if_false, List.getElem?_concat_length]
  rw [dropTo_cut h]
theorem get_set {cs : Cs} {i : Nat} {x y : Cell} (h : cs[i]? = some x) : (cs.set i y)[i]? = some y := List.getElem?_set_self (List.getElem?_eq_some_iff.mp h).1
theorem lcD_inv {g : DG} {tt : DB} {te : DT} {keep : Cs → Prop} {vs : List Nat} {env : Nv} {n : Nat} {Q : List D → Cs → Prop} (J : Cs → Prop) (R : W → Option D → Prop) (hk : ∀ cs, J cs → keep cs) :
    ∀ (items : List W) (acc : List D) (cs : Cs), J cs → acc.length + items.length ≤ sizeLine →
    (∀ x ∈ items, ∀ cs, J cs → ∀ (K : D → Cs → Prop) (K' : Cs → Prop), (∀ y cs4, R x (some y) → J (dropTo n cs4) → K y cs4) → (∀ cs2, R x none → J (dropTo n cs2) → K' cs2) →
      g x (wipeE env vs) cs fun env1 cs1 => tt env1 cs1 (fun b cs2 => if b = true then te env1 cs2 (fun w cs3 => fixW w cs3 K) noX else K' cs2) noX) →
    (∀ os cs', Paired R items os → J cs' → Q (acc ++ os.filterMap id) cs') → lcD g tt te keep vs env n Q items acc cs
  | [], acc, cs, hJ, _, _, hQ => ⟨hk cs hJ, by simpa using hQ [] cs .nil hJ⟩
  | x :: r, acc, cs, hJ, hl, hs, hQ => by
    simp only [List.length_cons] at hl
    refine ⟨hk cs hJ, hs x List.mem_cons_self cs hJ _ _ (fun y cs4 hR hJ' => ⟨by omega, ?_⟩) fun cs2 hR hJ' => ?_⟩
    · refine lcD_inv J R hk r (acc ++ [y]) _ hJ' (by simp; omega) (fun x hx => hs x (List.mem_cons_of_mem _ hx)) fun os cs' hp hJ2 => ?_
      have := hQ (some y :: os) cs' (.cons hR hp) hJ2
      simpa using this
    · refine lcD_inv J R hk r acc _ hJ' (by omega) (fun x hx => hs x (List.mem_cons_of_mem _ hx)) fun os cs' hp hJ2 => ?_
      have := hQ (none :: os) cs' (.cons hR hp) hJ2
      simpa using this
theorem paired_eq {α β : Type} {f : α → β} : ∀ {xs : List α} {ys : List β}, Paired (fun x y => y = f x) xs ys → ys = xs.map f
  | _, _, .nil => rfl
  | _, _, .cons h t => by rw [h, paired_eq t]; rfl
/-- no test, a value for each item -/
theorem lcD_map {g : DG} {te : DT} {keep : Cs → Prop} {vs : List Nat} {env : Nv} {n : Nat} {Q : List D → Cs → Prop} (J : Cs → Prop) (f : W → D) (hk : ∀ cs, J cs → keep cs)
    (items : List W) (cs : Cs) (hJ : J cs) (hl : items.length ≤ sizeLine)
    (hs : ∀ x ∈ items, ∀ cs, J cs → ∀ K : D → Cs → Prop, (∀ cs4, J (dropTo n cs4) → K (f x) cs4) → g x (wipeE env vs) cs fun env1 cs1 => te env1 cs1 (fun w cs3 => fixW w cs3 K) noX)
    (hQ : ∀ cs', J cs' → Q (items.map f) cs') : lcD g dYes te keep vs env n Q items [] cs := by
  refine lcD_inv J (fun x o => o = some (f x)) hk items [] cs hJ (by simpa using hl) (fun x hx cs hJ K K' h1 h2 => ?_) fun os cs' hp hJ' => ?_
  · have := hs x hx cs hJ K fun cs4 hJ4 => h1 (f x) cs4 rfl hJ4
    simpa [dYes] using this
  · have e := paired_eq (f := fun x => some (f x)) hp
    subst e
    have : (items.map fun x => some (f x)).filterMap id = items.map f := by
      induction items with
      | nil => rfl
      | cons a r ih => simp
    simpa [this] using hQ cs' hJ'
/-- no test, a value for each item, of a kind -/
theorem lcD_all {g : DG} {te : DT} {keep : Cs → Prop} {vs : List Nat} {env : Nv} {n : Nat} {Q : List D → Cs → Prop} (J : Cs → Prop) (R : W → D → Prop) (hk : ∀ cs, J cs → keep cs)
    (items : List W) (cs : Cs) (hJ : J cs) (hl : items.length ≤ sizeLine)
    (hs : ∀ x ∈ items, ∀ cs, J cs → ∀ K : D → Cs → Prop, (∀ y cs4, R x y → J (dropTo n cs4) → K y cs4) → g x (wipeE env vs) cs fun env1 cs1 => te env1 cs1 (fun w cs3 => fixW w cs3 K) noX)
    (hQ : ∀ ys cs', Paired R items ys → J cs' → Q ys cs') : lcD g dYes te keep vs env n Q items [] cs := by
  refine lcD_inv J (fun x o => ∃ y, o = some y ∧ R x y) hk items [] cs hJ (by simpa using hl) (fun x hx cs hJ K K' h1 h2 => ?_) fun os cs' hp hJ' => ?_
  · have := hs x hx cs hJ K fun y cs4 hR hJ4 => h1 y cs4 ⟨y, rfl, hR⟩ hJ4
    simpa [dYes] using this
  · have : ∀ {xs : List W} {os : List (Option D)}, Paired (fun x o => ∃ y, o = some y ∧ R x y) xs os → Paired R xs (os.filterMap id) := by
      intro xs os h
      induction h with
      | nil => exact .nil
      | cons h t ih =>
        obtain ⟨y, rfl, hR⟩ := h
        exact .cons hR ih
    simpa using hQ _ cs' (this hp) hJ'
theorem forD_inv {g : DG} {tb : DS} {keep : Cs → Prop} {D : DEnds} (J : Nat → Nv → Cs → Prop) (hk : ∀ i env cs, J i env cs → keep cs) : ∀ (items : List W) (i : Nat) (env : Nv) (cs : Cs), J i env cs →
    (∀ j x, items[j]? = some x → ∀ env cs, J (i + j) env cs → ∀ D' : DEnds, D'.rt = D.rt → D'.ex = D.ex → D'.bk = D.nx → (∀ env' cs', J (i + j + 1) env' cs' → D'.nx env' cs') → (∀ env' cs', J (i + j + 1) env' cs' → D'.ct env' cs') → g x env cs fun env1 cs1 => tb D' env1 cs1) →
    (∀ env cs, J (i + items.length) env cs → D.nx env cs) → forD g tb keep D items env cs
  | [], i, env, cs, hJ, _, hQ => ⟨hk i env cs hJ, hQ env cs (by simpa using hJ)⟩
  | x :: r, i, env, cs, hJ, hs, hQ => by
    refine ⟨hk i env cs hJ, hs 0 x rfl env cs (by simpa using hJ) _ rfl rfl rfl (fun env' cs' hJ' => ?_) fun env' cs' hJ' => ?_⟩ <;>
    · refine forD_inv J hk r (i + 1) env' cs' (by simpa using hJ') (fun j x hx env cs hJ2 D' h1 h2 h3 h4 h5 => ?_) fun env cs hJ2 => hQ env cs ?_
      · refine hs (j + 1) x (by simpa using hx) env cs (by rw [show i + (j + 1) = i + 1 + j by omega]; exact hJ2) D' h1 h2 h3 (fun e c h => h4 e c ?_) fun e c h => h5 e c ?_
        · rw [show i + 1 + j + 1 = i + (j + 1) + 1 by omega]; exact h
        · rw [show i + 1 + j + 1 = i + (j + 1) + 1 by omega]; exact h
      · rw [List.length_cons, show i + (r.length + 1) = i + 1 + r.length by omega]; exact hJ2
section
variable {α : Type} {xs : List α}
theorem at_of {k : Int} {n : Nat} (h : k = n) : atI xs k = xs[n]? := by
  subst h
  cases e : xs[n]? with
  | some x => exact atI_nat e
  | none =>
    have hl := List.getElem?_eq_none_iff.mp e
    unfold atI ixN
    rw [if_pos (by omega), if_neg (by omega)]
    rfl
@[simp] theorem at0 : atI xs 0 = xs[0]? := at_of (n := 0) rfl
@[simp] theorem at1 : atI xs 1 = xs[1]? := at_of (n := 1) rfl
@[simp] theorem at2 : atI xs 2 = xs[2]? := at_of (n := 2) rfl
@[simp] theorem at3 : atI xs 3 = xs[3]? := at_of (n := 3) rfl
@[simp] theorem at4 : atI xs 4 = xs[4]? := at_of (n := 4) rfl
@[simp] theorem at5 : atI xs 5 = xs[5]? := at_of (n := 5) rfl
theorem ix_of {l : Nat} {k : Int} {n : Nat} (h : k = n) : ixN l k = if n < l then some n else none := by
  subst h
  unfold ixN
  rw [if_pos (by omega)]
  by_cases h : n < l
  · rw [if_pos (by omega), if_pos h]; simp
  · rw [if_neg (by omega), if_neg h]
@[simp] theorem ix0 {l : Nat} : ixN l 0 = if 0 < l then some 0 else none := ix_of (n := 0) rfl
@[simp] theorem ix1 {l : Nat} : ixN l 1 = if 1 < l then some 1 else none := ix_of (n := 1) rfl
@[simp] theorem ix2 {l : Nat} : ixN l 2 = if 2 < l then some 2 else none := ix_of (n := 2) rfl
@[simp] theorem ix3 {l : Nat} : ixN l 3 = if 3 < l then some 3 else none := ix_of (n := 3) rfl
end
theorem bools_map {α : Type} (l : List α) (p : α → Bool) : bools (l.map fun c => D.bl (p c)) = some (l.map p) := by
  induction l with
  | nil => rfl
  | cons a r ih => simp [bools, ih]
theorem signs_map (x : Str) : signs x = x.cps.toList.map fun c => D.str ⟨#[c]⟩ := rfl
theorem signs_len (x : Str) : (signs x).length = x.length := by simp [signs, Str.length]
theorem isFls_strs (l : List Str) : isFls (l.map D.str) = true := by
  induction l with
  | nil => rfl
  | cons a r ih => simp [isFls, isFl, ih]
theorem depth_strs (l : List Str) : PyData.depthAll (pys (l.map D.str)) = 0 := by
  induction l with
  | nil => rfl
  | cons a r ih => simp [pys, py, PyData.depthAll, PyData.depth, ih]
@[simp] theorem isTag_non : isTag .non = true := rfl
@[simp] theorem tag_non : tag .non = "NoneType" := rfl
@[simp] theorem hasM_non : hasM .non = false := rfl
@[simp] theorem isTag_bl {b : Bool} : isTag (.bl b) = true := rfl
@[simp] theorem tag_bl {b : Bool} : tag (.bl b) = "bool" := rfl
@[simp] theorem hasM_bl {b : Bool} : hasM (.bl b) = false := rfl
@[simp] theorem isTag_int {b : Int} : isTag (.int b) = true := rfl
@[simp] theorem tag_int {b : Int} : tag (.int b) = "int" := rfl
@[simp] theorem hasM_int {b : Int} : hasM (.int b) = true := rfl
@[simp] theorem isTag_str {b : Str} : isTag (.str b) = true := rfl
@[simp] theorem tag_str {b : Str} : tag (.str b) = "str" := rfl
@[simp] theorem hasM_str {b : Str} : hasM (.str b) = true := rfl
@[simp] theorem isTag_tup {b : List D} : isTag (.tup b) = true := rfl
@[simp] theorem tag_tup {b : List D} : tag (.tup b) = "tuple" := rfl
@[simp] theorem hasM_tup {b : List D} : hasM (.tup b) = true := rfl
@[simp] theorem isTag_lst {b : List D} : isTag (.lst b) = true := rfl
@[simp] theorem tag_lst {b : List D} : tag (.lst b) = "list" := rfl
@[simp] theorem hasM_lst {b : List D} : hasM (.lst b) = true := rfl
@[simp] theorem isTag_dct {b : List (D × D)} : isTag (.dct b) = true := rfl
@[simp] theorem tag_dct {b : List (D × D)} : tag (.dct b) = "dict" := rfl
@[simp] theorem hasM_dct {b : List (D × D)} : hasM (.dct b) = true := rfl
@[simp] theorem isTag_scr {b : List Int} : isTag (.scr b) = true := rfl
@[simp] theorem tag_scr {b : List Int} : tag (.scr b) = "list" := rfl
@[simp] theorem hasM_scr {b : List Int} : hasM (.scr b) = true := rfl
@[simp] theorem tags_str : "str" ∈ tags := by simp [tags]
@[simp] theorem tags_int : "int" ∈ tags := by simp [tags]
@[simp] theorem tags_bool : "bool" ∈ tags := by simp [tags]
@[simp] theorem tags_list : "list" ∈ tags := by simp [tags]
@[simp] theorem tags_tuple : "tuple" ∈ tags := by simp [tags]
@[simp] theorem tags_dict : "dict" ∈ tags := by simp [tags]
@[simp] theorem depth_str (x : Str) : (py (.str x)).depth = 0 := by simp [py, PyData.depth]
@[simp] theorem eqv_strs (x y : Str) : PyData.eqv (py (.str x)) (py (.str y)) = (x == y) := by simp [py, PyData.eqv]
@[simp] theorem depth_int (x : Int) : (py (.int x)).depth = 0 := by simp [py, PyData.depth]
@[simp] theorem eqv_ints (x y : Int) : PyData.eqv (py (.int x)) (py (.int y)) = (x == y) := by simp [py, PyData.eqv]
@[simp] theorem get_at {cs g : Cs} {j : Nat} : (cs ++ g)[cs.length + j]? = g[j]? := by
  rw [List.getElem?_append_right (by omega)]
  congr 1
  omega
@[simp] theorem get_at0 {cs g : Cs} : (cs ++ g)[cs.length]? = g[0]? := get_at (j := 0)
@[simp] theorem set_at {cs g : Cs} {j : Nat} {x : Cell} : (cs ++ g).set (cs.length + j) x = cs ++ g.set j x := by
  rw [List.set_append_right _ _ (by omega)]
  congr 2
  omega
@[simp] theorem set_at0 {cs g : Cs} {x : Cell} : (cs ++ g).set cs.length x = cs ++ g.set 0 x := set_at (j := 0)
theorem join_len : ∀ ys : List Str, (Str.join "" ys).length = (ys.map (·.length)).sum
  | [] => rfl
  | [x] => by simp [Str.join]
  | x :: y :: r => by
    show (x ++ Str.ofString "" ++ Str.join "" (y :: r)).length = _
    rw [strLen_append, strLen_append, join_len (y :: r)]
    simp
    rfl
theorem join_mem : ∀ (ys : List Str), ∀ c ∈ (Str.join "" ys).cps.toList, ∃ y ∈ ys, c ∈ y.cps.toList
  | [], c, h => by cases h
  | [x], c, h => ⟨x, List.mem_cons_self, h⟩
  | x :: y :: r, c, h => by
    have h : c ∈ (x.cps ++ (Str.ofString "").cps ++ (Str.join "" (y :: r)).cps).toList := h
    simp only [Array.toList_append, List.mem_append] at h
    rcases h with (h | h) | h
    · exact ⟨x, List.mem_cons_self, h⟩
    · exact absurd h (by simp [show (Str.ofString "").cps = #[] from rfl])
    · obtain ⟨z, hz, hc⟩ := join_mem (y :: r) c h
      exact ⟨z, List.mem_cons_of_mem _ hz, hc⟩
theorem txts_strs (l : List Str) : txts (l.map D.str) = some l := by
  induction l with
  | nil => rfl
  | cons a r ih => simp [txts, ih]
theorem sum_ones : ∀ {l : List Str}, (∀ z ∈ l, z.length = 1) → (l.map (·.length)).sum = l.length
  | [], _ => rfl
  | a :: r, h => by
    simp only [List.map_cons, List.sum_cons, List.length_cons]
    rw [h a List.mem_cons_self, sum_ones fun z hz => h z (List.mem_cons_of_mem _ hz)]
    omega
def lookC : Option Cell → Option D
  | some (.lst xs) => some (.lst xs)
  | some (.dct kvs _) => some (.dct kvs)
  | some (.frz x) => some x
  | _ => none
theorem look_d {x : D} {cs : Cs} : look (.d x) cs = some x := rfl
theorem look_c {i : Nat} {cs : Cs} : look (.c i) cs = lookC cs[i]? := rfl
theorem lookC_lst {xs : List D} : lookC (some (.lst xs)) = some (.lst xs) := rfl
theorem lookC_dct {xs : List (D × D)} {o : Obj} : lookC (some (.dct xs o)) = some (.dct xs) := rfl
theorem lookC_frz {x : D} : lookC (some (.frz x)) = some x := rfl
def itM {α : Type} (o : Option α) (P : α → Prop) : Prop := ∃ x, o = some x ∧ P x
theorem itM_some {α : Type} {x : α} {P : α → Prop} : itM (some x) P = P x := by simp [itM]
def ixV (a b : Option D) (cs : Cs) (Q : DQ) : Prop := match b with
  | some (.int i) => (match a with
    | some (.lst xs) => itM (atI xs i) fun x => Q (.d x) cs
    | some (.tup xs) => itM (atI xs i) fun x => Q (.d x) cs
    | some (.scr xs) => itM (atI xs i) fun x => Q (.d (.int x)) cs
    | some (.str z) => z.length ≤ sizeLine ∧ itM (atI z.cps.toList i) fun c => Q (.d (.str ⟨#[c]⟩)) cs
    | _ => False)
  | _ => False
theorem oIx_v {a b : W} {cs : Cs} {Q : DQ} : oIx a b cs Q = ixV (look a cs) (look b cs) cs Q := by
  unfold oIx ixV
  cases look b cs with
  | none => rfl
  | some y =>
    cases y with
    | int i =>
      cases look a cs with
      | none => rfl
      | some x =>
        cases x with
        | lst xs => cases h : atI xs i <;> simp [h, itM]
        | tup xs => cases h : atI xs i <;> simp [h, itM]
        | scr xs => cases h : atI xs i <;> simp [h, itM]
        | str z => cases h : atI z.cps.toList i <;> simp [h, itM]
        | _ => rfl
    | _ => rfl
section
variable {xs ys : List D} {kvs : List (D × D)} {ns : List Int} {i j : Int} {z y : Str} {cs : Cs} {Q : DQ}
theorem ixV_lst : ixV (some (.lst xs)) (some (.int i)) cs Q = itM (atI xs i) fun x => Q (.d x) cs := rfl
theorem ixV_tup : ixV (some (.tup xs)) (some (.int i)) cs Q = itM (atI xs i) fun x => Q (.d x) cs := rfl
theorem ixV_scr : ixV (some (.scr ns)) (some (.int i)) cs Q = itM (atI ns i) fun x => Q (.d (.int x)) cs := rfl
theorem ixV_str : ixV (some (.str z)) (some (.int i)) cs Q = (z.length ≤ sizeLine ∧ itM (atI z.cps.toList i) fun c => Q (.d (.str ⟨#[c]⟩)) cs) := rfl
def addV (a b : Option D) (cs : Cs) (Q : DQ) : Prop := match a, b with
  | some (.int i), some (.int j) => Q (.d (.int (i + j))) cs
  | some (.str x), some (.str y) => x.length + y.length ≤ sizeLine ∧ Q (.d (.str (x ++ y))) cs
  | some (.tup xs), some (.tup ys) => xs.length + ys.length ≤ sizeLine ∧ Q (.d (.tup (xs ++ ys))) cs
  | some (.lst xs), some (.lst ys) => xs.length + ys.length ≤ sizeLine ∧ Q (.c cs.length) (cs ++ [.lst (xs ++ ys)])
  | _, _ => False
theorem oAdd_v {a b : W} : oAdd a b cs Q = addV (look a cs) (look b cs) cs Q := rfl
theorem addV_int : addV (some (.int i)) (some (.int j)) cs Q = Q (.d (.int (i + j))) cs := rfl
theorem addV_str : addV (some (.str z)) (some (.str y)) cs Q = (z.length + y.length ≤ sizeLine ∧ Q (.d (.str (z ++ y))) cs) := rfl
theorem addV_tup : addV (some (.tup xs)) (some (.tup ys)) cs Q = (xs.length + ys.length ≤ sizeLine ∧ Q (.d (.tup (xs ++ ys))) cs) := rfl
theorem addV_lst : addV (some (.lst xs)) (some (.lst ys)) cs Q = (xs.length + ys.length ≤ sizeLine ∧ Q (.c cs.length) (cs ++ [.lst (xs ++ ys)])) := rfl
def mulV (a b : Option D) (cs : Cs) (Q : DQ) : Prop := match a, b with
  | some (.int i), some (.int j) => CMulW i j ∧ Q (.d (.int (i * j))) cs
  | some (.lst xs), some (.int k) => -(2 ^ 63) ≤ k ∧ k < 2 ^ 63 ∧ xs.length * k.toNat ≤ sizeLine ∧ Q (.c cs.length) (cs ++ [.lst (List.replicate k.toNat xs).flatten])
  | _, _ => False
theorem oMul_v {a b : W} : oMul a b cs Q = mulV (look a cs) (look b cs) cs Q := rfl
theorem mulV_int : mulV (some (.int i)) (some (.int j)) cs Q = (CMulW i j ∧ Q (.d (.int (i * j))) cs) := rfl
theorem mulV_lst : mulV (some (.lst xs)) (some (.int j)) cs Q = (-(2 ^ 63) ≤ j ∧ j < 2 ^ 63 ∧ xs.length * j.toNat ≤ sizeLine ∧ Q (.c cs.length) (cs ++ [.lst (List.replicate j.toNat xs).flatten])) := rfl
def lenV (a : Option D) (cs : Cs) (Q : DQ) : Prop := match a with
  | some (.str x) => x.length ≤ sizeLine ∧ Q (.d (.int x.length)) cs
  | some (.lst xs) => Q (.d (.int xs.length)) cs
  | some (.tup xs) => Q (.d (.int xs.length)) cs
  | some (.scr xs) => Q (.d (.int xs.length)) cs
  | _ => False
theorem oLen_v {a : W} : oLen [a] cs Q = lenV (look a cs) cs Q := rfl
theorem lenV_str : lenV (some (.str z)) cs Q = (z.length ≤ sizeLine ∧ Q (.d (.int z.length)) cs) := rfl
theorem lenV_lst : lenV (some (.lst xs)) cs Q = Q (.d (.int xs.length)) cs := rfl
theorem lenV_tup : lenV (some (.tup xs)) cs Q = Q (.d (.int xs.length)) cs := rfl
theorem lenV_scr : lenV (some (.scr ns)) cs Q = Q (.d (.int ns.length)) cs := rfl
def slV (a : Option D) (lo hi : Option Int) (cs : Cs) (Q : DQ) : Prop := match a with
  | some (.str z) => z.length ≤ sizeLine ∧ Q (.d (.str (cutS z lo hi))) cs
  | some (.tup xs) => Q (.d (.tup (cutD xs lo hi))) cs
  | some (.lst xs) => Q (.c cs.length) (cs ++ [.lst (cutD xs lo hi)])
  | _ => False
variable {lo hi : Option Int}
theorem oSl_v {a : W} : oSl a lo hi cs Q = slV (look a cs) lo hi cs Q := rfl
theorem slV_str : slV (some (.str z)) lo hi cs Q = (z.length ≤ sizeLine ∧ Q (.d (.str (cutS z lo hi))) cs) := rfl
theorem slV_tup : slV (some (.tup xs)) lo hi cs Q = Q (.d (.tup (cutD xs lo hi))) cs := rfl
theorem slV_lst : slV (some (.lst xs)) lo hi cs Q = Q (.c cs.length) (cs ++ [.lst (cutD xs lo hi)]) := rfl
def inV (neg : Bool) (a b : Option D) (cs : Cs) (Q : DQ) : Prop := match a, b with
  | some x, some (.lst ys) => isFl x = true ∧ isFls ys = true ∧ min (PyData.depthAll (pys ys)) (py x).depth ≤ 60 ∧ Q (.d (.bl (neg ^^ ((pys ys).any fun y => PyData.eqv y (py x))))) cs
  | some x, some (.tup ys) => isFl x = true ∧ isFls ys = true ∧ min (PyData.depthAll (pys ys)) (py x).depth ≤ 60 ∧ Q (.d (.bl (neg ^^ ((pys ys).any fun y => PyData.eqv y (py x))))) cs
  | some (.str x), some (.str z) => (match x.cps.toList with
    | [c] => Q (.d (.bl (neg ^^ decide (c ∈ z.cps.toList)))) cs
    | _ => False)
  | _, _ => False
theorem oIn_v {neg : Bool} {a b : W} : orOp (oIn neg) (oInS neg) a b cs Q = inV neg (look a cs) (look b cs) cs Q := by
  unfold orOp oIn oInS inV
  cases look a cs with
  | none => simp
  | some x =>
    cases look b cs with
    | none => cases x <;> simp
    | some y => cases y <;> cases x <;> (try simp) <;> (try exact Iff.rfl)
variable {neg : Bool} {x : D}
theorem inV_lst : inV neg (some x) (some (.lst ys)) cs Q = (isFl x = true ∧ isFls ys = true ∧ min (PyData.depthAll (pys ys)) (py x).depth ≤ 60 ∧ Q (.d (.bl (neg ^^ ((pys ys).any fun y => PyData.eqv y (py x))))) cs) := by cases x <;> rfl
theorem inV_tup : inV neg (some x) (some (.tup ys)) cs Q = (isFl x = true ∧ isFls ys = true ∧ min (PyData.depthAll (pys ys)) (py x).depth ≤ 60 ∧ Q (.d (.bl (neg ^^ ((pys ys).any fun y => PyData.eqv y (py x))))) cs) := by cases x <;> rfl
theorem inV_sign {c : Nat} : inV neg (some (.str ⟨#[c]⟩)) (some (.str z)) cs Q = Q (.d (.bl (neg ^^ decide (c ∈ z.cps.toList)))) cs := rfl
def seqV (w : W) (a : Option D) (cs : Cs) (Q : List W → (Cs → Prop) → Cs → Prop) : Prop := match a with
  | some (.lst xs) => Q (xs.map .d) (fun cs' => look w cs' = some (.lst xs)) cs
  | some (.tup xs) => Q (xs.map .d) (fun _ => True) cs
  | some (.str x) => Q ((signs x).map .d) (fun _ => True) cs
  | _ => False
theorem diSeq_v {t : DT} {env : Nv} {Q : List W → (Cs → Prop) → Cs → Prop} {E : DX} : diSeq t env cs Q E = t env cs (fun w cs1 => seqV w (look w cs1) cs1 Q) E := rfl
variable {w : W} {Q2 : List W → (Cs → Prop) → Cs → Prop}
theorem seqV_lst : seqV w (some (.lst xs)) cs Q2 = Q2 (xs.map .d) (fun cs' => look w cs' = some (.lst xs)) cs := rfl
theorem seqV_tup : seqV w (some (.tup xs)) cs Q2 = Q2 (xs.map .d) (fun _ => True) cs := rfl
theorem seqV_str : seqV w (some (.str z)) cs Q2 = Q2 ((signs z).map .d) (fun _ => True) cs := rfl
def fixV (i : Nat) (a : Option Cell) (cs : Cs) (Q : D → Cs → Prop) : Prop := match a with
  | some (.frz x) => Q x cs
  | some (.lst xs) => Q (.lst xs) (cs.set i (.frz (.lst xs)))
  | some (.dct kvs _) => Q (.dct kvs) (cs.set i (.frz (.dct kvs)))
  | _ => False
variable {Q3 : D → Cs → Prop} {n : Nat} {o : Obj}
theorem fixW_d {x : D} : fixW (.d x) cs Q3 = Q3 x cs := rfl
theorem fixW_c : fixW (.c n) cs Q3 = fixV n cs[n]? cs Q3 := rfl
theorem fixV_frz {x : D} : fixV n (some (.frz x)) cs Q3 = Q3 x cs := rfl
theorem fixV_lst : fixV n (some (.lst xs)) cs Q3 = Q3 (.lst xs) (cs.set n (.frz (.lst xs))) := rfl
theorem fixV_dct : fixV n (some (.dct kvs o)) cs Q3 = Q3 (.dct kvs) (cs.set n (.frz (.dct kvs))) := rfl
theorem fixAll_nil {Q4 : List D → Cs → Prop} : fixAll [] cs Q4 = Q4 [] cs := rfl
theorem fixAll_cons {ws : List W} {Q4 : List D → Cs → Prop} : fixAll (w :: ws) cs Q4 = fixW w cs fun x cs1 => fixAll ws cs1 fun xs cs2 => Q4 (x :: xs) cs2 := rfl
end
end DL
namespace DL
open PySem PySem.Spec L2
def pot (a b : Int) : Cell := .lst [.int a, .int b]
def potAt (i : Nat) (cs : Cs) : Prop := ∃ a b, cs[i]? = some (pot a b) ∧ 0 ≤ b ∧ b < 2147483648
def spPot : DSpec := fun ws cs Q E => ∃ ns k, ws = [.d (.scr ns), .d (.int k)] ∧ 0 ≤ k ∧ k < 100 ∧ ∀ a b, 0 ≤ b → b < 2147483648 → Q (.c cs.length) (cs ++ [pot a b])
def spDraw : DSpec := fun ws cs Q E => ∃ i m, ws = [.c i, .d (.int m)] ∧ potAt i cs ∧ 0 < m ∧ m < 2 ^ 250 ∧ ∀ r a b, 0 ≤ r → r < m → 0 ≤ b → b < 2147483648 → Q (.d (.int r)) (cs.set i (pot a b))
abbrev NPot : List Str := ["_law_script", "_law_k", "_law_cell"]
def tPot : DS :=
  dSeq (dAsg (dIf (dTest (dOp2 oLt (dVar 1) (dOpN oLen (dCons (dVar 0) (dNil))))) (dOp2 oIx (dVar 0) (dVar 1)) (dC (.int 0))) (dgName 2))
  (dRet (dLst (dCons (dOpN (oInt2 fun i j => .int (if j > i then j else i)) (dCons (dC (.int 0)) (dCons (dOp2 oSub (dOpN (oInt1 fun i => .int (if i < 0 then -i else i)) (dCons (dVar 2) (dNil))) (dOp2 oPow (dC (.int 10)) (dC (.int 18)))) (dNil)))) (dCons (dOp2 oMod (dOp2 oAdd (dOp2 oAdd (dOp2 oMul (dOp2 oMod (dOpN (oInt1 fun i => .int (if i < 0 then -i else i)) (dCons (dVar 2) (dNil))) (dC (.int 2147483587))) (dC (.int 48271))) (dOp2 oMul (dC (.int 60013)) (dVar 1))) (dC (.int 29))) (dC (.int 2147483647))) (dNil)))))
abbrev NDraw : List Str := ["_law_pot_here", "_law_many", "_law_digit"]
def tDraw : DS :=
  dSeq (dIfS (dTest (dOp2 oGt (dOp2 oIx (dVar 0) (dC (.int 0))) (dC (.int 0)))) (dSeq (dAsg (dOpN oDivmod (dCons (dOp2 oIx (dVar 0) (dC (.int 0))) (dCons (dVar 1) (dNil)))) (dgTup 2 (dgCons (dgSub (dVar 0) (dC (.int 0)) oSetL) (dgCons (dgName 2) (dgNil)))))
  (dRet (dVar 2))) (dNext))
  (dSeq (dAsg (dOp2 oMod (dOp2 oAdd (dOp2 oMul (dOp2 oIx (dVar 0) (dC (.int 1))) (dC (.int 39373))) (dC (.int 12227))) (dC (.int 2147483629))) (dgSub (dVar 0) (dC (.int 1)) oSetL))
  (dRet (dOp2 oMod (dOp2 oFDiv (dOp2 oMod (dOp2 oMul (dOp2 oIx (dVar 0) (dC (.int 1))) (dOp2 oIx (dVar 0) (dC (.int 1)))) (dC (.int 2147483563))) (dC (.int 13))) (dVar 1))))
theorem p_pot : ∀ ws cs Q E, closed cs → spPot ws cs Q E → tPot (endsD cs.length Q E) (startE NPot ws) cs := by
  rintro ws cs Q E hc ⟨ns, k, rfl, h0, h1, hq⟩
  have fin : ∀ x : Int, ((60013 * k + 29) % 2147483647 < 2147483648 ∧ 0 ≤ (60013 * k + 29) % 2147483647) ∧ CMulW (x % 2147483587) 48271 ∧ CMulW 60013 k ∧ CPow 10 18 := fun x =>
    ⟨by omega, cmul_30 (by omega) (by omega), cmul_30 (by omega) (by omega), cpow_ok (by decide)⟩
  simp [dSeq, dIfS, dAsg, dIf, dTest, dOp2, dOp1, dOpN, dVar, dC, dCons, dNil, dgName, dRet, dRetN, dDrop, dNext, dLst, dTup, startE, endsD, oI, oInt1, oInt2, oNeg, oIs, oDivmod, dAnd, dOr, dNot, dAndV, dOrV, dNotV, dgSub, dgTup, dgCons, dgNil, oSetL, dPar, dPar3, dFor, diRange1, diRange2, dLc, dCall, dBM, isT, dSl, dP, dNoP, oEq, dChain, oRepr, oIsi, oBools, retD_d, isTy, dDict0, dDict, dPairs, isFl, isFls, isPy, isPys, isPyKV, look_d, look_c, lookC_lst, lookC_dct, lookC_frz, itM_some, oIx_v, ixV_lst, ixV_tup, ixV_scr, ixV_str, oAdd_v, addV_int, addV_str, addV_tup, addV_lst, oMul_v, mulV_int, mulV_lst, oLen_v, lenV_str, lenV_lst, lenV_tup, lenV_scr, oSl_v, slV_str, slV_tup, slV_lst, oIn_v, inV_lst, inV_tup, inV_sign, diSeq_v, seqV_lst, seqV_tup, seqV_str, fixW_d, fixW_c, fixV_frz, fixV_lst, fixV_dct, fixAll_nil, fixAll_cons, tPot]
  split
  · rename_i hlt
    obtain ⟨x, e, _⟩ := atI_lt h0 hlt
    simp only [e, itM_some]
    obtain ⟨_, f2, f3, f4⟩ := fin (if x < 0 then -x else x)
    refine ⟨f4, f2, f3, ?_⟩
    simp only [retD_new hc, List.length_cons, List.length_nil]
    exact ⟨by decide, hq _ _ (by omega) (by omega)⟩
  · obtain ⟨f1, f2, f3, f4⟩ := fin 0
    refine ⟨f4, cmul_30 (by decide) (by decide), f3, ?_⟩
    simp only [retD_new hc, List.length_cons, List.length_nil]
    exact ⟨by decide, hq _ _ f1.2 f1.1⟩
theorem p_draw : ∀ ws cs Q E, closed cs → spDraw ws cs Q E → tDraw (endsD cs.length Q E) (startE NDraw ws) cs := by
  rintro ws cs Q E hc ⟨i, m, rfl, ⟨a, b, hi, b0, b1⟩, h0, h1, hq⟩
  have hs : ∀ xs, (cs.set i (.lst xs))[i]? = some (.lst xs) := fun xs => get_set hi
  have hd : ∀ xs, dropTo cs.length (cs.set i (.lst xs)) = cs.set i (.lst xs) := fun xs => dropTo_set hc rfl
  simp [dSeq, dIfS, dAsg, dIf, dTest, dOp2, dOp1, dOpN, dVar, dC, dCons, dNil, dgName, dRet, dRetN, dDrop, dNext, dLst, dTup, startE, endsD, oI, oInt1, oInt2, oNeg, oIs, oDivmod, dAnd, dOr, dNot, dAndV, dOrV, dNotV, dgSub, dgTup, dgCons, dgNil, oSetL, dPar, dPar3, dFor, diRange1, diRange2, dLc, dCall, dBM, isT, dSl, dP, dNoP, oEq, dChain, oRepr, oIsi, oBools, retD_d, isTy, dDict0, dDict, dPairs, isFl, isFls, isPy, isPys, isPyKV, look_d, look_c, lookC_lst, lookC_dct, lookC_frz, itM_some, oIx_v, ixV_lst, ixV_tup, ixV_scr, ixV_str, oAdd_v, addV_int, addV_str, addV_tup, addV_lst, oMul_v, mulV_int, mulV_lst, oLen_v, lenV_str, lenV_lst, lenV_tup, lenV_scr, oSl_v, slV_str, slV_tup, slV_lst, oIn_v, inV_lst, inV_tup, inV_sign, diSeq_v, seqV_lst, seqV_tup, seqV_str, fixW_d, fixW_c, fixV_frz, fixV_lst, fixV_dct, fixAll_nil, fixAll_cons, tDraw, hi, pot, hs, hd]
  split
  · exact ⟨cdiv_ok h0 (by omega), hq _ _ _ (Int.emod_nonneg _ (by omega)) (Int.emod_lt_of_pos _ h0) b0 b1⟩
  · exact ⟨cmul_30 (by omega) (by omega), cmul_30 (by omega) (by omega), cdiv_ok (by decide) (by decide), h0, hq _ _ _ (Int.emod_nonneg _ (by omega)) (Int.emod_lt_of_pos _ h0) (by omega) (by omega)⟩
/-- the cells as they were, but for the pot -/
structure St (cs : Cs) (i : Nat) (B : Cs) : Prop where
  cl : closed B
  ex : ∃ a b, 0 ≤ b ∧ b < 2147483648 ∧ B = cs.set i (pot a b)
  at_ : ∃ x, cs[i]? = some x
theorem St.init {cs : Cs} {i : Nat} (hc : closed cs) (h : potAt i cs) : St cs i cs := by
  obtain ⟨a, b, h0, h1, h2⟩ := h
  obtain ⟨hl, e⟩ := List.getElem?_eq_some_iff.mp h0
  exact ⟨hc, ⟨a, b, h1, h2, by rw [← e, List.set_getElem_self]⟩, ⟨_, h0⟩⟩
theorem St.next {cs B : Cs} {i : Nat} {a b : Int} (S : St cs i B) (h1 : 0 ≤ b) (h2 : b < 2147483648) : St cs i (B.set i (pot a b)) := by
  obtain ⟨a', b', _, _, e⟩ := S.ex
  exact ⟨closed_set S.cl rfl, ⟨a, b, h1, h2, by rw [e, List.set_set]⟩, S.at_⟩
theorem St.len {cs B : Cs} {i : Nat} (S : St cs i B) : B.length = cs.length := by
  obtain ⟨a, b, _, _, e⟩ := S.ex
  rw [e, List.length_set]
theorem St.pot {cs B : Cs} {i : Nat} (S : St cs i B) : potAt i B := by
  obtain ⟨a, b, h1, h2, e⟩ := S.ex
  obtain ⟨x, hx⟩ := S.at_
  exact ⟨a, b, by rw [e]; exact get_set hx, h1, h2⟩
theorem mem_at {α : Type} {xs : List α} {k : Int} {n : Int} (h0 : 0 ≤ k) (h1 : k < n) (hn : (xs.length : Int) = n) : ∃ x, atI xs k = some x ∧ x ∈ xs := by
  obtain ⟨x, e, e2⟩ := atI_lt (xs := xs) h0 (by omega)
  exact ⟨x, e, List.mem_of_getElem? e2⟩
end DL
namespace DL
open PySem PySem.Spec L2
def sd (m : List (Str × D)) : List (D × D) := m.map fun p => (.str p.1, p.2)
def getS : List (Str × D) → Str → Option D
  | [], _ => none
  | (a, x) :: r, k => if a = k then some x else getS r k
def putS : List (Str × D) → Str → D → List (Str × D)
  | [], k, x => [(k, x)]
  | (a, y) :: r, k, x => if a = k then (a, x) :: r else (a, y) :: putS r k x
theorem sd_inj {m n : List (Str × D)} : sd m = sd n ↔ m = n := by
  constructor
  · intro h
    induction m generalizing n with
    | nil => cases n with
      | nil => rfl
      | cons a r => simp [sd] at h
    | cons a r ih =>
      cases n with
      | nil => simp [sd] at h
      | cons b q =>
        simp only [sd, List.map_cons, List.cons.injEq, Prod.mk.injEq, D.str.injEq] at h
        obtain ⟨⟨h1, h2⟩, h3⟩ := h
        rw [ih h3, Prod.ext h1 h2]
  · rintro rfl; rfl
theorem putS_length (m : List (Str × D)) (k : Str) (x : D) : (putS m k x).length ≤ m.length + 1 := by
  induction m with
  | nil => simp [putS]
  | cons a r ih =>
    obtain ⟨a, y⟩ := a
    simp only [putS]
    split <;> simp <;> omega
/-- what stands for it in the library's view -/
def TR (G : Gam) (F : Hp) : List (Str × D) → List (Leaf × Value) → Prop := Paired fun p q => q.1 = .text p.1 ∧ PyData.strOk p.1 = true ∧ ∃ v, RelV v q.2 ∧ Rep G F p.2 v
section
variable {G : Gam} {F : Hp}
theorem tr_of : ∀ {m : List (Str × D)} {ks : List NestedKey} {ps : List (V × V)} {kvs : List (Leaf × Value)}, RepKV G F (sd m) ks ps → kvs.map (·.1.key) = ks → Vals (ps.map (·.2)) (kvs.map (·.2)) → TR G F m kvs
  | [], ks, ps, kvs, h, e, r => by
    simp only [sd, List.map_nil, RepKV] at h
    obtain ⟨rfl, rfl⟩ := h
    have : kvs = [] := by simpa using e
    subst this
    exact .nil
  | (a, x) :: m, ks, ps, kvs, h, e, r => by
    simp only [sd, List.map_cons, RepKV] at h
    obtain ⟨k, p, kr, pr, rfl, rfl, h1, h2, h3, h4⟩ := h
    cases kvs with
    | nil => simp at e
    | cons q kvs =>
      simp only [List.map_cons, List.cons.injEq] at e
      simp only [List.map_cons] at r
      cases r with
      | cons r1 r2 =>
        refine .cons ⟨?_, ?_, _, r1, h3⟩ (tr_of h4 e.2 r2)
        · have e1 := e.1
          simp [key] at h1
          subst h1
          obtain ⟨l, u⟩ := q
          cases l <;> simp [Leaf.key] at e1
          show Leaf.text _ = Leaf.text _
          rw [e1]
        · simp only [Rep] at h2
          exact h2.2
theorem tr_get {k : Str} : ∀ {m : List (Str × D)} {kvs : List (Leaf × Value)}, TR G F m kvs → (∀ x, getS m k = some x → ∃ u v, valueAt kvs (.text k) = some u ∧ RelV v u ∧ Rep G F x v) ∧ (valueAt kvs (.text k)).isSome = (getS m k).isSome
  | _, _, .nil => by
    refine ⟨fun x e => ?_, ?_⟩
    · simp [getS] at e
    · rfl
  | (a, x) :: m, (l, u) :: kvs, .cons h t => by
    obtain ⟨rfl, _, v, r, rp⟩ := h
    obtain ⟨ih1, ih2⟩ := tr_get (k := k) t
    by_cases e : a = k
    · subst e
      refine ⟨fun y ey => ?_, by simp [getS, valueAt]⟩
      simp [getS] at ey
      subst ey
      exact ⟨u, v, by simp [valueAt], r, rp⟩
    · have en : valueAt ((Leaf.text a, u) :: kvs) (.text k) = valueAt kvs (.text k) := by
        simp [valueAt, e]
      refine ⟨fun y ey => ?_, ?_⟩
      · rw [en]
        exact ih1 y (by simpa [getS, e] using ey)
      · show (valueAt ((Leaf.text a, u) :: kvs) (.text k)).isSome = _
        rw [en, ih2]
        simp [getS, e]
theorem map_out {kvs : List (Leaf × Value)} {k : Leaf} {v : Value} (h : k ∉ kvs.map (·.1)) : (kvs.map fun kv => if kv.1 = k then (kv.1, v) else kv) = kvs := by
  induction kvs with
  | nil => rfl
  | cons a r ih =>
    simp only [List.map_cons, List.mem_cons, not_or] at h ⊢
    rw [if_neg (Ne.symm h.1), ih h.2]
theorem stored_cons {a : Leaf × Value} {kvs : List (Leaf × Value)} {k : Leaf} {v : Value} (hn : ((a :: kvs).map (·.1)).Nodup) : stored (a :: kvs) k v = if a.1 = k then (a.1, v) :: kvs else a :: stored kvs k v := by
  simp only [List.map_cons, List.nodup_cons] at hn
  unfold stored
  by_cases h : a.1 = k
  · subst h
    rw [if_pos (by simp), if_pos rfl]
    simp only [List.map_cons, if_true]
    rw [map_out hn.1]
  · rw [if_neg h]
    have : ((a :: kvs).any fun kv => decide (kv.1 = k)) = kvs.any fun kv => decide (kv.1 = k) := by simp [h]
    rw [this]
    split
    · simp only [List.map_cons, if_neg h]
    · simp
theorem tr_put {k : Str} {x : D} {v : V} {u : Value} (hk : PyData.strOk k = true) (r : RelV v u) (rp : Rep G F x v) : ∀ {m : List (Str × D)} {kvs : List (Leaf × Value)}, TR G F m kvs → (kvs.map (·.1)).Nodup → TR G F (putS m k x) (stored kvs (.text k) u)
  | _, _, .nil, _ => .cons ⟨rfl, hk, v, r, rp⟩ .nil
  | (a, y) :: m, (l, z) :: kvs, .cons h t, hn => by
    have hn' := hn
    simp only [List.map_cons, List.nodup_cons] at hn'
    rw [stored_cons hn]
    obtain ⟨rfl, ha, q⟩ := h
    simp only [putS]
    by_cases e : a = k
    · subst e
      rw [if_pos rfl, if_pos rfl]
      exact .cons ⟨rfl, ha, v, r, rp⟩ t
    · rw [if_neg e, if_neg (by simpa using e)]
      exact .cons ⟨rfl, ha, q⟩ (tr_put hk r rp t hn'.2)
theorem tr_back : ∀ {m : List (Str × D)} {kvs : List (Leaf × Value)}, TR G F m kvs → ∃ vs, Vals vs (kvs.map (·.2)) ∧ Reps G F (m.map (·.2)) vs
  | _, _, .nil => ⟨[], .nil, by simp [Reps]⟩
  | _ :: _, _ :: _, .cons ⟨_, _, v, r, rp⟩ t => by
    obtain ⟨vs, h1, h2⟩ := tr_back t
    exact ⟨v :: vs, .cons r h1, Reps.cons rp h2⟩
theorem tr_keys : ∀ {m : List (Str × D)} {kvs : List (Leaf × Value)}, TR G F m kvs → kvs.map (fun p => some p.1.key) = m.map (fun p => some (.text p.1)) ∧ (∀ kv ∈ kvs, ∀ x, kv.1 = .text x → PyData.strOk x = true) ∧ kvs.length = m.length
  | _, _, .nil => ⟨rfl, by simp, rfl⟩
  | (a, y) :: m, (l, z) :: kvs, .cons ⟨e, ok, _⟩ t => by
    obtain ⟨h1, h2, h3⟩ := tr_keys t
    simp only at e
    subst e
    refine ⟨by simp only [List.map_cons, h1]; rfl, fun kv hkv x ex => ?_, by simp [h3]⟩
    rcases List.mem_cons.mp hkv with rfl | hkv
    · cases ex; exact ok
    · exact h2 kv hkv x ex
theorem sd_of {m : List (Str × D)} {kd : List (D × D)} (h1 : kd.map (·.2) = m.map (·.2)) (h2 : kd.map (fun p => key p.1) = m.map fun p => some (.text p.1)) : kd = sd m := by
  induction m generalizing kd with
  | nil => simpa [sd] using h1
  | cons a r ih =>
    cases kd with
    | nil => simp at h1
    | cons b q =>
      simp only [List.map_cons, List.cons.injEq] at h1 h2
      obtain ⟨k, y⟩ := b
      obtain ⟨z, x⟩ := a
      rw [ih h1.2 h2.2]
      have e1 := h1.1
      have e2 := h2.1
      simp only at e1 e2
      subst e1
      have : k = .str z := by
        cases k with
        | str w => simp [key] at e2; rw [e2]
        | tup xs =>
          simp only [key] at e2
          cases q : keys xs with
          | none => rw [q] at e2; cases e2
          | some ks => rw [q] at e2; cases e2
        | _ => simp [key] at e2
      subst this
      rfl
theorem text_leaf : ∀ {m : List (Str × D)} {ks : List NestedKey} {ps : List (V × V)}, RepKV G F (sd m) ks ps → ∀ k ∈ ks, isTupK k = false
  | [], ks, ps, h, k, hk => by simp only [sd, List.map_nil, RepKV] at h; rw [h.1] at hk; cases hk
  | (a, x) :: m, ks, ps, h, k, hk => by
    simp only [sd, List.map_cons, RepKV] at h
    obtain ⟨k', p, kr, pr, rfl, rfl, h1, h2, h3, h4⟩ := h
    rcases List.mem_cons.mp hk with rfl | hk
    · simp [key] at h1; subst h1; rfl
    · exact text_leaf h4 k hk
theorem kv_len : ∀ {kd : List (D × D)} {ks : List NestedKey} {ps : List (V × V)}, RepKV G F kd ks ps → ks.length = kd.length ∧ ps.length = kd.length
  | [], ks, ps, h => by simp only [RepKV] at h; obtain ⟨rfl, rfl⟩ := h; exact ⟨rfl, rfl⟩
  | (a, x) :: kd, ks, ps, h => by
    simp only [RepKV] at h
    obtain ⟨k', p, kr, pr, rfl, rfl, h1, h2, h3, h4⟩ := h
    have := kv_len h4
    simp [this]
theorem kv_reps : ∀ {kd : List (D × D)} {ks : List NestedKey} {ps : List (V × V)}, RepKV G F kd ks ps → Reps G F (kd.map (·.1)) (ps.map (·.1)) ∧ Reps G F (kd.map (·.2)) (ps.map (·.2))
  | [], ks, ps, h => by simp only [RepKV] at h; obtain ⟨rfl, rfl⟩ := h; simp [Reps]
  | (a, x) :: kd, ks, ps, h => by
    simp only [RepKV] at h
    obtain ⟨k', p, kr, pr, rfl, rfl, h1, h2, h3, h4⟩ := h
    obtain ⟨i1, i2⟩ := kv_reps h4
    exact ⟨Reps.cons h2 i1, Reps.cons h3 i2⟩
/-- the library's view of a dict with text keys -/
theorem dict_view {P : Program} {h : Heap} {d : Addr} {o : Obj} {m : List (Str × D)} {ks : List NestedKey} {ps : List (V × V)} (ho : h.get? d = some o) (x : RawO G.w ks ps o) (r : RepKV G F (sd m) ks ps) :
    ∃ kvs : List (Leaf × Value), h.DictOf (leafKind P G.w) d kvs ∧ TR G F m kvs := by
  obtain ⟨kvs, h1, h2, h3⟩ := dictOf_of (P := P) ho x r (text_leaf r)
  exact ⟨kvs, h1, tr_of r h2 h3⟩
end
def oIxD : Op2 := fun a b cs Q => ∃ m k x, look a cs = some (.dct (sd m)) ∧ look b cs = some (.str k) ∧ getS m k = some x ∧ Q (.d x) cs
def oInD (neg : Bool) : Op2 := fun a b cs Q => ∃ m k, look a cs = some (.str k) ∧ look b cs = some (.dct (sd m)) ∧ Q (.d (.bl (neg ^^ (getS m k).isSome))) cs
def oLenD : OpN := fun ws cs Q => match ws with
  | [w] => (∃ m, look w cs = some (.dct (sd m)) ∧ Q (.d (.int m.length)) cs)
  | _ => False
section
variable {X : Cx} {G : Gam}
theorem leaf_str {P : Program} {w : World} {k : Str} {t : Tok} : (leafKind P w).is (.text k) (.str k t) = true := by
  show (k == k) = true
  simp
theorem x_ixD (hK : X.K = G.K) (hw : X.w = G.w) : IxR X (upR G oIxD) := by
  intro value slice pins s σ H x y v u Q I rx ry q hs
  obtain ⟨F, ι, cs, wx, wy, Q0, S, r1, r2, ⟨m, k, z, l1, l2, g, o⟩, hq⟩ := q
  obtain ⟨a, ob, ks, ps, rfl, h1, h2, h3⟩ := look_top S r1 l1
  obtain ⟨rfl, _⟩ := look_str S r2 l2
  cases (show v = Value.ref a from rx)
  obtain ⟨t, rfl⟩ := ry
  obtain ⟨kvs, dd, tr⟩ := dict_view (P := X.prog) (DcAt.get I hK h1) h2 h3
  rw [← hw] at dd
  obtain ⟨u', v', e1, e2, e3⟩ := (tr_get tr).1 z g
  exact PyProof.Rows.subscriptTail_builtinR (x := u') dd.typeIs PySem.F.slot_dict_getitem.lookup (wpAny_getItem_of (Q := fun r s' => r = u' ∧ EP X pins σ Q r s') leaf_str dd.mapOf e1 ⟨rfl, v', H, I.tok _, e2, hq _ _ _ (.d z) _ _ .refl S e3 o⟩) hs
theorem o_inD (hK : X.K = G.K) (hw : X.w = G.w) : OpR X (compareOp .In) (upR G (oInD false)) := by
  intro pins s σ H x y v u Q I rx ry q
  obtain ⟨F, ι, cs, wx, wy, Q0, S, r1, r2, ⟨m, k, l1, l2, o⟩, hq⟩ := q
  obtain ⟨rfl, _⟩ := look_str S r1 l1
  obtain ⟨a, ob, ks, ps, rfl, h1, h2, h3⟩ := look_top S r2 l2
  obtain ⟨t, rfl⟩ := rx
  cases (show u = Value.ref a from ry)
  obtain ⟨kvs, dd, tr⟩ := dict_view (P := X.prog) (DcAt.get I hK h1) h2 h3
  rw [← hw] at dd
  refine wpAny_in_of leaf_str h1.1 dd.mapOf ?_
  rw [(tr_get tr).2]
  exact fin_same (I.tok _) (hq _ _ _ _ _ _ .refl S rep_bl (by simpa using o))
theorem o_notInD (hK : X.K = G.K) (hw : X.w = G.w) : OpR X (compareOp .NotIn) (upR G (oInD true)) := by
  intro pins s σ H x y v u Q I rx ry q
  obtain ⟨F, ι, cs, wx, wy, Q0, S, r1, r2, ⟨m, k, l1, l2, o⟩, hq⟩ := q
  obtain ⟨rfl, _⟩ := look_str S r1 l1
  obtain ⟨a, ob, ks, ps, rfl, h1, h2, h3⟩ := look_top S r2 l2
  obtain ⟨t, rfl⟩ := rx
  cases (show u = Value.ref a from ry)
  obtain ⟨kvs, dd, tr⟩ := dict_view (P := X.prog) (DcAt.get I hK h1) h2 h3
  rw [← hw] at dd
  refine wpAny_notIn_of leaf_str h1.1 dd.mapOf ?_
  rw [(tr_get tr).2]
  exact fin_same (I.tok _) (hq _ _ _ _ _ _ .refl S rep_bl (by simpa using o))
theorem c_lenD (hK : X.K = G.K) (hw : X.w = G.w) : CallR X (.builtin "len") (upRN G oLenD) := by
  intro pins s σ H xs us Q I r q
  obtain ⟨F, ι, cs, ws, Q0, S, rw0, o, hq⟩ := q
  unfold oLenD at o
  split at o
  · obtain ⟨v, rfl, r0⟩ := pair1 rw0
    obtain ⟨u, rfl, ru⟩ := r.one
    obtain ⟨m, l, o⟩ := o
    obtain ⟨a, ob, ks, ps, rfl, h1, h2, h3⟩ := look_top S r0 l
    cases (show u = Value.ref a from ru)
    obtain ⟨kvs, dd, tr⟩ := dict_view (P := X.prog) (DcAt.get I hK h1) h2 h3
    rw [← hw] at dd
    have n1 := (tr_keys tr).2.2
    have n2 := (kv_len h3).1
    have n3 := h2.len
    simp [sd] at n2
    refine call_len_dict h1.1 dd (by rw [sizeLine_eq] at n3; omega) ?_
    rw [n1]
    exact ⟨.int m.length, H, I.tok _, ⟨_, rfl⟩, hq _ _ _ _ _ _ .refl S rep_int o⟩
  · cases o
def oSetD : OSet := fun o i v cs Q => fixW v cs fun x cs1 => match o with
  | .c n => (match cs1[n]? with
    | some (.dct kd _) => ∃ m k, kd = sd m ∧ look i cs1 = some (.str k) ∧ m.length < sizeLine ∧ ∀ o', Q (cs1.set n (.dct (sd (putS m k x)) o'))
    | _ => False)
  | _ => False
theorem st_dict (hw : X.w = G.w) : PSet X (upSet G oSetD) := by
  intro pins s σ H o i v ov iv u Q I ro ri rv q
  obtain ⟨F, ι, cs, wx, wi, wv, Q0, S, r1, r2, r3, oo, hq⟩ := q
  unfold oSetD at oo
  obtain ⟨F1, cs1, x, e1, S1, rx, oo⟩ := fixW_ok S r3 oo
  cases wx with
  | d x => exact oo.elim
  | dead => exact oo.elim
  | tp x => exact oo.elim
  | c n =>
    obtain ⟨a, ha, rfl⟩ := r1.mono e1
    dsimp only at oo
    split at oo
    · rename_i kd ob lx
      obtain ⟨m, k, rfl, l2, hl, oo⟩ := oo
      obtain ⟨rfl, hk⟩ := look_str S1 (r2.mono e1) l2
      obtain ⟨a', g1, g2⟩ := S1.cell n _ lx
      rw [ha] at g1; cases g1
      obtain ⟨h5, h6, ks, ps, h7, h8, h9⟩ := g2
      cases (show ov = Value.ref a from ro)
      obtain ⟨t, rfl⟩ := ri
      obtain ⟨kvs, dd, tr⟩ := dict_view (P := X.prog) ((I.hok _ _ h7).1) h8 h9
      rw [← hw] at dd
      have n1 := (tr_keys tr).2.2
      refine wpAny_setItem_pairs (hsz := by omega) leaf_str dd fun h' dd' hs => ?_
      have tr' := tr_put hk rv rx tr (by obtain ⟨_, _, _, _, _, _, _, _, nd⟩ := dd; exact nd)
      obtain ⟨vs, b1, b2⟩ := tr_back tr'
      obtain ⟨b3, b4, b5⟩ := tr_keys tr'
      have hz : (putS m k x).length ≤ sizeLine := Nat.le_trans (putS_length m k x) hl
      obtain ⟨o', kd, ps', c1, c2, c3, c4, c5⟩ := raw_of (G := G) (F := F1) dd' b4 (by rw [b5]; exact hz) b1 b2
      have ek : kd = sd (putS m k x) := sd_of c4 (c5.trans b3)
      subst ek
      have S5 := S1.write (o := dcx a o') (x := .dct (sd (putS m k x)) o') ha lx h5 ⟨h5, h6, _, ps', upd_same, hw ▸ c2, c3⟩
      have I5 : Inv X pins σ (upd H a (dcx a o')) { s with heap := h', toks := s.toks + 1 } := by
        refine I.write (x := a) (e := a) (by rw [h7]; trivial) (.inl rfl) (fun b u hb q => ?_) ⟨_, c1⟩ ⟨c1, ⟨_, c1⟩, fun h1 h2 q k => k _ q⟩
        exact (hs.2 b (fun z => hb z)).trans q
      exact ⟨_, I5, hq F1 ι _ _ e1 S5 (oo o')⟩
    · cases oo
end
def AtO (K : PySem.W.Frag) (d : Addr) (o : Obj) (H : Hp) : Prop := H d = some (dcx d o) ∨ K.lookup d = some o
theorem AtO.get {X : Cx} {pins : List (Addr × Obj)} {σ : L2.St} {H : Hp} {s : Shared} {d : Addr} {o : Obj} (I : Inv X pins σ H s) (h : AtO X.K d o H) : s.heap.get? d = some o := by
  rcases h with h | h
  · exact (I.hok _ _ h).1
  · exact I.kIn d o h
def Itq (K : PySem.W.Frag) (d : Addr) (o : Obj) (xs : List V) : It :=
  ⟨fun i H => AtO K d o H ∧ i < xs.length, fun i H x H' => H' = H ∧ xs[i]? = some x, fun i H => AtO K d o H ∧ xs.length ≤ i⟩
theorem raw_get {w : World} : ∀ {ks : List NestedKey} {ps : List (V × V)} {es : List DictEntry}, RawE w ks ps es → es.length = ps.length ∧ ∀ (i : Nat) p, ps[i]? = some p → ∃ e, es[i]? = some e ∧ RelV p.1 e.key ∧ RelV p.2 e.val
  | [], ps, es, h => by
    simp only [RawE] at h
    obtain ⟨rfl, rfl⟩ := h
    exact ⟨rfl, fun i p e => by simp at e⟩
  | k :: ks, ps, es, h => by
    simp only [RawE] at h
    obtain ⟨p, q, e, f, rfl, rfl, _, h2, h3, h4⟩ := h
    obtain ⟨g1, g2⟩ := raw_get h4
    refine ⟨by simp [g1], fun i p' e' => ?_⟩
    cases i with
    | zero => simp at e'; subst e'; exact ⟨e, rfl, h2, h3⟩
    | succ i => simpa using g2 i p' (by simpa using e')
section
variable {P : Program} {w : World} {K : PySem.W.Frag} {tg : Expr} {d : Addr} {o : Obj} {es : Array DictEntry} {ep : Nat} {ks : List NestedKey} {ps : List (V × V)}
theorem turn_dk (it : Addr) (hod : o.data = .dict es ep) (hr : RawE w ks ps es.toList) : Turn P w K tg (Itq K d o (ps.map (·.1))) [it] it (fun i h => h.IsKeyIter it d i es.size ep) where
  mem := by simp
  obj := fun i h st b hb => by
    have e : b = it := by simpa using hb
    subst e
    obtain ⟨oi, e, c, dd⟩ := st
    exact ⟨oi, e, fun v z => by rw [dd] at z; cases z⟩
  keep := fun i h h' st k => st.at fun oi e => k it (by simp) oi e
  item := by
    intro X hP hw hK hc i pins s σ H E I hf st hg
    subst hP hw hK
    obtain ⟨hd, hi⟩ := hg
    obtain ⟨f0, f1, f2, f3, f4, f5⟩ := hf it (by simp)
    rw [List.length_map] at hi
    obtain ⟨en, hen, hk, _⟩ := (raw_get hr).2 i _ (List.getElem?_eq_getElem hi)
    refine next_key_item st (hd.get I) hod rfl (by rw [← Array.getElem?_toList]; exact hen) fun h' st' sb => ?_
    have I1 : Inv X pins σ H { s with heap := h' } := I.turned (t' := s.toks) (fun b ob hb e => (sb.2 b hb).trans e) f0 f1 f3 f4 f5
    obtain ⟨oi, e, c, dd⟩ := id st'
    exact ⟨en.key, rfl, go_of (s := { s with heap := h' }) e c dd (by decide) ⟨_, H, I1, hk, ⟨rfl, by rw [List.getElem?_map, List.getElem?_eq_getElem hi]; rfl⟩, st', fun b hb => (hf b hb).1⟩⟩
  done := by
    intro X hP hw hK hc i pins s σ H E I hf st hg
    subst hP hw hK
    obtain ⟨hd, hi⟩ := hg
    obtain ⟨f0, f1, f2, f3, f4, f5⟩ := hf it (by simp)
    have n1 := (raw_get hr).1
    rw [List.length_map] at hi
    exact next_key_end (I.ok.hd hc) st (hd.get I) hod rfl (by rw [← Array.length_toList]; omega) fun h' eb => ⟨rfl, I.turned (t' := s.toks) (fun b ob hb e => eb b ob hb e) f0 f1 f3 f4 f5⟩
  self := fun A i s Q E st h => by
    refine wpAny_pyIter_slot st.typeIs F.slot_dict_keyiterator_iter (wpAny_call_entry F.slot_dict_keyiterator_iter st.typeIs F.entry_dict_keyiterator_iter ?_ (F.args_dict_keyiterator_iter_1 _))
    show wpAny _ _ (ret (.ref it)) _ _ s
    exact wpAny_pure ⟨_, rfl, "dict_keyiterator", _, st.typeIs, F.slot_dict_keyiterator_next.lookup, h⟩
end
end DL
namespace DL
open PySem PySem.Spec L2
def iDK (td : TE) (X : Cx) : TI := fun σ H R => td σ H fun x H1 => ∃ d o ks ps, x = .ref d ∧ (d == sysModules) = false ∧ AtO X.K d o H1 ∧ RawO X.w ks ps o ∧ R (Itq X.K d o (ps.map (·.1))) H1
section
variable {X : Cx} {tg e : Expr} {td : TE} {apos cpos : Pos}
theorem pi_dk (he : PE X e td) : PI X tg e (iDK td X) := by
  refine ⟨fun pins s σ H R I h => ?_⟩
  refine thn (he.run pins s σ H _ I h) fun u s1 ⟨x, H1, I1, rx, d, o, ks, ps, ex, sm, hd, raw, q⟩ => ?_
  subst ex
  obtain rfl : u = Value.ref d := rx
  obtain ⟨es, ep, hdt, hr⟩ := raw.dat
  exact iter_keys sm (hd.get I1) raw.ex hdt (pi_one (tk := s1.toks) I1 _ (turn_dk _ hdt hr) ⟨_, Heap.get?_push_size _ rfl, rfl, rfl⟩ q)
end
/-- the dict at w stays as it is -/
def keepD (w : W) (cs : Cs) : Cs → Prop := fun cs' => match w with
  | .c i => cs'[i]? = cs[i]?
  | _ => True
def diDK (t : DT) : DI := fun env cs Q E => t env cs (fun w cs1 => match look w cs1 with
  | some (.dct kd) => Q (kd.map fun p => .d p.1) (keepD w cs1) cs1
  | _ => False) E
def diDP (t : DT) : DI := fun env cs Q E => t env cs (fun w cs1 => match look w cs1 with
  | some (.dct kd) => Q (kd.map fun p => .tp [p.1, p.2]) (keepD w cs1) cs1
  | _ => False) E
section
variable {G : Gam} {F H : Hp} {ι : Pl} {cs : Cs}
/-- the raw dict at hand, and that it stays -/
theorem dict_stays (S : Sim G F ι cs H) {w : W} {v : V} {kd : List (D × D)} (r : RepW G F ι w v) (l : look w cs = some (.dct kd)) : ∃ d o ks ps, v = .ref d ∧ (d == sysModules) = false ∧ AtO G.K d o H ∧ RawO G.w ks ps o ∧ RepKV G F kd ks ps ∧
    ∀ {F' ι' cs' H'}, Ext0 F F' ι ι' → Sim G F' ι' cs' H' → keepD w cs cs' → AtO G.K d o H' := by
  have frz : ∀ {v : V}, Rep G F (.dct kd) v → ∃ d o ks ps, v = .ref d ∧ (d == sysModules) = false ∧ AtO G.K d o H ∧ RawO G.w ks ps o ∧ RepKV G F kd ks ps ∧ ∀ {F' ι' cs' H'}, Ext0 F F' ι ι' → Sim G F' ι' cs' H' → AtO G.K d o H' := fun {v} h => by
    simp only [Rep] at h
    obtain ⟨a, o, ks, ps, rfl, h1, h2, h3⟩ := h
    exact ⟨a, o, ks, ps, rfl, h1.1, h1.2.imp (S.same _ _) id, h2, h3, fun e S' => h1.2.imp (fun q => S'.same _ _ (e.same _ _ q)) id⟩
  cases w with
  | dead => cases l
  | tp xs => cases l
  | d x =>
    cases l
    obtain ⟨d, o, ks, ps, a1, a2, a3, a4, a5, a6⟩ := frz r
    exact ⟨d, o, ks, ps, a1, a2, a3, a4, a5, fun e S' _ => a6 e S'⟩
  | c i =>
    obtain ⟨a, ha, rfl⟩ := r
    unfold look at l
    simp only at l
    cases e : cs[i]? with
    | none => rw [e] at l; cases l
    | some y =>
      rw [e] at l
      obtain ⟨a', e', c⟩ := S.cell i y e
      rw [ha] at e'; cases e'
      cases y with
      | frz y =>
        cases l
        obtain ⟨d, o, ks, ps, a1, a2, a3, a4, a5, a6⟩ := frz c.2
        exact ⟨d, o, ks, ps, a1, a2, a3, a4, a5, fun e S' _ => a6 e S'⟩
      | lst xs => cases l
      | obj c fs => cases l
      | dct kvs o =>
        cases l
        obtain ⟨h1, h0, ks, ps, h2, h3, h4⟩ := c
        refine ⟨a, o, ks, ps, rfl, h0, .inl h2, h3, h4, fun {F' ι' cs' H'} e' S' k => ?_⟩
        have k : cs'[i]? = cs[i]? := k
        rw [e] at k
        obtain ⟨a', g1, g2⟩ := S'.cell i _ k
        rw [e'.at_ ha] at g1; cases g1
        obtain ⟨_, _, ks', ps', g3, _⟩ := g2
        exact .inl g3
theorem serves_dk {d : Addr} {o : Obj} {xs : List D} {vs : List V} {keep : Cs → Prop} (h2 : Reps G F xs vs) (hK : ∀ {F' ι' cs' H'}, Ext0 F F' ι ι' → Sim G F' ι' cs' H' → keep cs' → AtO G.K d o H') : Serves G F ι (xs.map .d) keep (Itq G.K d o vs) where
  go := fun {F' ι' cs' H'} i e S k hi => ⟨hK e S k, by rw [h2.length]; simpa using hi⟩
  yld := fun {F' ι' cs' H' x H''} i it e S k hi y => by
    obtain ⟨rfl, y⟩ := y
    rw [List.getElem?_map] at hi
    cases q : xs[i]? with
    | none => rw [q] at hi; cases hi
    | some z =>
      rw [q] at hi; cases hi
      obtain ⟨v, h3, h4⟩ := h2.get q
      rw [h3] at y; cases y
      exact ⟨F', .refl, S, Rep.mono e.same _ _ h4⟩
  stop := fun {F' ι' cs' H'} e S k => ⟨hK e S k, by rw [h2.length, List.length_map]; exact Nat.le_refl _⟩
end
section
variable {X : Cx} {G : Gam} {Wx : WX} {tg e : Expr} {te : DT} {apos cpos : Pos}
theorem i_dk (hK : X.K = G.K) (hw : X.w = G.w) (h : DE X G Wx e te) : DIt X G Wx tg e (diDK te) := PI.imp (pi_dk h) fun σ H R hq => by
  obtain ⟨F, ι, env, cs, Q0, E0, S, R0, t, hq, he⟩ := hq
  refine ⟨F, ι, env, cs, _, E0, S, R0, t, fun F1 ι1 cs1 w v H1 e1 S1 r1 q1 => ?_, he⟩
  cases q : look w cs1 with
  | none => simp only [q] at q1
  | some x =>
    simp only [q] at q1
    cases x with
    | dct kd =>
      obtain ⟨d, o, ks, ps, rfl, a2, a3, a4, a5, a6⟩ := dict_stays S1 r1 q
      rw [hK, hw]
      have sv := serves_dk (keep := keepD w cs1) (kv_reps a5).1 a6
      rw [List.map_map] at sv
      exact ⟨d, o, ks, ps, rfl, a2, a3, a4, hq _ _ _ _ _ _ _ e1 S1 sv q1⟩
    | _ => cases q1
end
def oListK : OpN := fun ws cs Q => match ws with
  | [w] => (match look w cs with
    | some (.dct kd) => Q (.c cs.length) (cs ++ [.lst (kd.map (·.1))])
    | _ => False)
  | _ => False
theorem vals_items {vs : List V} {acc : Array Value} {n : Nat} {es : Array DictEntry} (hn : es.size = n) (hl : vs.length = n) (h : ItemsOf (fun i v => ∃ hi : i < es.size, v = es[i].key) acc n) (hk : ∀ (i : Nat) v, vs[i]? = some v → ∃ e : DictEntry, es[i]? = some e ∧ RelV v e.key) : Vals vs acc.toList := by
  obtain ⟨h1, h2⟩ := h
  have all : ∀ (i : Nat) v, vs[i]? = some v → ∃ u, acc.toList[i]? = some u ∧ RelV v u := fun i v e => by
    have hi : i < acc.size := by
      have := (List.getElem?_eq_some_iff.mp e).1
      omega
    obtain ⟨en, e1, e2⟩ := hk i v e
    obtain ⟨hi', ek⟩ := h2 i acc[i] (Array.getElem?_eq_getElem hi)
    rw [Array.getElem?_eq_getElem hi'] at e1
    cases e1
    exact ⟨acc[i], by rw [Array.getElem?_toList, Array.getElem?_eq_getElem hi], ek ▸ e2⟩
  have len : vs.length = acc.toList.length := by rw [hl, Array.length_toList, h1]
  clear hk h2 h1 hl hn
  generalize acc.toList = l at all len
  induction vs generalizing l with
  | nil => cases l with
    | nil => exact .nil
    | cons a r => simp at len
  | cons v vs ih =>
    cases l with
    | nil => simp at len
    | cons a r =>
      obtain ⟨u, g1, g2⟩ := all 0 v rfl
      simp at g1; subst g1
      exact .cons g2 (ih r (fun i v e => by simpa using all (i + 1) v (by simpa using e)) (by simpa using len))
theorem c_listK (hK : X.K = G.K) (hw : X.w = G.w) (hc : X.calm = true) : CallR X (.type "list") (upRN G oListK) := by
  intro pins s σ H xs us Q I r q
  obtain ⟨F, ι, cs, ws, Q0, S, rw0, o, hq⟩ := q
  unfold oListK at o
  split at o
  · obtain ⟨v, rfl, r0⟩ := pair1 rw0
    obtain ⟨u, rfl, ru⟩ := r.one
    split at o
    · rename_i kd l
      obtain ⟨d, ob, ks, ps, rfl, a2, a3, a4, a5, a6⟩ := dict_stays S r0 l
      cases (show u = Value.ref d from ru)
      obtain ⟨es, ep, hdt, hr⟩ := a4.dat
      have hm : s.heap.DictRaw d es ep := ⟨ob, AtO.get I (hK ▸ a3), a4.ex, hdt⟩
      obtain ⟨n1, g⟩ := raw_get hr
      have n2 := (kv_len a5).2
      have n3 := (kv_len a5).1
      have n4 := a4.len
      refine PySem.W.kdl_call (_root_.PySem.KdlSrc.rawDict a2) (I.ok.hd hc) hm (by rw [← Array.length_toList]; omega) fun h' tk acc c hk hS hI => ?_
      have rv : Vals (ps.map (·.1)) acc.toList := vals_items rfl (by rw [List.length_map, ← n1, Array.length_toList]) hI fun i v e => by
        rw [List.getElem?_map] at e
        cases q : ps[i]? with
        | none => rw [q] at e; cases e
        | some p =>
          rw [q] at e; cases e
          obtain ⟨en, g1, g2, g3⟩ := g i p q
          exact ⟨en, by rw [← Array.getElem?_toList]; exact g1, g2⟩
      have hz : (ps.map (·.1)).length ≤ sizeLine := by rw [List.length_map]; omega
      have hp := I.hok.fresh (Nat.le_refl s.heap.objs.size)
      have I2 : Inv X pins σ (upd H s.heap.objs.size (.lst (ps.map (·.1)))) { s with heap := h', toks := tk } :=
        I.laid hk (Nat.le_refl _) ⟨hz, acc.toList, c, rv, by simpa using hS⟩
      obtain ⟨e3, S3⟩ := S.owned (o := .lst (ps.map (·.1))) (x := .lst (kd.map (·.1))) hp fun ι' => ⟨S.dead hp, _, upd_same, (kv_reps a5).1⟩
      exact ⟨.ref s.heap.objs.size, _, I2, rfl, hq _ _ _ (.c cs.length) _ _ e3 S3 ⟨_, by rw [← S.len]; simp [Pl.add], rfl⟩ o⟩
    · cases o
  · cases o
end DL
namespace DL
open PySem PySem.Spec L2
open PyProof.Rows (envOfC)
theorem look_none {gs : List (Str × V)} {f : Str} (h : gs.lookup f = none) : f ∉ gs.map (·.1) := by
  induction gs with
  | nil => simp
  | cons a r ih =>
    obtain ⟨g, x⟩ := a
    rw [List.lookup_cons] at h
    simp only [List.map_cons, List.mem_cons, not_or]
    split at h
    · cases h
    · rename_i hb
      exact ⟨fun z => by subst z; simp at hb, ih h⟩
theorem sub_len {α : Type} [DecidableEq α] : ∀ {l m : List α}, l.Nodup → (∀ x ∈ l, x ∈ m) → l.length ≤ m.length
  | [], _, _, _ => Nat.zero_le _
  | a :: l, m, hn, h => by
    have hn' := List.nodup_cons.mp hn
    have ha := h a List.mem_cons_self
    have := sub_len (m := m.erase a) hn'.2 fun x hx => (List.mem_erase_of_ne (fun z => hn'.1 (by rw [← z]; exact hx))).mpr (h x (List.mem_cons_of_mem _ hx))
    rw [List.length_erase_of_mem ha] at this
    have := List.length_pos_of_mem ha
    simp only [List.length_cons]
    omega
theorem FldsAt.few {nm : List Str} {gs : List (Str × V)} {vs : List (Option V)} (h : FldsAt nm gs vs) : gs.length ≤ 900 := by
  have := sub_len (l := gs.map (·.1)) (m := nm) h.2.1.2.2 fun f hf => Decidable.byContradiction fun z => look_none (h.2.2.2 f z) hf
  rw [List.length_map] at this
  exact Nat.le_trans this h.2.1.1
theorem putF_nodup {f : Str} {y : V} : ∀ {gs : List (Str × V)}, (gs.map (·.1)).Nodup → ((putF f y gs).map (·.1)).Nodup ∧ ∀ g, g ∈ (putF f y gs).map (·.1) → g = f ∨ g ∈ gs.map (·.1)
  | [], _ => by simp [putF]
  | (g, x) :: r, h => by
    simp only [List.map_cons, List.nodup_cons] at h
    obtain ⟨i1, i2⟩ := putF_nodup (f := f) (y := y) h.2
    show ((if g = f then (g, y) :: r else (g, x) :: putF f y r).map (·.1)).Nodup ∧ ∀ z, z ∈ (if g = f then (g, y) :: r else (g, x) :: putF f y r).map (·.1) → _
    by_cases e : g = f
    · rw [if_pos e]
      refine ⟨by simp only [List.map_cons, List.nodup_cons]; exact h, fun z hz => .inr (by simpa using hz)⟩
    · rw [if_neg e]
      simp only [List.map_cons, List.nodup_cons, List.mem_cons]
      refine ⟨⟨fun z => ?_, i1⟩, fun z hz => ?_⟩
      · rcases i2 g z with q | q
        · exact e q
        · exact h.1 q
      · rcases hz with rfl | hz
        · exact .inr (.inl rfl)
        · exact (i2 z hz).imp id .inr
theorem FldsAt.put {nm : List Str} {gs : List (Str × V)} {vs : List (Option V)} {i : Nat} {f : Str} (h : FldsAt nm gs vs) (hi : nm[i]? = some f) (y : V) : FldsAt nm (putF f y gs) (vs.set i (some y)) := by
  obtain ⟨h1, ⟨h2, h3, h4⟩, h5, h6⟩ := h
  have hil := (List.getElem?_eq_some_iff.mp hi).1
  refine ⟨by simp [h1], ⟨h2, h3, (putF_nodup h4).1⟩, fun j g hj => ?_, fun g hg => ?_⟩
  · rw [lookup_putF]
    by_cases e : i = j
    · subst e
      rw [hi] at hj; cases hj
      rw [if_pos rfl, List.getElem?_set_self (by rw [h1]; exact hil)]
      rfl
    · have : g ≠ f := fun z => by
        subst z
        obtain ⟨l1, e1⟩ := List.getElem?_eq_some_iff.mp hi
        obtain ⟨l2, e2⟩ := List.getElem?_eq_some_iff.mp hj
        exact e ((List.getElem_inj h3).mp (e1.trans e2.symm))
      rw [if_neg this, List.getElem?_set_ne e]
      exact h5 j g hj
  · rw [lookup_putF, if_neg (fun z => hg (by rw [z]; exact List.mem_of_getElem? hi))]
    exact h6 g hg
theorem FldsAt.new {nm : List Str} (h1 : nm.length ≤ 900) (h2 : nm.Nodup) : FldsAt nm [] (List.replicate nm.length none) := by
  refine ⟨by simp, ⟨h1, h2, by simp⟩, fun i f hi => ?_, fun f hf => rfl⟩
  have := (List.getElem?_eq_some_iff.mp hi).1
  rw [List.getElem?_replicate, if_pos this]
  rfl
def fldW (c i : Nat) (w : W) (cs : Cs) : Option W := match w with
  | .d (.obj c' ds) => if c' = c then (ds[i]?).map .d else none
  | .c k => (match cs[k]? with
    | some (.obj c' fs) => if c' = c then (fs[i]?).join else none
    | some (.frz (.obj c' ds)) => if c' = c then (ds[i]?).map .d else none
    | _ => none)
  | _ => none
def dFld (c i : Nat) (t : DT) : DT := fun env cs Q E => t env cs (fun w cs1 => match fldW c i w cs1 with
  | some u => Q u cs1
  | none => False) E
section
variable {G : Gam} {F H : Hp} {ι : Pl} {cs : Cs}
theorem paired_at {α β : Type} {P : α → β → Prop} : ∀ {xs : List α} {ys : List β}, Paired P xs ys → ∀ {i : Nat} {x : α}, xs[i]? = some x → ∃ y, ys[i]? = some y ∧ P x y
  | _, _, .nil, i, x, h => by simp at h
  | _, _, .cons r t, 0, x, h => by simp at h; subst h; exact ⟨_, rfl, r⟩
  | _, _, .cons r t, i + 1, x, h => by simpa using paired_at t (i := i) (by simpa using h)
theorem fldW_ok (S : Sim G F ι cs H) {c i : Nat} {w u : W} {v : V} {C : Addr} {nm : List Str} {f : Str} (hc : G.cls c = some (C, nm)) (hf : nm[i]? = some f) (r : RepW G F ι w v) (h : fldW c i w cs = some u) :
    ∃ a dx gs y, v = .ref a ∧ H a = some (.ins C dx gs) ∧ gs.lookup f = some y ∧ RepW G F ι u y := by
  have frz : ∀ {c' : Nat} {ds : List D} {v : V} {u : W}, Rep G F (.obj c' ds) v → (if c' = c then (ds[i]?).map W.d else none) = some u → ∃ a dx gs y, v = .ref a ∧ H a = some (.ins C dx gs) ∧ gs.lookup f = some y ∧ RepW G F ι u y := fun {c' ds v u} r hh => by
    split at hh
    · rename_i e
      subst e
      simp only [Rep] at r
      obtain ⟨a, C', nm', dx, gs, vs, rfl, h2, h3, h4, h5⟩ := r
      rw [hc] at h2; cases h2
      cases q : ds[i]? with
      | none => rw [q] at hh; cases hh
      | some x =>
        rw [q] at hh; cases hh
        obtain ⟨y, e1, e2⟩ := h5.get q
        refine ⟨a, dx, gs, y, rfl, S.same _ _ h3, ?_, e2⟩
        rw [h4.2.2.1 i f hf, List.getElem?_map, e1]
        rfl
    · cases hh
  cases w with
  | dead => cases h
  | tp xs => cases h
  | d x =>
    cases x with
    | obj c' ds => exact frz r h
    | _ => cases h
  | c k =>
    obtain ⟨a, ha, rfl⟩ := r
    unfold fldW at h
    simp only at h
    cases e : cs[k]? with
    | none => rw [e] at h; cases h
    | some y =>
      rw [e] at h
      obtain ⟨a', e', cl⟩ := S.cell k y e
      rw [ha] at e'; cases e'
      cases y with
      | lst xs => cases h
      | dct kvs o => cases h
      | frz x =>
        cases x with
        | obj c' ds => exact frz cl.2 h
        | _ => cases h
      | obj c' fs =>
        simp only at h
        split at h
        · rename_i ec
          subst ec
          obtain ⟨_, C', nm', dx, gs, vs, h2, h3, h4, h5⟩ := cl
          rw [hc] at h3; cases h3
          cases q : fs[i]? with
          | none => rw [q] at h; cases h
          | some o =>
            rw [q] at h
            obtain ⟨p, e1, e2⟩ := paired_at h5 q
            cases o with
            | none => cases h
            | some x =>
              have h : some x = some u := h
              cases h
              cases p with
              | none => exact e2.elim
              | some y => exact ⟨a, dx, gs, y, rfl, h2, by rw [h4.2.2.1 i f hf, e1]; rfl, e2⟩
        · cases h
end
section
variable {X : Cx} {G : Gam} {Wx : WX} {e o value : Expr} {te to tv : DT} {pos pos' : Pos} {c i : Nat} {C : Addr} {nm : List Str} {f : Str}
theorem e_fld (Cd : ClsD X G c C nm) (hf : nm[i]? = some f) (he : DE X G Wx e te) (hb : attributeBase e f X.env (eval e X.env) = eval e X.env := by rfl) : DE X G Wx (.Attribute e f pos) (dFld c i te) :=
  PE.imp (pe_fld he hb) fun σ H Q h => by
    obtain ⟨F, ι, env, cs, Q0, E0, S, R, t, hq, hE⟩ := h
    refine ⟨F, ι, env, cs, _, E0, S, R, t, fun F1 ι1 cs1 w v H1 e1 S1 r1 q1 => ?_, hE⟩
    cases q : fldW c i w cs1 with
    | none => rw [q] at q1; exact q1.elim
    | some u =>
      rw [q] at q1
      obtain ⟨a, dx, gs, y, rfl, h1, h2, h3⟩ := fldW_ok S1 Cd.at_ hf r1 q
      exact ⟨a, C, dx, gs, y, rfl, h1, Cd.cls, Cd.no f (List.mem_of_getElem? hf), h2, hq _ _ _ _ _ _ e1 S1 h3 q1⟩
/-- a constant of the class -/
def dCon (c : Nat) (v : D) (t : DT) : DT := fun env cs Q E => t env cs (fun w cs1 => isObj c w cs1 ∧ Q (.d v) cs1) E
theorem e_con {v : V} {u : Value} {x : D} (Cd : ClsD X G c C nm) (k : Con X.K C f v u) (hn : f ∉ nm) (hx : ∀ F, Rep G F x v) (he : DE X G Wx e te) (hb : attributeBase e f X.env (eval e X.env) = eval e X.env := by rfl) : DE X G Wx (.Attribute e f pos) (dCon c x te) :=
  PE.imp (pe_con he hb) fun σ H Q h => by
    obtain ⟨F, ι, env, cs, Q0, E0, S, R, t, hq, hE⟩ := h
    refine ⟨F, ι, env, cs, _, E0, S, R, t, fun F1 ι1 cs1 w v' H1 e1 S1 r1 q1 => ?_, hE⟩
    obtain ⟨ho, q1⟩ := q1
    obtain ⟨a, C', nm', dx, gs, vs, rfl, h2, h3, h4⟩ := isObj_at S1 r1 ho
    rw [Cd.at_] at h2; cases h2
    exact ⟨a, C, dx, gs, v, u, rfl, h3, Cd.cls, k, h4.2.2.2 f hn, hq _ _ _ (.d x) _ _ e1 S1 (hx _) q1⟩
def dSetF (c i : Nat) (to tv : DT) : DS := fun D env cs => tv env cs (fun u cs1 => to env cs1 (fun w cs2 => match w with
  | .c k => (match cs2[k]? with
    | some (.obj c' fs) => c' = c ∧ D.nx env (cs2.set k (.obj c' (fs.set i (some u))))
    | _ => False)
  | _ => False) fun x c => D.ex x env c) fun x c => D.ex x env c
theorem paired_set {α β : Type} {P : α → β → Prop} {a : α} {b : β} (h : P a b) : ∀ {xs : List α} {ys : List β} (i : Nat), Paired P xs ys → Paired P (xs.set i a) (ys.set i b)
  | _, _, i, .nil => by simpa using Paired.nil
  | _, _, 0, .cons r t => .cons h t
  | _, _, i + 1, .cons r t => .cons r (paired_set h i t)
theorem s_fld (Cd : ClsD X G c C nm) (hf : nm[i]? = some f) (ho : DE X G Wx o to) (hv : DE X G Wx value tv) (hs : swapsWith value (some (.Attribute o f pos')) pos.line X.env = pure false := by rfl) :
    DSt X G Wx (.Assign [.Attribute o f pos'] value pos) (dSetF c i to tv) :=
  PS.imp (ps_fld ho hv hs) fun D σ H h => by
    obtain ⟨F, ι, env, cs, D0, S, R, t, h1, h2, h3, h4, h5⟩ := h
    refine ⟨F, ι, env, cs, _, _, S, R, t, fun F1 ι1 cs1 u y H1 e1 S1 ru q1 => ?_, fun F1 ι1 cs1 x cls od H1 e1 S1 r1 q1 => h5 F1 ι1 cs1 x cls od env σ H1 e1 S1 (R.mono e1) r1 q1⟩
    refine ⟨F1, ι1, env, cs1, _, _, S1, R.mono e1, q1, fun F2 ι2 cs2 w x H2 e2 S2 rw2 q2 => ?_, fun F2 ι2 cs2 x cls od H2 e2 S2 r2 q2 => h5 F2 ι2 cs2 x cls od env σ H2 (e1.trans e2) S2 (R.mono (e1.trans e2)) r2 q2⟩
    cases w with
    | d x => exact q2.elim
    | dead => exact q2.elim
    | tp x => exact q2.elim
    | c k =>
      dsimp only at q2
      obtain ⟨a, ha, rfl⟩ := rw2
      cases e : cs2[k]? with
      | none => rw [e] at q2; exact q2.elim
      | some y0 =>
        rw [e] at q2
        cases y0 with
        | lst xs => exact q2.elim
        | dct kvs o => exact q2.elim
        | frz x => exact q2.elim
        | obj c' fs =>
          obtain ⟨rfl, q2⟩ := q2
          obtain ⟨a', e', cl⟩ := S2.cell k _ e
          rw [ha] at e'; cases e'
          obtain ⟨hF, C', nm', dx, gs, vs, g2, g3, g4, g5⟩ := cl
          rw [Cd.at_] at g3; cases g3
          refine ⟨a, C, dx, gs, rfl, g2, Cd.cls, Cd.no f (List.mem_of_getElem? hf), by have := g4.few; omega, ?_⟩
          refine h1 F2 ι2 _ env σ _ (e1.trans e2) (S2.write (x := .obj c' (fs.set i (some u))) ha e hF ?_) (R.mono (e1.trans e2)) q2
          exact ⟨hF, C, nm, dx, _, _, upd_same, Cd.at_, g4.put hf y, paired_set (show RepWO G F2 ι2 (some u) (some y) from ru.mono e2) i g5⟩
def fixO (k : Nat) (cs : Cs) (K : Cs → Prop) : Prop := match cs[k]? with
  | some (.obj c fs) => ∃ ws, fs = ws.map some ∧ fixAll ws cs fun ds cs1 => K (cs1.set k (.frz (.obj c ds)))
  | _ => False
theorem paired_some {F : Hp} {ι : Pl} : ∀ {ws : List W} {vs : List (Option V)}, Paired (RepWO G F ι) (ws.map some) vs → ∃ us, vs = us.map some ∧ Paired (RepW G F ι) ws us
  | [], _, .nil => ⟨[], rfl, .nil⟩
  | w :: ws, _, .cons (b := b) r t => by
    cases b with
    | none => exact r.elim
    | some u =>
      obtain ⟨us, rfl, h⟩ := paired_some t
      exact ⟨u :: us, rfl, .cons r h⟩
theorem fixAll_obj {k c : Nat} {fs : List (Option W)} : ∀ {ws : List W} {cs : Cs} {Q : List D → Cs → Prop}, cs[k]? = some (.obj c fs) → fixAll ws cs Q → fixAll ws cs fun ds cs1 => Q ds cs1 ∧ cs1[k]? = some (.obj c fs)
  | [], cs, Q, e, h => ⟨h, e⟩
  | w :: ws, cs, Q, e, h => by
    have step : ∀ {R R' : D → Cs → Prop}, (∀ x cs1, cs1[k]? = some (.obj c fs) → R x cs1 → R' x cs1) → fixW w cs R → fixW w cs R' := fun {R R'} g q => by
      cases w with
      | d x => exact g _ _ e q
      | dead => exact q.elim
      | tp x => exact q.elim
      | c i =>
        have q : fixC i cs R := q
        show fixC i cs R'
        unfold fixC at q ⊢
        have ne : ∀ {y : Cell}, cs[i]? = some y → (∀ c fs, y ≠ .obj c fs) → i ≠ k := fun {y} q n z => by
          subst z; rw [e] at q; cases q; exact n _ _ rfl
        split at q
        · exact g _ _ e q
        · rename_i xs q'
          exact g _ _ (by rw [List.getElem?_set_ne (ne q' fun _ _ z => nomatch z)]; exact e) q
        · rename_i kvs o q'
          exact g _ _ (by rw [List.getElem?_set_ne (ne q' fun _ _ z => nomatch z)]; exact e) q
        · exact q.elim
    exact step (fun x cs1 e1 q => fixAll_obj e1 q) h
theorem fixO_ok {F H : Hp} {ι : Pl} {cs : Cs} (S : Sim G F ι cs H) {k : Nat} {K : Cs → Prop} (h : fixO k cs K) : ∃ F' cs', Ext F F' ι ι ∧ Sim G F' ι cs' H ∧ K cs' := by
  unfold fixO at h
  cases e : cs[k]? with
  | none => rw [e] at h; exact h.elim
  | some y =>
    rw [e] at h
    cases y with
    | lst xs => exact h.elim
    | dct kvs o => exact h.elim
    | frz x => exact h.elim
    | obj c fs =>
      obtain ⟨ws, rfl, h⟩ := h
      obtain ⟨a, ha, h1, C, nm, dx, gs, vs, h2, h3, h4, h5⟩ := S.cell k _ e
      obtain ⟨us, rfl, p⟩ := paired_some h5
      obtain ⟨F1, cs1, ds, e1, S1, r1, q1, ek⟩ := fixAll_ok S p (fixAll_obj e h)
      obtain ⟨a', ha', g1, C', nm', dx', gs', vs', g2, g3, g4, g5⟩ := S1.cell k _ ek
      rw [ha] at ha'; cases ha'
      obtain ⟨e2, S2⟩ := S1.freeze (x := .obj c ds) ha ek g1 h2 (by
        simp only [Rep]
        exact ⟨a, C, nm, dx, gs, us, rfl, h3, upd_same, h4, Reps.mono (fun b u q => by rw [upd_ne (ne_of_none q g1)]; exact q) _ _ r1⟩)
      exact ⟨_, _, e1.trans e2, S2, q1⟩
/-- behind the block the object in slot i is fixed -/
def frzS (i : Nat) (t : DS) : DS := fun D env cs => t { D with nx := fun e c => match e[i]? with
  | some (some (.c k)) => fixO k c fun c' => D.nx e c'
  | _ => False } env cs
theorem ss_frz {body : List Stmt} {t : DS} (i : Nat) (h : DSs X G Wx body t) : DSs X G Wx body (frzS i t) := PSs.imp h fun D σ H hh => by
  obtain ⟨F, ι, env, cs, D0, S, R, t, h1, h2, h3, h4, h5⟩ := hh
  refine ⟨F, ι, env, cs, _, S, R, t, ?_, h2, h3, h4, h5⟩
  intro F' ι' cs' env' σ' H' e S' R' q
  dsimp only at q
  split at q
  · obtain ⟨F2, cs2, e2, S2, q2⟩ := fixO_ok S' q
    exact h1 F2 ι' cs2 env' σ' H' (e.trans e2) S2 (R'.mono e2) q2
  · exact q.elim
end
theorem Sim.apart {G : Gam} {F H : Hp} {ι : Pl} {cs : Cs} (S : Sim G F ι cs H) {p : Addr} {o : HO} (hp : H p = none) : Ext F F ι ι ∧ Sim G F ι cs (upd H p o) := by
  have hF := S.dead hp
  have hR : ι.R p = none := S.fr.free hp
  refine ⟨.refl, fun b u q => by rw [upd_ne (ne_of_none q hF)]; exact S.same _ _ q, S.len, S.nd, fun i x q => ?_, fun b u q => by rw [upd_ne (ne_of_none q hR)]; exact S.fr _ _ q, S.ap⟩
  obtain ⟨a, h1, h2⟩ := S.cell i x q
  obtain ⟨u, hu⟩ := S.live h1
  have ha : a ≠ p := ne_of_none hu hp
  exact ⟨a, h1, h2.mono .refl id fun v z => by rw [upd_ne ha]; exact z⟩
theorem guards_make {A : Around} {C : Addr} {us : List Value} {kw : List (Str × Value)} (h : A.guards = some []) : (A.under (.builtin "type.__call__" ⟨.ref C :: us, kw⟩)).guards = some [] := by
  first
    | exact h
    | (simp [Around.under, Code.guards, pushGuards, Code.isGuard, guardIds, h])
section
variable {X : Cx} {G : Gam} {Wx : WX} {k : Nat} {f C : Addr} {fd : FuncData} {ps : List Str} {sp : DSpec} {n : Nat} {ks : List Str} {gW : List W → List W → List W} {c : Nat} {nm : List Str}
/-- what a class of the text is, to be made -/
structure MkD (X : Cx) (G : Gam) (c : Nat) (C f : Addr) (nm : List Str) : Prop where
  at_ : G.cls c = some (C, nm)
  mkr : Mk X.K C f
  few : nm.length ≤ 900
  nd : nm.Nodup
theorem run_mkD (M : MkD X G c C f nm) (Fd : FnD X.prog X.w X.K X.mg X.base G k f fd ps sp) (hgd : X.A.guards = some []) (hr : Room (k + 1) X.A) (tk : Takes X Wx) (hK : X.K = G.K) (hb : BindD G fd ps (n + 1) ks gW)
    {pins : List (Addr × Obj)} {s : Shared} {σ : L2.St} {H : Hp} {Q : VK} {F : Hp} {ι : Pl} {cs : Cs} {wp wk : List W} {vp vk : List V} {us zs : List Value} {Q0 : DQ} {E0 : DX}
    (I : Inv X pins σ H s) (S : Sim G F ι cs H) (rp : Paired (RepW G F ι) wp vp) (rk : Paired (RepW G F ι) wk vk) (r1 : Vals vp us) (r2 : Vals vk zs) (ln : wp.length = n) (lk : wk.length = ks.length)
    (h : sp (gW (.c cs.length :: wp) wk) (cs ++ [.obj c (List.replicate nm.length none)]) (fun w cs' => w = .d .non ∧ Q0 (.c cs.length) cs') E0)
    (hQ : ∀ F' ι' cs' w v H', Ext F F' ι ι' → Sim G F' ι' cs' H' → RepW G F' ι' w v → Q0 w cs' → Q v H')
    (hE : ∀ F' ι' cs' x cls od H', Ext F F' ι ι' → Sim G F' ι' cs' H' → RepX G F' x cls od H' → E0 x cs' → Wx cls od σ H') :
    wpAny (model X.prog X.w) X.A (call (.ref C) us (ks.zip zs)) (EP X pins σ Q) X.xe s := by
  have hx : H (s.heap.objs.size + 1) = none := I.hok.fresh (Nat.le_succ _)
  have hdx : H s.heap.objs.size = none := I.hok.fresh (Nat.le_refl _)
  have ne : s.heap.objs.size ≠ s.heap.objs.size + 1 := Nat.ne_of_lt (Nat.lt_succ_self _)
  have I2 := Inv.made (C := C) I
  -- the new object is a cell
  obtain ⟨e0, S0⟩ := S.apart (o := .own (s.heap.objs.size + 1)) hdx
  obtain ⟨e1, S1⟩ := S0.owned (p := s.heap.objs.size + 1) (o := .ins C s.heap.objs.size []) (x := .obj c (List.replicate nm.length none)) (by rw [upd_ne ne.symm]; exact hx)
    (fun ι' => ⟨S0.dead (by rw [upd_ne ne.symm]; exact hx), C, nm, s.heap.objs.size, [], List.replicate nm.length none, upd_same, M.at_, FldsAt.new M.few M.nd, by
      generalize nm.length = m
      induction m with
      | zero => exact .nil
      | succ m ih => exact .cons True.intro ih⟩)
  have E := e0.trans e1
  have rself : RepW G F (ι.add (s.heap.objs.size + 1)) (.c cs.length) (.ref (s.heap.objs.size + 1)) := ⟨_, by rw [← S.len]; simp [Pl.add], rfl⟩
  obtain ⟨vals, b, rr⟩ := hb.to _ (.ref (s.heap.objs.size + 1) :: us) zs (hK ▸ I2.kIn) (by rw [List.length_cons, ← r1.length, ← rp.length, ln]) (by rw [← r2.length, ← rk.length]; exact lk)
  obtain ⟨vv, r3, r4⟩ := rr F (ι.add (s.heap.objs.size + 1)) (.c cs.length :: wp) wk (.ref (s.heap.objs.size + 1) :: vp) vk (.cons rself (Paired.imp' (fun _ _ q => q.mono E) rp)) (Paired.imp' (fun _ _ q => q.mono E) rk) (.cons rfl r1) r2
  refine wpAny_call (make_map (f := f) I.kIn M.mkr.makes M.mkr.init (beq_iff_eq.mp M.mkr.fn) (codeAny_mono (Fd.run _ X.stack _ _ ⟨Value.ref (s.heap.objs.size + 1) :: us, ks.zip zs⟩ vals vv F (ι.add (s.heap.objs.size + 1)) _ _ _ _ (fun v H2 => v = .non ∧ Q (.ref (s.heap.objs.size + 1)) H2) (fun c d H' => Wx c d σ H')
    (guards_make hgd) (hr.make C us (ks.zip zs)) (I2.env0.make C us (ks.zip zs)) b r4 S1 r3 h (fun F' ι' cs' w v H' e' S' rw' q => ?_) (fun F' ι' cs' x cls od H' e' S' rx q => hE F' ι' cs' x cls od H' (E.trans e') S' rx q)) fun r s' hq' => ?_))
  · obtain ⟨rfl, q⟩ := q
    refine ⟨by simpa only [RepW, Rep] using rw', hQ F' ι' cs' _ _ H' (E.trans e') S' (rself.mono e') q⟩
  · cases r with
    | error e => exact tk _ _ (XE.of_call I2 (fun _ _ _ z => z) hq')
    | ok fl =>
      cases fl with
      | ret u =>
        obtain ⟨v, H', I3, rv, ev, q3⟩ := I2.after hq'
        subst ev
        exact ⟨rv, ⟨V.ref (s.heap.objs.size + 1), H', I3, rfl, q3⟩⟩
      | next => exact False.elim hq'
      | brk => exact False.elim hq'
      | cont => exact False.elim hq'
end
end DL
namespace DL
open PySem PySem.Spec L2
/-- what comes of a new object: fixed at the end of its __init__ it is data, else it stays a cell -/
def madeQ (n : Nat) (cs : Cs) (Q : DQ) : Prop := match cs[n]? with
  | some (.frz x) => Q (.d x) (dropTo n cs)
  | some (.obj _ _) => Q (.c n) cs
  | _ => False
theorem madeQ_ok {G : Gam} {F F' H' : Hp} {ι ι' : Pl} {cs' : Cs} {n : Nat} {v : V} {Q : DQ} (S' : Sim G F' ι' cs' H') (e : Ext F F' ι ι') (hn : n = ι.l.length) (r : RepW G F' ι' (.c n) v) (h : madeQ n cs' Q) :
    ∃ ι'' cs'' w, Ext F F' ι ι'' ∧ Sim G F' ι'' cs'' H' ∧ RepW G F' ι'' w v ∧ Q w cs'' := by
  unfold madeQ at h
  cases q : cs'[n]? with
  | none => rw [q] at h; exact h.elim
  | some y =>
    rw [q] at h
    cases y with
    | lst xs => exact h.elim
    | dct kvs o => exact h.elim
    | obj c fs => exact ⟨ι', cs', _, e, S', r, h⟩
    | frz x =>
      subst hn
      obtain ⟨a, ha, rfl⟩ := r
      obtain ⟨a', h1, h2⟩ := S'.cell _ _ q
      rw [ha] at h1; cases h1
      exact ⟨ι, _, .d x, e.home, S'.back e, h2.2, h⟩
/-- C(..) -/
def dMake (c nf : Nat) (sp : DSpec) (n m : Nat) (gW : List W → List W → List W) (t tk : DA) : DT := fun env cs Q E => t env cs (fun ws cs1 => tk env cs1 (fun zs cs2 => ws.length = n ∧ zs.length = m ∧
  sp (gW (.c cs2.length :: ws) zs) (cs2 ++ [.obj c (List.replicate nf none)]) (fun w cs3 => w = .d .non ∧ madeQ cs2.length cs3 Q) E) E) E
section
variable {X : Cx} {G : Gam} {Wx : WX} {k : Nat} {f C : Addr} {fd : FuncData} {ps : List Str} {sp : DSpec} {n : Nat} {ks : List Str} {gW : List W → List W → List W} {c : Nat} {nm : List Str}
variable {x : Str} {p pos : Pos} {e : Expr} {es : List Expr} {kws : List Keyword} {t tks : DA}
theorem make_args {m nf : Nat} {σ : L2.St} {H : Hp} {Q : VK} (h : upE G Wx (dMake c nf sp n m gW t tks) σ H Q) : upA G Wx t σ H fun vp H1 => upA G Wx tks σ H1 fun vk H2 =>
    ∃ F ι cs wp wk Q0 E0, Sim G F ι cs H2 ∧ Paired (RepW G F ι) wp vp ∧ Paired (RepW G F ι) wk vk ∧ wp.length = n ∧ wk.length = m ∧ sp (gW (.c cs.length :: wp) wk) (cs ++ [.obj c (List.replicate nf none)]) (fun w cs3 => w = .d .non ∧ madeQ cs.length cs3 Q0) E0 ∧
      (∀ F' ι' cs' w v H', Ext F F' ι ι' → Sim G F' ι' cs' H' → RepW G F' ι' w v → Q0 w cs' → Q v H') ∧
      ∀ F' ι' cs' x cls od H', Ext F F' ι ι' → Sim G F' ι' cs' H' → RepX G F' x cls od H' → E0 x cs' → Wx cls od σ H' := by
  obtain ⟨F, ι, env, cs, Q0, E0, S, R, t, hq, hE⟩ := h
  refine ⟨F, ι, env, cs, _, E0, S, R, t, fun F1 ι1 cs1 wp vp H1 e1 S1 r1 q1 => ?_, hE⟩
  refine ⟨F1, ι1, env, cs1, _, E0, S1, R.mono e1, q1, fun F2 ι2 cs2 wk vk H2 e2 S2 r2 q2 => ?_, fun F2 ι2 cs2 z cls od H2 e2 => hE F2 ι2 cs2 z cls od H2 (e1.trans e2)⟩
  obtain ⟨l1, l2, q⟩ := q2
  exact ⟨F2, ι2, cs2, wp, wk, Q0, E0, S2, Paired.imp' (fun _ _ q => q.mono e2) r1, r2, l1, l2, q, fun F3 ι3 cs3 w v H3 e3 => hq F3 ι3 cs3 w v H3 (e1.trans (e2.trans e3)), fun F3 ι3 cs3 z cls od H3 e3 => hE F3 ι3 cs3 z cls od H3 (e1.trans (e2.trans e3))⟩
theorem e_mk (M : MkD X G c C f nm) (Fd : FnD X.prog X.w X.K X.mg X.base G k f fd ps sp) (hgd : X.A.guards = some []) (hr : Room (k + 1) X.A) (tk : Takes X Wx) (hK : X.K = G.K) (hg : Gl X x) (hm : X.mg x = some (.ref C))
    (hb : BindD G fd ps (n + 1) [] gW) (ha : DAs X G Wx (e :: es) t) (hdb : (x == ("__debug__" : Str)) = false := by decide) (he : starEach (e :: es) X.env = (false, eval e X.env) :: starEach es X.env := by rfl)
    (hpl : (backTo pos (starEach es X.env)).any (·.1) = false := by rfl) : DE X G Wx (.Call (.Name x p) (e :: es) [] pos) (dMake c nm.length sp n 0 gW t dNil) := by
  refine ⟨fun pins s σ H Q I h => ?_⟩
  refine wpAny_Call_Name_kw (ld_glob I hg hm ?_ hdb)
  refine PySem.W.callWith_K (h₀ := X.base) I.ok.mod.kin M.mkr.kp (thn (ha.run pos pins s σ H _ I (make_args h)) fun us s1 ⟨vs, H1, I1, r, q⟩ => ⟨I1.kIn, ?_⟩) he hpl
  obtain ⟨F, ι, cs, wp, wk, Q0, E0, S, r1, r2, l1, l2, q, hQ, hE⟩ := dNil_id q
  exact run_mkD (Q0 := fun w cs3 => w = .c cs.length ∧ madeQ cs.length cs3 Q0) (zs := []) M Fd hgd hr tk hK hb I1 S r1 r2 r .nil l1 l2 (by simpa using q) (fun F' ι' cs' w v H' e' S' r' q' => by
    obtain ⟨rfl, q'⟩ := q'
    obtain ⟨ι'', cs'', w, a1, a2, a3, a4⟩ := madeQ_ok S' e' S.len.symm r' q'
    exact hQ F' ι'' cs'' w v H' a1 a2 a3 a4) hE
theorem BindD.dfl {ds : List Value} {dvs : List V} {dws : List W} (h : Binds G.K fd ps ds) (hv : Vals dvs ds) (hw : ∀ F ι, Paired (RepW G F ι) dws dvs) (hn : n + dws.length = ps.length) : BindD G fd ps n [] (fun us _ => us ++ dws) where
  to := fun s us zs X l1 l2 => by
    have e1 : dws.length = ds.length := by rw [(hw (fun _ => none) ⟨[], fun _ => none⟩).length, hv.length]
    refine ⟨us ++ ds, ?_, fun F ι wp wk vp vk r1 r2 r3 r4 => ⟨vp ++ dvs, ?_, r3.append hv⟩⟩
    · have b := h s us X (by rw [List.length_append]; omega)
      simpa using b
    · have hw := hw F ι
      clear h r2 r3
      induction r1 with
      | nil => exact hw
      | cons a t ih => exact .cons a ih
end
def oPopAt : OpM := fun w ws cs Q => match w, ws with
  | .c i, [.d (.int k)] => (match cs[i]? with
    | some (.lst xs) => 0 ≤ k ∧ k < 2 ^ 62 ∧ (match xs[k.toNat]? with
      | some x => Q (.d x) (cs.set i (.lst (xs.eraseIdx k.toNat)))
      | none => False)
    | _ => False)
  | _, _ => False
section
variable {X : Cx} {G : Gam}
theorem Reps.erase {F : Hp} : ∀ {xs : List D} {vs : List V} (j : Nat), Reps G F xs vs → Reps G F (xs.eraseIdx j) (vs.eraseIdx j)
  | [], vs, j, h => by simp only [Reps] at h; subst h; simp [Reps]
  | x :: xs, vs, 0, h => by
    simp only [Reps] at h
    obtain ⟨v, r, rfl, h1, h2⟩ := h
    simpa using h2
  | x :: xs, vs, j + 1, h => by
    simp only [Reps] at h
    obtain ⟨v, r, rfl, h1, h2⟩ := h
    simp only [List.eraseIdx_cons_succ, Reps]
    exact ⟨v, _, rfl, h1, Reps.erase j h2⟩
theorem m_popAt : MtR X "list.pop" (upM G oPopAt) := MtR.imp mt_popAt fun x xs H Q q => by
  obtain ⟨F, ι, cs, w, ws, Q0, S, r1, r2, o, hq⟩ := q
  unfold oPopAt at o
  split at o
  · rename_i i k
    obtain ⟨v, rfl, ru⟩ := pair1 r2
    have ru : Rep G F (.int k) v := ru
    simp only [Rep] at ru
    subst ru
    split at o
    · rename_i ys l
      obtain ⟨h0, h1', o⟩ := o
      obtain ⟨a, vs, rfl, h1, h2, h3, h4⟩ := cell_lst S r1 l
      split at o
      · rename_i y e
        obtain ⟨v, e1, rv⟩ := h4.at_ e
        have hlt : k.toNat < vs.length := (List.getElem?_eq_some_iff.mp e1).1
        refine ⟨a, vs, k, k.toNat, v, rfl, rfl, h3, by omega, by omega, seqIndex_of h0 (by omega), e1, ?_⟩
        exact hq F ι _ (.d y) _ _ .refl (S.write (x := .lst (ys.eraseIdx k.toNat)) h1 l h2 ⟨h2, _, upd_same, h4.erase _⟩) rv o
      · cases o
    · cases o
  · cases o
end
def oIsiT : OpN := fun ws cs Q => match ws with
  | [w, .d (.tup [.oth (.ty a), .oth (.ty b)])] => (match look w cs with
    | some x => isTag x = true ∧ a ∈ tags ∧ b ∈ tags ∧ Q (.d (.bl (isTy x a || isTy x b))) cs
    | _ => False)
  | _ => False
section
variable {X : Cx} {G : Gam}
theorem c_isiT (hK : X.K = G.K) : CallR X (.builtin "isinstance") (upRN G oIsiT) := by
  intro pins s σ H xs us Q I r h
  obtain ⟨F, ι, cs, ws, Q0, S, rw0, o, hq⟩ := h
  unfold oIsiT at o
  split at o
  · rename_i w a b
    obtain ⟨v, u, rfl, r0, r1⟩ := pair2 rw0
    obtain ⟨u1, u2, rfl, q1, q2⟩ := vals2 r
    split at o
    · rename_i x l
      obtain ⟨p1, p2, p3, o⟩ := o
      obtain ⟨tp, vs, rfl, f1, g1⟩ := look_tupP (cs := cs) S r1 rfl
      cases (show u2 = Value.ref tp from q2)
      obtain ⟨its, rv, ⟨ob, t1, t2, n, t3⟩, _⟩ := I.tuple (hK ▸ SqT.mono S.same f1.sq)
      simp only [Reps, Rep] at g1
      obtain ⟨_, _, rfl, rfl, _, _, rfl, rfl, rfl⟩ := g1
      obtain ⟨i1, i2, rfl, e1, e2⟩ := vals2 rv
      cases (show i1 = Value.type a from e1)
      cases (show i2 = Value.type b from e2)
      obtain ⟨P, Z, p, hx⟩ := Top.kit I hK (look_top S r0 l) p1 q1
      obtain ⟨oc, od, dt, sl⟩ := ob
      simp only at t2 t3
      subst t2 t3
      have k1 := kit_ty (K := X.K) (kitB_tab _ (tag_in p1) _ p2)
      have k2 := kit_ty (K := X.K) (kitB_tab _ (tag_in p1) _ p3)
      refine PySem.W.kia_tup (b := isTy x a || isTy x b) Z I.kIn p t1 ?_ hx fun tk => ⟨.bl _, H, I.tok tk, rfl, hq _ _ _ _ _ _ .refl S rep_bl o⟩
      simp only [PySem.W.kitAny, k1, k2]
      unfold isTy
      cases (tag x == a || (tag x == "bool" && a == "int")) <;> cases (tag x == b || (tag x == "bool" && b == "int")) <;> rfl
    · cases o
  · cases o
end
end DL
namespace DL
open PySem PySem.Spec L2 PyProof.Rows
theorem meets_enumT (l : Addr) (items : Array Value) :
    Meets (Builtin.«enumerate.__new__» ⟨[.type "enumerate", .ref l], []⟩) (fun _ R s => s.heap.IsTuple l items ∧
      R (.ok (.ret (.ref (s.heap.push { cls := .type "tuple_iterator", data := .fields #[.ref l, .int 0 0] }).objs.size)))
        { s with heap := (s.heap.push { cls := .type "tuple_iterator", data := .fields #[.ref l, .int 0 0] }).push { cls := .type "enumerate", data := .fields #[.none, .bool false, .ref s.heap.objs.size, rawInt 0, .none, .none] } }) :=
  .of_wp fun prog w A R s h => by
    obtain ⟨hp, g, d, tk, os⟩ := s; obtain ⟨h1, h⟩ := h
    have hsub := sub_enumerate
    have q1 : ∀ {A' : Around} {E : Value → Shared → Prop} {Q : Value → Shared → Prop}, Q (.ref hp.objs.size) ⟨hp.push { cls := .type "tuple_iterator", data := .fields #[.ref l, .int 0 0] }, g, d, tk, os⟩ → wpAny (model prog w) A' (pyIter (.ref l)) Q E ⟨hp, g, d, tk, os⟩ :=
      fun q => wpAny_pyIter_tuple h1 q
    wp_walk using q1
    refine wpAny_stack_any fun st => wpAny_pure ?_
    split
    · rename_i c _ _ _ _ _
      cases (c == Value.type "enumerate")
      · wp_walk using q1
        exact ⟨_, rfl, h⟩
      · wp_walk using q1
        exact ⟨_, rfl, h⟩
    · wp_walk using q1
      exact ⟨_, rfl, h⟩
section
variable {prog : Program} {w : World} {A : Around} {E : Value → Shared → Prop} {s : Shared}
theorem call_enumT {l : Addr} {items : Array Value} {Q : Value → Shared → Prop} (hL : s.heap.IsTuple l items)
    (h : ∀ h', IsEnum h' (s.heap.objs.size + 1) s.heap.objs.size 0 .none → h'.IsTupleIter s.heap.objs.size l 0 → h'.objs.size = s.heap.objs.size + 2 →
      (∀ b o, s.heap.get? b = some o → h'.get? b = some o) → Q (.ref (s.heap.objs.size + 1)) { s with heap := h' }) :
    wpAny (model prog w) A (call (.type "enumerate") [.ref l]) Q E s := by
  refine callType_new F.called_enumerate (by decide) (F.typeCall_enumerate_1 _) (F.newCall_enumerate_1 _) (fun obj => F.args_object_init_2 obj _) F.entry_enumerate_new
    (meets_enumT l items) ⟨hL, ?_⟩
  have hz : (s.heap.push { cls := .type "tuple_iterator", data := .fields #[.ref l, .int 0 0] }).objs.size = s.heap.objs.size + 1 := Heap.size_push ..
  show _ ∧ _
  rw [hz]
  have he : IsEnum ((s.heap.push { cls := .type "tuple_iterator", data := .fields #[.ref l, .int 0 0] }).push
      { cls := .type "enumerate", data := .fields #[.none, .bool false, .ref s.heap.objs.size, rawInt 0, .none, .none] }) (s.heap.objs.size + 1) s.heap.objs.size 0 .none := by
    have := Heap.get?_push_size (s.heap.push { cls := .type "tuple_iterator", data := .fields #[.ref l, .int 0 0] })
      (o := { cls := .type "enumerate", data := .fields #[.none, .bool false, .ref s.heap.objs.size, rawInt 0, .none, .none] }) rfl
    rw [hz] at this; exact this
  refine ⟨⟨_, he, rfl⟩, h _ he ⟨_, Heap.get?_push_of_some _ (Heap.get?_push_size _ rfl), rfl, rfl⟩ (by rw [Heap.size_push, hz]) fun b o x => Heap.get?_push_of_some _ (Heap.get?_push_of_some _ x)⟩
end
/-- the tuple at a, each item in a new pair -/
def IteT (K : PySem.W.Frag) (a : Addr) : It :=
  ⟨fun i H => ∃ (xs : List V) (x : V), SqT K H a xs ∧ xs[i]? = some x, fun i H v H' => ∃ T x, v = .ref T ∧ H T = none ∧ H' = upd H T (.tup [.int (i : Nat), x]) ∧ ∀ xs, SqT K H a xs → xs[i]? = some x, fun i H => ∃ xs : List V, SqT K H a xs ∧ xs.length = i⟩
theorem turn_enumT {P : Program} {w : World} {K : PySem.W.Frag} {elts : List Expr} {kk : Nat} {tpos : Pos} (a e it : Addr) :
    Turn P w K (.Tuple elts kk tpos) (IteT K a) [e, it] e (fun i h => (∃ old, IsEnum h e it ((i : Nat) : Int) old) ∧ h.IsTupleIter it a i ∧ e ≠ it ∧ e ≠ a ∧ a ≠ it) where
  mem := by simp
  obj := fun i h st b hb => by
    obtain ⟨⟨old, he⟩, ⟨o, ho, hc, hd⟩, _⟩ := st
    have e' : b = e ∨ b = it := by simpa using hb
    rcases e' with z | z
    · rw [z]; exact ⟨_, he, fun v q => nomatch q⟩
    · rw [z]; exact ⟨o, ho, fun v q => by rw [hd] at q; cases q⟩
  keep := fun i h h' st k => let ⟨⟨old, he⟩, hi, hne⟩ := st; ⟨⟨old, k e (by simp) _ he⟩, hi.at fun o q => k it (by simp) o q, hne⟩
  item := by
    intro X hP hw hK hc i pins s σ H E I hf st hg
    subst hP hw hK
    obtain ⟨⟨old, he⟩, hit, hne, hea, hai⟩ := st
    obtain ⟨xs, x, hq, hx⟩ := hg
    obtain ⟨its, rv, p, hz⟩ := I.tuple hq
    obtain ⟨u, hu, ru⟩ := rv.get hx
    have hel : e < s.heap.objs.size := Heap.lt_size he
    have hil : it < s.heap.objs.size := by obtain ⟨_, q, _⟩ := hit; exact Heap.lt_size q
    have D := Draws.tuple (prog := X.prog) (w := X.w) (A := X.A.in1) (I.ok.hd hc) it a hai its.toArray
    refine wpAny_pyNext_enum_itemD D he ⟨hit, p⟩ (by simpa using (List.getElem?_eq_some_iff.mp hu).1) hne (by simp [hne, hea]) fun u' h' tk hu' ho hst hT hsz hk => ?_
    have eu : u' = u := by
      have : its[i]? = some u' := by simpa using hu'
      rw [hu] at this; cases this; rfl
    subst eu
    refine ⟨_, rfl, wpAny_letOwnedTupleGo_enum (s := { s with heap := h', toks := tk + 1 }) ho fun h'' he' sb => ?_⟩
    have hT2 : h''.get? s.heap.objs.size = some { cls := .type "tuple", data := .seq #[.int i tk, u'] } := (sb.2 _ (Nat.ne_of_gt hel)).trans hT
    have new : ObjOk X.prog X.w (upd H s.heap.objs.size (.tup [.int (i : Nat), x])) h'' s.heap.objs.size (.tup [.int (i : Nat), x]) :=
      ⟨by show 2 ≤ sizeLine; decide, [.int i tk, u'], .cons ⟨_, rfl⟩ (.cons ru .nil), ⟨_, hT2, rfl, _, rfl⟩⟩
    have I1 : Inv X pins σ (upd H s.heap.objs.size (.tup [.int (i : Nat), x])) { s with heap := h'', toks := tk + 1 } :=
      I.turnedNew (ch := [e, it]) (fun b ob hb q => (sb.2 b (fun z => hb (by simp [z]))).trans (hk b ob (fun z => hb (by simp [z])) (fun z => hb (by simp [z])) q)) hf (Nat.le_refl _) new
    refine ⟨.ref s.heap.objs.size, _, I1, rfl, ⟨_, x, rfl, I.hok.fresh (Nat.le_refl _), rfl, fun ys hy => by rw [I.tuple_inj hy hq]; exact hx⟩, ⟨⟨u', ?_⟩, hst.1.at fun o q => (sb.2 it (Ne.symm hne)).trans q, hne, hea, hai⟩, fun b hb => ?_⟩
    · have e1 : ((i + 1 : Nat) : Int) = (i : Int) + 1 := by omega
      rw [e1]; exact he'
    · have hb' : b < s.heap.objs.size := by
        have e' : b = e ∨ b = it := by simpa using hb
        rcases e' with z | z
        · rw [z]; exact hel
        · rw [z]; exact hil
      rw [upd_ne (Nat.ne_of_lt hb')]
      exact (hf b hb).1
  done := by
    intro X hP hw hK hc i pins s σ H E I hf st hg
    subst hP hw hK
    obtain ⟨⟨old, he⟩, hit, hne, hea, hai⟩ := st
    obtain ⟨xs, hq, hx⟩ := hg
    obtain ⟨its, rv, p, hz⟩ := I.tuple hq
    obtain ⟨f0, f1, f2, f3, f4, f5⟩ := hf it (by simp)
    have hl := rv.length
    have D := Draws.tuple (prog := X.prog) (w := X.w) (A := X.A.in1) (I.ok.hd hc) it a hai its.toArray
    have e0 : i = its.toArray.size := by simp; omega
    subst e0
    exact wpAny_pyNext_enum_endD D he ⟨hit, p⟩ fun h' eb => ⟨rfl, I.turned (t' := s.toks) (fun b o hb q => eb b o hb q) f0 f1 f3 f4 f5⟩
  self := fun A i s Q E st h => let ⟨⟨_, he⟩, _⟩ := st; wpAny_pyIter_enum he h
def iEnumA (K : PySem.W.Frag) (ta : TA) : TI := fun σ H R => ta σ H fun vs H1 => ∃ a xs, vs = [.ref a] ∧ ((SqL K H1 a xs ∧ R (Ite K a) H1) ∨ (SqT K H1 a xs ∧ R (IteT K a) H1))
theorem pi_enumA {X : Cx} {e : Expr} {ta : TA} {p pos tpos : Pos} {elts : List Expr} {kk : Nat} (hg : Gl X "enumerate") (hm : X.mg "enumerate" = none) (ha : PA X [e] ta) (hs : starEach [e] X.env = [(false, eval e X.env)] := by rfl) :
    PI X (.Tuple elts kk tpos) (.Call (.Name "enumerate" p) [e] [] pos) (iEnumA X.K ta) := by
  refine ⟨fun pins s σ H R I h => ?_⟩
  refine Call_ (ld_blt I hg hm boot_enumerate (PyProof.Rows.callWith_type1 (thn (ha.run pos pins s σ H _ I h) fun us s1 ⟨vs, H1, I1, r1, q1⟩ => ?_) hs rfl))
  obtain ⟨a, xs, ex, q1⟩ := q1
  subst ex
  cases r1 with
  | cons r rr =>
    cases rr
    cases r
    have fr : ∀ b, b ∈ [s1.heap.objs.size + 1, s1.heap.objs.size] → FpOk X pins H1 b := fun b hb => by
      have e' : b = s1.heap.objs.size + 1 ∨ b = s1.heap.objs.size := by simpa using hb
      have hle : s1.heap.objs.size ≤ b := by
        rcases e' with z | z
        · rw [z]; exact Nat.le_add_right _ _
        · rw [z]; exact Nat.le_refl _
      exact I1.fpOk hle (I1.hok.fresh hle)
    rcases q1 with ⟨hq, q⟩ | ⟨hq, q⟩
    · obtain ⟨its, rv, p', hz⟩ := I1.list hq
      refine call_enumerate_list p'.isList fun h' he hit hsz hk => wpAny_pyIter_enum he ?_
      have I2 : Inv X pins σ H1 { s1 with heap := h' } := I1.kept (t' := s1.toks) hk
      exact ⟨s1.heap.objs.size + 1, [s1.heap.objs.size + 1, s1.heap.objs.size], _, _, H1, rfl, I2, turn_enum a (s1.heap.objs.size + 1) s1.heap.objs.size, ⟨⟨.none, he⟩, hit, Nat.succ_ne_self _⟩, fr, q⟩
    · obtain ⟨its, rv, p', hz⟩ := I1.tuple hq
      have hal : a < s1.heap.objs.size := by obtain ⟨o, ho, _⟩ := id p'; exact Heap.lt_size ho
      refine call_enumT (show s1.heap.IsTuple a its.toArray from p') fun h' he hit hsz hk => wpAny_pyIter_enum he ?_
      have I2 : Inv X pins σ H1 { s1 with heap := h' } := I1.kept (t' := s1.toks) hk
      exact ⟨s1.heap.objs.size + 1, [s1.heap.objs.size + 1, s1.heap.objs.size], _, _, H1, rfl, I2, turn_enumT a (s1.heap.objs.size + 1) s1.heap.objs.size, ⟨⟨.none, he⟩, hit, Nat.succ_ne_self _, Nat.ne_of_gt (Nat.lt_succ_of_lt hal), Nat.ne_of_lt hal⟩, fr, q⟩
theorem serves_enumT {a : Addr} {xs : List D} {vs : List V} {G : Gam} {F : Hp} {ι : Pl} (h1 : SqT G.K F a vs) (h2 : Reps G F xs vs) : Serves G F ι (pairUp 0 xs) (fun _ => True) (IteT G.K a) where
  go := fun {F' ι' cs' H'} i e S k hi => by
    rw [pairUp_length] at hi
    obtain ⟨v, h3, _⟩ := h2.get (List.getElem?_eq_getElem hi)
    exact ⟨vs, v, SqT.mono S.same (SqT.mono e.same h1), h3⟩
  yld := fun {F' ι' cs' H' x H''} i it e S k hi y => by
    obtain ⟨T, v, rfl, hT, rfl, y⟩ := y
    rw [pairUp_get] at hi
    cases q : xs[i]? with
    | none => rw [q] at hi; cases hi
    | some z =>
      rw [q] at hi; cases hi
      obtain ⟨v', h3, h4⟩ := h2.get q
      have := y vs (SqT.mono S.same (SqT.mono e.same h1))
      rw [h3] at this; cases this
      obtain ⟨e1, S1⟩ := S.fixed (o := .tup [.int (i : Nat), v]) hT
      refine ⟨_, e1, S1, ?_⟩
      simp only [RepW, Rep]
      refine ⟨T, _, rfl, SqT.of upd_same, Reps.cons (by simp [Rep]) (Reps.one (Rep.mono e1.same _ _ (Rep.mono e.same _ _ h4)))⟩
  stop := fun {F' ι' cs' H'} e S k => ⟨vs, SqT.mono S.same (SqT.mono e.same h1), by rw [h2.length, pairUp_length]⟩
def enumV (w : W) (a : Option D) (cs : Cs) (Q : List W → (Cs → Prop) → Cs → Prop) : Prop := match a with
  | some (.lst xs) => Q (pairUp 0 xs) (fun cs' => look w cs' = some (.lst xs)) cs
  | some (.tup xs) => Q (pairUp 0 xs) (fun _ => True) cs
  | _ => False
def diEnumA (t : DA) : DI := fun env cs Q E => t env cs (fun ws cs1 => match ws with
  | [w] => enumV w (look w cs1) cs1 Q
  | _ => False) E
theorem enumV_lst {w : W} {xs : List D} {cs : Cs} {Q : List W → (Cs → Prop) → Cs → Prop} : enumV w (some (.lst xs)) cs Q = Q (pairUp 0 xs) (fun cs' => look w cs' = some (.lst xs)) cs := rfl
theorem enumV_tup {w : W} {xs : List D} {cs : Cs} {Q : List W → (Cs → Prop) → Cs → Prop} : enumV w (some (.tup xs)) cs Q = Q (pairUp 0 xs) (fun _ => True) cs := rfl
theorem i_enumA {X : Cx} {G : Gam} {Wx : WX} {e : Expr} {ta : DA} {p pos tpos : Pos} {elts : List Expr} {kk : Nat} (hK : X.K = G.K) (hg : Gl X "enumerate") (hm : X.mg "enumerate" = none) (ha : DAs X G Wx [e] ta) (hs : starEach [e] X.env = [(false, eval e X.env)] := by rfl) : DIt X G Wx (.Tuple elts kk tpos) (.Call (.Name "enumerate" p) [e] [] pos) (diEnumA ta) :=
  PI.imp (pi_enumA hg hm ha hs) fun σ H R hq => by
    obtain ⟨F, ι, env, cs, Q0, E0, S, R0, t, hq, he⟩ := hq
    refine ⟨F, ι, env, cs, _, E0, S, R0, t, fun F1 ι1 cs1 ws vs H1 e1 S1 r1 q1 => ?_, he⟩
    rw [hK]
    split at q1
    · rename_i w
      cases r1 with
      | cons r t =>
        cases t
        unfold enumV at q1
        cases q : look w cs1 with
        | none => simp only [q] at q1
        | some x =>
          simp only [q] at q1
          cases x with
          | lst xs =>
            obtain ⟨a, vs, rfl, h1, h2⟩ := look_top S1 r q
            exact ⟨a, vs, rfl, .inl ⟨SqL.of h1, hq _ _ _ _ _ _ _ e1 S1 (serves_enum fun e' S' h' => list_again S1 r e' S' h') q1⟩⟩
          | tup xs =>
            obtain ⟨a, vs, rfl, h1, h2⟩ := look_tup S1 r q
            exact ⟨a, vs, rfl, .inr ⟨SqT.mono S1.same h1, hq _ _ _ _ _ _ _ e1 S1 (serves_enumT h1 h2) q1⟩⟩
          | _ => cases q1
    · cases q1
end DL
namespace DL
open PySem PySem.Spec L2
/-- a value from which nothing is owned any more -/
def dFix (t : DT) : DT := fun env cs Q E => t env cs (fun w cs1 => fixW w cs1 fun x cs2 => Q (.d x) cs2) E
section
variable {X : Cx} {G : Gam} {Wx : WX} {pos : Pos}
theorem e_fix {e : Expr} {t : DT} (h : DE X G Wx e t) : DE X G Wx e (dFix t) := PE.imp h fun σ H Q h => by
  obtain ⟨F, ι, env, cs, Q0, E0, S, R, t, hq, he⟩ := h
  refine ⟨F, ι, env, cs, _, E0, S, R, t, fun F1 ι1 cs1 w v H1 e1 S1 r1 q1 => ?_, he⟩
  obtain ⟨F2, cs2, d, e2, S2, r2, q2⟩ := fixW_ok S1 r1 q1
  exact hq _ _ _ (.d d) _ _ (e1.trans e2) S2 r2 q2
end
end DL
namespace DL
open PySem PySem.Spec L2
/-- at a stands a tuple of these, without a dict of its own -/
def tupA (K : PySem.W.Frag) (a : Addr) (vs : List V) : Bool := match K.lookup a with
  | some ⟨.type c, none, .seq its _, _⟩ => decide (c = "tuple") && (decide (its.size ≤ sizeLine) && He.relAll vs its.toList)
  | _ => false
theorem tupA_ok {K : PySem.W.Frag} {a : Addr} {vs : List V} (h : tupA K a vs = true) (F : Hp) : PTu K F a vs := by
  unfold tupA at h
  cases q : K.lookup a with
  | none =>
    rw [q] at h
    cases h
  | some o =>
    obtain ⟨oc, od, dt, osl⟩ := o
    rw [q] at h
    cases oc with
    | type c =>
      cases od with
      | none =>
        cases dt with
        | seq its n =>
          simp only [Bool.and_eq_true, decide_eq_true_eq] at h
          obtain ⟨h1, h2, h3⟩ := h
          exact ⟨_, rfl, .inr ⟨its, n, q, by rw [h1], rfl, h2, He.relAll_ok h3⟩⟩
        | _ => cases h
      | some d => cases dt <;> cases h
    | _ => cases od <;> cases dt <;> cases h
end DL
namespace DL
open PySem PySem.Spec L2
/-- the turns of [elt for tg in .. if .. for tg1 in .. if ..] -/
def lcD2 (g : DG) (tt : DB) (ti1 : DI) (g1 : DG) (tt1 : DB) (te : DT) (keep : Cs → Prop) (vs vs1 : List Nat) (env : Nv) (n : Nat) (Q : List D → Cs → Prop) : List W → List D → Cs → Prop
  | [], acc, cs => keep cs ∧ Q acc cs
  | x :: r, acc, cs => keep cs ∧ g x (wipeE env vs) cs fun env1 cs1 => tt env1 cs1 (fun b cs2 => if b = true then ti1 env1 cs2 (fun items1 keep1 cs3 => lcD g1 tt1 te keep1 vs1 env1 cs3.length (fun acc' cs4 => lcD2 g tt ti1 g1 tt1 te keep vs vs1 env n Q r acc' (dropTo n cs4)) items1 acc cs3) noX
    else lcD2 g tt ti1 g1 tt1 te keep vs vs1 env n Q r acc (dropTo n cs2)) noX
def dLc2 (ti : DI) (g : DG) (tt : DB) (ti1 : DI) (g1 : DG) (tt1 : DB) (te : DT) (vs vs1 : List Nat) : DT := fun env cs Q E => ti env cs (fun items keep cs1 => lcD2 g tt ti1 g1 tt1 te keep vs vs1 env cs1.length (fun acc cs2 => Q (.c cs2.length) (cs2 ++ [.lst acc])) items [] cs1) E
section
variable {X : Cx} {G : Gam} {Wx : WX} {F H : Hp} {ι : Pl} {cs : Cs}
theorem RepW.reR {R' : Hp} {w : W} {v : V} (r : RepW G F ι w v) : RepW G F ⟨ι.l, R'⟩ w v := by
  cases w with
  | _ => exact r
theorem RepEnv.reR {R' : Hp} {env : Nv} {σ : L2.St} (R : RepEnv G F ι env σ) : RepEnv G F ⟨ι.l, R'⟩ env σ :=
  ⟨R.1, fun i x e => let ⟨v, h1, h2⟩ := R.2 i x e; ⟨v, h1, h2.reR⟩⟩
theorem Serves.reR {R' : Hp} {items : List W} {keep : Cs → Prop} {J : It} (sv : Serves G F ι items keep J) : Serves G F ⟨ι.l, R'⟩ items keep J where
  go := fun i e S k hi => sv.go i ⟨e.same, e.pre⟩ S k hi
  yld := fun i it e S k hi y => sv.yld i it ⟨e.same, e.pre⟩ S k hi y
  stop := fun e S k => sv.stop ⟨e.same, e.pre⟩ S k
theorem paired_imp2 {α β : Type} {P Q : α → β → Prop} (f : ∀ a b, P a b → Q a b) : ∀ {l : List α} {m : List β}, Paired P l m → Paired Q l m
  | _, _, .nil => .nil
  | _, _, .cons h t => .cons (f _ _ h) (paired_imp2 f t)
theorem CellAt.reR {R' : Hp} {a : Addr} {x : Cell} (h : CellAt G F ι H a x) : CellAt G F ⟨ι.l, R'⟩ H a x := by
  cases x with
  | obj c fs =>
    obtain ⟨h1, C, nm, dx, gs, vs, h2, h3, h4, h5⟩ := h
    refine ⟨h1, C, nm, dx, gs, vs, h2, h3, h4, paired_imp2 (fun a b q => ?_) h5⟩
    cases a <;> cases b <;> first | exact RepW.reR q | exact q
  | _ => exact h
/-- D stands apart, with o -/
theorem Sim.put {D : Addr} {o : HO} (S : Sim G F ι cs H) (fD : F D = none) (hDι : D ∉ ι.l) (hDR : ι.R D = none) (hD : H D = some o) : Sim G F ⟨ι.l, upd ι.R D o⟩ cs H := by
  refine ⟨S.same, S.len, S.nd, fun i x q => let ⟨a, h1, h2⟩ := S.cell i x q; ⟨a, h1, h2.reR⟩, fun b u q => ?_, fun b q => ?_⟩
  · by_cases hb : b = D
    · subst hb
      have q : upd ι.R b o b = some u := q
      rw [upd_same] at q; cases q
      exact hD
    · have q : upd ι.R D o b = some u := q
      rw [upd_ne hb] at q
      exact S.fr _ _ q
  · by_cases hb : b = D
    · subst hb
      exact ⟨fD, hDι⟩
    · have q : upd ι.R D o b ≠ none := q
      rw [upd_ne hb] at q
      exact S.ap b q
/-- and is told of no more -/
theorem Sim.lift {D : Addr} {o : HO} {R : Hp} (S : Sim G F ι cs H) (hR : ι.R = upd R D o) (hDR : R D = none) : F D = none ∧ H D = some o ∧ D ∉ ι.l ∧ Sim G F ⟨ι.l, R⟩ cs H := by
  have a := S.ap D (by rw [hR, upd_same]; simp)
  refine ⟨a.1, S.fr _ _ (by rw [hR, upd_same]), a.2, S.same, S.len, S.nd, fun i x q => let ⟨a, h1, h2⟩ := S.cell i x q; ⟨a, h1, h2.reR⟩, fun b u q => ?_, fun b q => ?_⟩
  · have hb : b ≠ D := ne_of_none q hDR
    exact S.fr b u (by rw [hR, upd_ne hb]; exact q)
  · have hb : b ≠ D := fun z => q (z ▸ hDR)
    exact S.ap b (by rw [hR, upd_ne hb]; exact q)
theorem Sim.other {D : Addr} (o : HO) (S : Sim G F ι cs H) (fD : F D = none) (hDι : D ∉ ι.l) (hDR : ι.R D = none) : Sim G F ι cs (upd H D o) := by
  refine ⟨fun b u q => by rw [upd_ne (ne_of_none q fD)]; exact S.same _ _ q, S.len, S.nd, fun i x q => ?_, fun b u q => by rw [upd_ne (ne_of_none q hDR)]; exact S.fr _ _ q, S.ap⟩
  obtain ⟨a, h1, h2⟩ := S.cell i x q
  have ha : a ≠ D := fun z => hDι (z ▸ List.mem_of_getElem? h1)
  exact ⟨a, h1, h2.mono .refl id fun u z => by rw [upd_ne ha]; exact z⟩
/-- the turns over D, a list that stands apart -/
theorem lc_in {g : DG} {tt : DB} {te : DT} {keep : Cs → Prop} {vs : List Nat} {env : Nv} {σ : L2.St} {items : List W} {J : It} {D : Addr} {acc : List DL.D} {accV : List V} {OUT : List DL.D → Cs → Prop} {Fin : Hp → Prop} {F1 H1 : Hp} {ι1 : Pl} {cs1 : Cs}
    (S1 : Sim G F1 ι1 cs1 H1) (sv : Serves G F1 ι1 items keep J) (R : RepEnv G F1 ι1 env σ) (fD1 : F1 D = none) (hDι : D ∉ ι1.l) (hDR : ι1.R D = none) (hD : H1 D = some (.lst accV)) (rA1 : Reps G F1 acc accV)
    (q1 : lcD g tt te keep vs env ι1.l.length OUT items acc cs1)
    (hf : ∀ F' cs' acc' accV' H', Same F1 F' → Sim G F' ι1 cs' H' → F' D = none → H' D = some (.lst accV') → Reps G F' acc' accV' → OUT acc' cs' → Fin H') :
    ∃ W : Nat → Nat → Hp → Prop, (∃ m, W 0 m H1) ∧ ∀ i m H, W i m H → (J.stop i H ∧ Fin H) ∨ (J.go i H ∧ ∃ Nx : Hp → Prop, (∀ H', Nx H' → ∃ m', m' < m ∧ W (i + 1) m' H') ∧
      ∀ x H', J.yld i H x H' → upG G vs g x (wipe σ vs) H' fun σ2 H2 => wipe σ2 vs = wipe σ vs ∧ upT G WxF tt σ2 H2 fun b H3 => if b = true then upE G WxF te σ2 H3 fun y H4 => ∃ acc, H4 D = some (.lst acc) ∧ acc.length < sizeLine ∧ Nx (upd H4 D (.lst (acc ++ [y]))) else Nx H3) := by
  refine ⟨fun i m H' => ∃ F' cs' acc accV, Same F1 F' ∧ Sim G F' ι1 cs' H' ∧ F' D = none ∧ H' D = some (.lst accV) ∧ Reps G F' acc accV ∧ m = items.length - i ∧ i ≤ items.length ∧ lcD g tt te keep vs env ι1.l.length OUT (items.drop i) acc cs',
    ⟨_, F1, cs1, acc, accV, Same.refl _, S1, fD1, hD, rA1, rfl, Nat.zero_le _, q1⟩, ?_⟩
  rintro i m H' ⟨F', cs', acc, accV, sF, S', fD, hD', rA, rfl, hi, q⟩
  have E' : Ext F1 F' ι1 ι1 := ⟨sF, List.prefix_refl _, rfl⟩
  by_cases hlt : i < items.length
  · rw [List.drop_eq_getElem_cons hlt] at q
    obtain ⟨k, q⟩ := (show keep cs' ∧ _ from q)
    refine .inr ⟨sv.go i E'.to0 S' k hlt, fun H2 => ∃ F2 cs2 acc2 accV2, Same F1 F2 ∧ Sim G F2 ι1 cs2 H2 ∧ F2 D = none ∧ H2 D = some (.lst accV2) ∧ Reps G F2 acc2 accV2 ∧ lcD g tt te keep vs env ι1.l.length OUT (items.drop (i + 1)) acc2 cs2,
      fun H2 ⟨F2, cs2, acc2, accV2, a1, a2, a3, a4, a5, a6⟩ => ⟨_, by omega, F2, cs2, acc2, accV2, a1, a2, a3, a4, a5, rfl, hlt, a6⟩, fun x H2 y => ?_⟩
    have ED : Ext0 F1 F' ι1 ⟨ι1.l, upd ι1.R D (.lst accV)⟩ := ⟨sF, List.prefix_refl _⟩
    have SD := S'.put fD hDι hDR hD'
    obtain ⟨F2, e2, S2, r2⟩ := sv.yld i _ ED SD k (List.getElem?_eq_getElem hlt) y
    refine ⟨F2, _, wipeE env vs, cs', _, _, S2, wipeE_rep ((R.mono (ι' := ι1) ⟨sF.trans e2.same, List.prefix_refl _, rfl⟩).reR) vs, r2, q, fun F3 ι3 cs3 env3 σ3 H3 e3 S3 R3 w3 q3 => ⟨w3.trans (wipe_wipe σ vs), ?_⟩⟩
    refine ⟨F3, ι3, env3, cs3, _, _, S3, R3, q3, fun F4 ι4 cs4 b H4 e4 S4 q4 => ?_, fun F4 ι4 cs4 x cls od H4 e4 S4 r4 q4 => q4.elim⟩
    have fin : ∀ {F5 : Hp} {ι5 : Pl} {cs5 : Cs} {H5 : Hp}, Ext F2 F5 ⟨ι1.l, upd ι1.R D (.lst accV)⟩ ι5 → Sim G F5 ι5 cs5 H5 → F5 D = none ∧ H5 D = some (.lst accV) ∧ Sim G F5 ι1 (dropTo ι1.l.length cs5) H5 := fun {F5 ι5 cs5 H5} e5 S5 => by
      have B := S5.back e5
      obtain ⟨b1, b2, b3, b4⟩ := B.lift (R := ι1.R) rfl hDR
      exact ⟨b1, b2, b4⟩
    dsimp only
    split
    · rename_i hb
      rw [if_pos hb] at q4
      refine ⟨F4, ι4, env3, cs4, _, _, S4, R3.mono e4, q4, fun F5 ι5 cs5 w v H5 e5 S5 r5 q5 => ?_, fun F5 ι5 cs5 x cls od H5 e5 S5 r5 q5 => q5.elim⟩
      obtain ⟨F6, cs6, z, e6, S6, r6, hl, q6⟩ := fixW_ok S5 r5 q5
      obtain ⟨f1, f2, f3⟩ := fin (e3.trans (e4.trans (e5.trans e6))) S6
      have sA : Same F' F6 := e2.same.trans (e3.same.trans (e4.same.trans (e5.same.trans e6.same)))
      refine ⟨accV, f2, by rw [rA.length]; exact hl, F6, _, acc ++ [z], accV ++ [v], sF.trans sA, f3.other _ f1 hDι hDR, f1, upd_same, Reps.append (Reps.mono sA _ _ rA) (Reps.one r6), q6⟩
    · rename_i hb
      rw [if_neg hb] at q4
      obtain ⟨f1, f2, f3⟩ := fin (e3.trans e4) S4
      have sA : Same F' F4 := e2.same.trans (e3.same.trans e4.same)
      exact ⟨F4, _, acc, accV, sF.trans sA, f3, f1, f2, Reps.mono sA _ _ rA, q4⟩
  · have hi' : i = items.length := by omega
    subst hi'
    rw [List.drop_length] at q
    obtain ⟨k, q⟩ := (show keep cs' ∧ _ from q)
    exact .inl ⟨sv.stop E'.to0 S' k, hf F' cs' acc accV H' sF S' fD hD' rA q⟩
theorem lc2_up {ti : DI} {g : DG} {tt : DB} {ti1 : DI} {g1 : DG} {tt1 : DB} {te : DT} {vs vs1 : List Nat} {σ : L2.St} {H : Hp} {Q : VK} (h : upE G Wx (dLc2 ti g tt ti1 g1 tt1 te vs vs1) σ H Q) :
    tLc2 (upI G Wx ti) (upG G vs g) (upT G WxF tt) (upI G WxF ti1) (upG G vs1 g1) (upT G WxF tt1) (upE G WxF te) vs vs1 σ H Q := by
  obtain ⟨F, ι, env, cs, Q0, E0, S, R, t, hq, he⟩ := h
  refine ⟨F, ι, env, cs, _, E0, S, R, t, fun F1 ι1 cs1 items keep J H1 e1 S1 sv q1 => ?_, he⟩
  intro D hD
  have n1 : cs1.length = ι1.l.length := S1.len.symm
  rw [n1] at q1
  have e0 := S1.dead hD
  have hDι : D ∉ ι1.l := fun hm => by
    obtain ⟨i, z⟩ := List.mem_iff_getElem?.mp hm
    obtain ⟨u, hu⟩ := S1.live z
    rw [hD] at hu; cases hu
  have hDR : ι1.R D = none := S1.fr.free hD
  refine ⟨fun i m H' => ∃ F' cs' acc accV, Same F1 F' ∧ Sim G F' ι1 cs' H' ∧ F' D = none ∧ H' D = some (.lst accV) ∧ Reps G F' acc accV ∧ m = items.length - i ∧ i ≤ items.length ∧
      lcD2 g tt ti1 g1 tt1 te keep vs vs1 env ι1.l.length (fun acc cs2 => Q0 (.c cs2.length) (cs2 ++ [.lst acc])) (items.drop i) acc cs',
    ⟨_, F1, cs1, [], [], Same.refl _, S1.other _ e0 hDι hDR, e0, upd_same, Reps.nil, rfl, Nat.zero_le _, q1⟩, ?_⟩
  rintro i m H' ⟨F', cs', acc, accV, sF, S', fD, hD', rA, rfl, hi, q⟩
  have E' : Ext F1 F' ι1 ι1 := ⟨sF, List.prefix_refl _, rfl⟩
  by_cases hlt : i < items.length
  · rw [List.drop_eq_getElem_cons hlt] at q
    obtain ⟨k, q⟩ := (show keep cs' ∧ _ from q)
    refine .inr ⟨sv.go i E'.to0 S' k hlt, fun H2 => ∃ F2 cs2 acc2 accV2, Same F1 F2 ∧ Sim G F2 ι1 cs2 H2 ∧ F2 D = none ∧ H2 D = some (.lst accV2) ∧ Reps G F2 acc2 accV2 ∧
        lcD2 g tt ti1 g1 tt1 te keep vs vs1 env ι1.l.length (fun acc cs2 => Q0 (.c cs2.length) (cs2 ++ [.lst acc])) (items.drop (i + 1)) acc2 cs2,
      fun H2 ⟨F2, cs2, acc2, accV2, a1, a2, a3, a4, a5, a6⟩ => ⟨_, by omega, F2, cs2, acc2, accV2, a1, a2, a3, a4, a5, rfl, hlt, a6⟩, fun x H2 y => ?_⟩
    have ED : Ext0 F1 F' ι1 ⟨ι1.l, upd ι1.R D (.lst accV)⟩ := ⟨sF, List.prefix_refl _⟩
    have SD := S'.put fD hDι hDR hD'
    obtain ⟨F2, e2, S2, r2⟩ := sv.yld i _ ED SD k (List.getElem?_eq_getElem hlt) y
    refine ⟨F2, _, wipeE env vs, cs', _, _, S2, wipeE_rep (((R.mono e1).mono (ι' := ι1) ⟨sF.trans e2.same, List.prefix_refl _, rfl⟩).reR) vs, r2, q, fun F3 ι3 cs3 env3 σ3 H3 e3 S3 R3 w3 q3 => ⟨w3.trans (wipe_wipe σ vs), ?_⟩⟩
    refine ⟨F3, ι3, env3, cs3, _, _, S3, R3, q3, fun F4 ι4 cs4 b H4 e4 S4 q4 => ?_, fun F4 ι4 cs4 x cls od H4 e4 S4 r4 q4 => q4.elim⟩
    have fin : ∀ {F5 : Hp} {ι5 : Pl} {cs5 : Cs} {H5 : Hp}, Ext F2 F5 ⟨ι1.l, upd ι1.R D (.lst accV)⟩ ι5 → Sim G F5 ι5 cs5 H5 → F5 D = none ∧ H5 D = some (.lst accV) ∧ Sim G F5 ι1 (dropTo ι1.l.length cs5) H5 := fun {F5 ι5 cs5 H5} e5 S5 => by
      have B := S5.back e5
      obtain ⟨b1, b2, b3, b4⟩ := B.lift (R := ι1.R) rfl hDR
      exact ⟨b1, b2, b4⟩
    dsimp only
    split
    · rename_i hb
      rw [if_pos hb] at q4
      refine ⟨F4, ι4, env3, cs4, _, _, S4, R3.mono e4, q4, fun F5 ι5 cs5 items1 keep1 J1 H5 e5 S5 sv1 q5 => ?_, fun F5 ι5 cs5 x cls od H5 e5 S5 r5 q5 => q5.elim⟩
      have eA := e3.trans (e4.trans e5)
      have hR5 : ι5.R = upd ι1.R D (.lst accV) := eA.eR
      obtain ⟨b1, b2, b3, b4⟩ := S5.lift hR5 hDR
      have sA : Same F' F5 := e2.same.trans eA.same
      have n5 : cs5.length = ι5.l.length := S5.len.symm
      rw [n5] at q5
      refine lc_in (ι1 := ⟨ι5.l, ι1.R⟩) b4 sv1.reR ((R3.mono (e4.trans e5)).reR) b1 b3 hDR b2 (Reps.mono sA _ _ rA) q5 fun F6 cs6 acc6 accV6 H6 s6 S6 f6 h6 r6 o6 => ?_
      have eB : Ext F1 F6 ι1 ⟨ι5.l, ι1.R⟩ := ⟨sF.trans (sA.trans s6), eA.pre, rfl⟩
      have n1' : ι1.l.length = ι1.l.length := rfl
      exact ⟨F6, _, acc6, accV6, sF.trans (sA.trans s6), S6.back eB, f6, h6, r6, o6⟩
    · rename_i hb
      rw [if_neg hb] at q4
      obtain ⟨f1, f2, f3⟩ := fin (e3.trans e4) S4
      have sA : Same F' F4 := e2.same.trans (e3.same.trans e4.same)
      exact ⟨F4, _, acc, accV, sF.trans sA, f3, f1, f2, Reps.mono sA _ _ rA, q4⟩
  · have hi' : i = items.length := by omega
    subst hi'
    rw [List.drop_length] at q
    obtain ⟨k, q⟩ := (show keep cs' ∧ _ from q)
    refine .inl ⟨sv.stop E'.to0 S' k, ?_⟩
    have E2 : Ext F1 F' ι1 (ι1.add D) := ⟨sF, List.prefix_append _ _, rfl⟩
    refine hq F' (ι1.add D) (cs' ++ [.lst acc]) (.c cs'.length) _ H' (e1.trans E2) ?_ ⟨D, by rw [← S'.len]; simp [Pl.add], rfl⟩ q
    refine ⟨S'.same, by simp [Pl.add, S'.len], ?_, fun i x q => ?_, S'.fr, fun b q => ⟨(S'.ap b q).1, fun z => ?_⟩⟩
    · exact S'.nd.snoc hDι
    · by_cases hi : i < cs'.length
      · rw [List.getElem?_append_left hi] at q
        obtain ⟨a, h1, h2⟩ := S'.cell i x q
        exact ⟨a, (show Ext F' F' ι1 (ι1.add D) from ⟨Same.refl _, List.prefix_append _ _, rfl⟩).at_ h1, h2.mono ⟨Same.refl _, List.prefix_append _ _, rfl⟩ id fun _ z => z⟩
      · have hi' : i = cs'.length := by
          have := (List.getElem?_eq_some_iff.mp q).1
          simp at this; omega
        subst hi'
        rw [List.getElem?_append_right (Nat.le_refl _)] at q
        simp at q; subst q
        exact ⟨D, by rw [← S'.len]; simp [Pl.add], fD, accV, hD', rA⟩
    · have z' : b ∈ ι1.l ++ [D] := z
      rcases List.mem_append.mp z' with z | z
      · exact (S'.ap b q).2 z
      · simp at z; subst z; exact q hDR
end
section
variable {X : Cx} {G : Gam} {Wx : WX} {elt tg iter tg1 iter1 : Expr} {ifs ifs1 : List Expr} {scope : Scope} {own : List (Str × Nat)} {vs1 : List Nat} {pos : Pos} {ti ti1 : DI} {g g1 : DG} {tt tt1 : DB} {te : DT}
theorem s_setLc2 {i : Nat} {y : Str} {py spos : Pos} (hc : X.calm = true) (hN : X.N.Nodup) (hy : X.N[i]? = some y) (hyl : X.env.scope.names.lookup y = some .local)
    (hsw : swapsWith (.ListComp elt [⟨tg, iter, ifs, 0⟩, ⟨tg1, iter1, ifs1, 0⟩] scope pos) (some (.Name y py)) spos.line X.env = pure true) (hi : DIt X G Wx tg iter ti) (ok : BlkOk X.N X.env.scope scope own) (hv : ∀ i ∈ vs1, i ∈ own.map (·.2))
    (hg : ∀ s H C cl fp, DGt (X.blk s H scope (compEnvC scope cl C X.env) fp) G (own.map (·.2)) tg g) (ht : ∀ s H C cl fp, DTs (X.blk s H scope (compEnvC scope cl C X.env) fp) G ifs tt)
    (hi1 : ∀ s H C cl fp, DIt (X.blk s H scope (compEnvC scope cl C X.env) fp) G WxF tg1 iter1 ti1)
    (hg1 : ∀ s H C cl fp, DGt (X.blk s H scope (compEnvC scope cl C X.env) fp) G vs1 tg1 g1) (ht1 : ∀ s H C cl fp, DTs (X.blk s H scope (compEnvC scope cl C X.env) fp) G ifs1 tt1)
    (he : ∀ s H C cl fp, DE (X.blk s H scope (compEnvC scope cl C X.env) fp) G WxF elt te) (hs : ∀ x, foldedSetIterable iter X.env x = pure x := by intro _; rfl) (hs1 : ∀ env x, foldedSetIterable iter1 env x = pure x := by intro _ _; rfl) :
    DSt X G Wx (.Assign [.Name y py] (.ListComp elt [⟨tg, iter, ifs, 0⟩, ⟨tg1, iter1, ifs1, 0⟩] scope pos) spos) (dAsg (dLc2 ti g tt ti1 g1 tt1 te (own.map (·.2)) vs1) (dgName i)) :=
  PS.imp (ps_setLc2 hc hN hy hyl hsw hi ok hv hg ht hi1 hg1 ht1 he hs hs1) fun D σ H h => by
    obtain ⟨F, ι, env, cs, D0, S, R, t, h1, h2, h3, h4, h5⟩ := h
    refine lc2_up ⟨F, ι, env, cs, _, _, S, R, t, fun F1 ι1 cs1 x v H1 e1 S1 r1 q1 => ?_, fun F1 ι1 cs1 x cls od H1 e1 S1 r1 q1 => h5 F1 ι1 cs1 x cls od env σ H1 e1 S1 (R.mono e1) r1 q1⟩
    exact h1 F1 ι1 cs1 _ _ H1 e1 S1 ((R.mono e1).set r1) q1
end
end DL
namespace DL
open PySem PySem.Spec L2
/-- xs[::-1] -/
def dRev (t : DT) : DT := fun env cs Q E => t env cs (fun w cs1 => match look w cs1 with
  | some (.lst xs) => Q (.c cs1.length) (cs1 ++ [.lst xs.reverse])
  | _ => False) E
section
variable {X : Cx} {G : Gam} {Wx : WX}
theorem e_rev {e : Expr} {te : DT} {k : Nat} {p1 p2 p3 pos : Pos} (hK : X.K = G.K) (h : DE X G Wx e te) : DE X G Wx (.Subscript e (.Slice none none (some (.UnaryOp .USub (.Constant (.int 1) k p1) p2)) p3) pos) (dRev te) :=
  PE.imp (pe_revL h) fun σ H Q h => by
    obtain ⟨F, ι, env, cs, Q0, E0, S, R, t, hq, he⟩ := h
    refine ⟨F, ι, env, cs, _, E0, S, R, t, fun F1 ι1 cs1 w v H1 e1 S1 r1 q1 => ?_, he⟩
    split at q1
    · rename_i xs l
      obtain ⟨a, vs, rfl, h1, h2⟩ := look_top S1 r1 l
      refine ⟨a, vs, rfl, by rw [hK]; exact SqL.of h1, fun p hp => ?_⟩
      obtain ⟨e3, S3⟩ := S1.owned (o := .lst vs.reverse) (x := .lst xs.reverse) hp fun ι' => ⟨S1.dead hp, _, upd_same, h2.rev⟩
      exact hq _ _ _ (.c cs1.length) _ _ (e1.trans e3) S3 ⟨p, by rw [← S1.len]; simp [Pl.add], rfl⟩ q1
    · cases q1
def oClear : OpM := fun w ws cs Q => match w, ws with
  | .c i, [] => (match cs[i]? with
    | some (.lst xs) => Q (.d .non) (cs.set i (.lst []))
    | _ => False)
  | _, _ => False
end
def oDictP : OpN := fun ws cs Q => match ws with
  | [w] => (∃ m : List (Str × D), look w cs = some (.lst (m.map fun p => .tup [.str p.1, p.2])) ∧ (m.map (·.1)).Nodup ∧ ∀ o, Q (.c cs.length) (cs ++ [.dct (sd m) o]))
  | _ => False
section
variable {X : Cx} {G : Gam} {F H : Hp}
/-- what stands in such a list -/
theorem pairs_in : ∀ {m : List (Str × D)} {vs : List V}, Reps G F (m.map fun p => .tup [.str p.1, p.2]) vs → ∃ (ps : List Addr) (kvs : List (Key × V)), vs = ps.map V.ref ∧ Paired (fun p kv => SqT G.K F p [kV kv.1, kv.2]) ps kvs ∧
    kvs.map (·.1) = m.map (fun p => Sum.inr p.1) ∧ Reps G F (m.map (·.2)) (kvs.map (·.2)) ∧ ∀ p ∈ m, PyData.strOk p.1 = true
  | [], vs, h => by
    simp only [List.map_nil, Reps] at h
    subst h
    exact ⟨[], [], rfl, .nil, rfl, by simp [Reps], by simp⟩
  | a :: m, vs, h => by
    simp only [List.map_cons, Reps] at h
    obtain ⟨v, r, rfl, h1, h2⟩ := h
    simp only [Rep, Reps] at h1
    obtain ⟨b, us, rfl, h3, v1, r1, rfl, ⟨rfl, hk⟩, v2, r2, rfl, h4, rfl⟩ := h1
    obtain ⟨ps, kvs, rfl, g1, g2, g3, g4⟩ := pairs_in h2
    refine ⟨b :: ps, (.inr a.1, v2) :: kvs, rfl, .cons h3.sq g1, by simp [g2], Reps.cons h4 g3, fun p hp => ?_⟩
    rcases List.mem_cons.mp hp with rfl | hp
    · exact hk
    · exact g4 p hp
/-- the keys as leaves -/
theorem leaf_pairs {P : Program} {w : World} : ∀ {es : List DictEntry} {prs : List (Key × Value)} {ks : List Str}, Pairs (mixKind P w) es prs → prs.map (·.1) = ks.map Sum.inr →
    ∃ kvs : List (Leaf × Value), Pairs (leafKind P w) es kvs ∧ kvs.map (·.1) = ks.map Leaf.text ∧ kvs.map (·.2) = prs.map (·.2)
  | _, _, [], .nil, _ => ⟨[], .nil, rfl, rfl⟩
  | _, _, k :: ks, .nil, h => by simp at h
  | _, _, [], .cons _ _ _, h => by simp at h
  | _, _, k :: ks, .cons (e := e) (kv := kv) h1 h2 t, h => by
    simp only [List.map_cons, List.cons.injEq] at h
    obtain ⟨kvs, g1, g2, g3⟩ := leaf_pairs t h.2
    rw [h.1] at h1
    exact ⟨(.text k, kv.2) :: kvs, .cons (kv := (Leaf.text k, kv.2)) h1 h2 g1, by simp [g2], by simp [g3]⟩
theorem leaf_dict {P : Program} {w : World} {h : Heap} {d : Addr} {prs : List (Key × Value)} {ks : List Str} (x : h.DictOf (mixKind P w) d prs) (e : prs.map (·.1) = ks.map Sum.inr) :
    ∃ kvs : List (Leaf × Value), h.DictOf (leafKind P w) d kvs ∧ kvs.map (·.1) = ks.map Leaf.text ∧ kvs.map (·.2) = prs.map (·.2) := by
  obtain ⟨o, es, ep, h1, h2, h3, h4, h5, h6⟩ := x
  obtain ⟨kvs, g1, g2, g3⟩ := leaf_pairs h5 e
  refine ⟨kvs, ⟨o, es, ep, h1, h2, h3, fun en hen => ?_, g1, ?_⟩, g2, g3⟩
  · obtain ⟨k, k1, k2⟩ := h4 en hen
    cases k with
    | inr x => exact ⟨.text x, k1, k2⟩
    | inl i =>
      -- the entry is one of the pairs, whose keys are texts
      have : ∀ {es : List DictEntry} {prs : List (Key × Value)}, Pairs (mixKind P w) es prs → ∀ en ∈ es, ∃ kv ∈ prs, keyIs kv.1 en.key = true := by
        intro es prs hp
        induction hp with
        | nil => intro en he; cases he
        | cons a b c ih =>
          intro en he
          rcases List.mem_cons.mp he with rfl | he
          · exact ⟨_, List.mem_cons_self, a⟩
          · obtain ⟨kv, q1, q2⟩ := ih en he
            exact ⟨kv, List.mem_cons_of_mem _ q1, q2⟩
      obtain ⟨kv, q1, q2⟩ := this h5 en (by simpa using hen)
      have q3 : kv.1 ∈ prs.map (·.1) := List.mem_map_of_mem q1
      rw [e] at q3
      obtain ⟨z, _, ez⟩ := List.mem_map.mp q3
      have := (mixKind P w).inj en.key (Sum.inl i) kv.1 k1 q2
      rw [← ez] at this
      cases this
  · rw [e] at h6
    rw [g2]
    have nd : ks.Nodup := (List.pairwise_map.mp h6).imp fun h e => h (congrArg Sum.inr e)
    exact List.Pairwise.map _ (fun a b (hab : a ≠ b) e => hab (by injection e)) nd
theorem kv_vals {kvs : List (Key × V)} {prs : List (Key × Value)} (h : L2.KV kvs prs) : Vals (kvs.map (·.2)) (prs.map (·.2)) ∧ prs.map (·.1) = kvs.map (·.1) := by
  induction h with
  | nil => exact ⟨.nil, rfl⟩
  | cons a t ih => exact ⟨.cons a.2 ih.1, by simp [a.1, ih.2]⟩
theorem c_dictP (hK : X.K = G.K) (hw : X.w = G.w) (hc : X.calm = true) : CallR X (.type "dict") (upRN G oDictP) := by
  intro pins s σ H xs us Q I r q
  obtain ⟨F, ι, cs, ws, Q0, S, rw0, o, hq⟩ := q
  unfold oDictP at o
  split at o
  · obtain ⟨v, rfl, r0⟩ := pair1 rw0
    obtain ⟨u, rfl, ru⟩ := r.one
    obtain ⟨m, l, nd, o⟩ := o
    obtain ⟨a, vs, rfl, h1, h2⟩ := look_top S r0 l
    cases (show u = Value.ref a from ru)
    obtain ⟨ps, kvs, rfl, g1, g2, g3, g4⟩ := pairs_in h2
    obtain ⟨its, rv, pl, hz⟩ := I.list (hK ▸ SqL.of h1 : SqL X.K H a (ps.map V.ref))
    have ei := refs_at rv
    subst ei
    rw [List.length_map] at hz
    have g1' : Paired (fun p kv => SqT X.K H p [kV kv.1, kv.2]) ps kvs := Paired.imp' (fun _ _ q => hK ▸ SqT.mono S.same q) g1
    obtain ⟨prs, rel, hl, hpr⟩ := L2.pairs_of I g1'
    obtain ⟨rv2, rk⟩ := kv_vals rel
    have hks : prs.map (·.1) = (m.map (·.1)).map Sum.inr := by rw [rk, g2]; simp
    have hml : m.length = ps.length := by
      have := congrArg List.length hks
      simp at this
      omega
    obtain ⟨ob, n, ho, hcl, hd, hdat⟩ := pl
    refine call_dict_pairs (prs := prs) (I.ok.hd hc) ho hcl hd hdat (by simp [hl]) (by rw [hl]; exact hz) (fun j q' e => ?_) fun h' tk hd' k => ?_
    · obtain ⟨b, u, e1, e2, e3⟩ := hpr j q' e
      exact ⟨b, u, by simp [e1], e2, e3⟩
    · have hnd : ((([] : List (Key × Value)) ++ prs).map fun p => p.1).Nodup := by
        rw [List.nil_append, hks]
        exact List.Pairwise.map _ (fun a b (hab : a ≠ b) e => hab (by injection e)) nd
      rw [merged_apart prs [] hnd, List.nil_append] at hd'
      obtain ⟨lvs, d1, d2, d3⟩ := leaf_dict hd' hks
      have hlen : lvs.length = m.length := by
        have := congrArg List.length d2
        simpa using this
      obtain ⟨o2, kd, ps2, f1, f2, f3, f4, f5⟩ := raw_of (G := G) (F := F) d1 (fun kv hkv x ex => by
        have : kv.1 ∈ lvs.map (·.1) := List.mem_map_of_mem hkv
        rw [d2, List.map_map] at this
        obtain ⟨p, hp, e⟩ := List.mem_map.mp this
        rw [ex] at e
        have e : Leaf.text p.1 = Leaf.text x := e
        cases e
        exact g4 p hp) (by rw [hlen, hml]; exact hz) (d3 ▸ rv2) g3
      have hkd : kd = sd m := sd_of f4 (by
        rw [f5]
        have : lvs.map (fun p => some p.1.key) = (lvs.map (·.1)).map fun l => some l.key := by simp
        rw [this, d2]
        simp [Leaf.key])
      subst hkd
      have hp := I.hok.fresh (Nat.le_refl s.heap.objs.size)
      have hsm : (s.heap.objs.size == sysModules) = false := beq_eq_false_iff_ne.mpr (Nat.ne_of_gt I.big)
      obtain ⟨e3, S3⟩ := S.owned (o := dcx s.heap.objs.size o2) (x := .dct (sd m) o2) hp fun ι' => ⟨S.dead hp, hsm, _, ps2, upd_same, hw ▸ f2, f3⟩
      have I2 : Inv X pins σ (upd H s.heap.objs.size (dcx s.heap.objs.size o2)) { s with heap := h', toks := tk } :=
        I.laid (t' := tk) k (Nat.le_refl _) ⟨f1, ⟨_, f1⟩, fun h1 h2 q k => k _ q⟩
      exact ⟨.ref s.heap.objs.size, _, I2, rfl, hq _ _ _ (.c cs.length) _ _ e3 S3 ⟨_, by rw [← S.len]; simp [Pl.add], rfl⟩ (o o2)⟩
  · cases o
end
section
variable {X : Cx} {G : Gam} {Wx : WX} {pos : Pos}
/-- a, b, c = x, y, z through a tuple -/
theorem s_par3T {i j l : Nat} {x y z : Str} {a b c : Expr} {ta : DA} {px py pz pt : Pos} {kt k2 pt2} (hc : X.calm = true) (hK : X.K = G.K) (hN : X.N.Nodup) (hi : X.N[i]? = some x) (hj : X.N[j]? = some y) (hl : X.N[l]? = some z)
    (hx : Loc X.env.scope x) (hy : Loc X.env.scope y) (hz : Loc X.env.scope z) (ha : DAs X G Wx [a, b, c] ta)
    (fx : X.fn x = true ∨ X.env.scope.names.lookup x = some .local := by first | exact .inl rfl | exact .inr rfl | assumption)
    (fy : X.fn y = true ∨ X.env.scope.names.lookup y = some .local := by first | exact .inl rfl | exact .inr rfl | assumption)
    (fz : X.fn z = true ∨ X.env.scope.names.lookup z = some .local := by first | exact .inl rfl | exact .inr rfl | assumption)
    (hs : swapsWithSole [.Tuple [.Name x px, .Name y py, .Name z pz] kt pt] (.Tuple [a, b, c] k2 pt2) pos.line X.env = pure false := by rfl)
    (hw : swappedStores [.Tuple [.Name x px, .Name y py, .Name z pz] kt pt] (.Tuple [a, b, c] k2 pt2) X.env = pure none := by rfl)
    (hn : (assignEach [.Name x px, .Name y py, .Name z pz] X.env).length = 3 := by rfl) (hst : (assignEach [.Name x px, .Name y py, .Name z pz] X.env).findIdx? (·.1) = none := by rfl)
    (hs1 : (assignEach [.Name x px, .Name y py, .Name z pz] X.env).map (·.2) = assign (.Name x px) X.env :: (assignEach [.Name y py, .Name z pz] X.env).map (·.2) := by rfl)
    (hs2 : (assignEach [.Name y py, .Name z pz] X.env).map (·.2) = assign (.Name y py) X.env :: (assignEach [.Name z pz] X.env).map (·.2) := by rfl)
    (hs3 : (assignEach [.Name z pz] X.env).map (·.2) = assign (.Name z pz) X.env :: (assignEach [] X.env).map (·.2) := by rfl)
    (h1 : (assignEach [.Tuple [.Name x px, .Name y py, .Name z pz] kt pt] X.env).map (·.2) = [assign (.Tuple [.Name x px, .Name y py, .Name z pz] kt pt) X.env] := by rfl) :
    DSt X G Wx (.Assign [.Tuple [.Name x px, .Name y py, .Name z pz] kt pt] (.Tuple [a, b, c] k2 pt2) pos) (dPar3 i j l ta) :=
  PS.imp (ps_asg (pe_tup ha) (pg_tup hc (pgs_cons (pg_name hN hi hx fx) (pgs_cons (pg_name hN hj hy fy) (pgs_cons (pg_name hN hl hz fz) pgs_nil hs3) hs2) hs1) hn hst) hs hw h1) fun D σ H h => by
    obtain ⟨F, ι, env, cs, D0, S, R, t, h1, h2, h3, h4, h5⟩ := h
    refine ⟨F, ι, env, cs, _, _, S, R, t, fun F1 ι1 cs1 ws vs H1 e1 S1 r1 q1 => ?_, fun F1 ι1 cs1 x cls od H1 e1 S1 r1 q1 => h5 F1 ι1 cs1 x cls od env σ H1 e1 S1 (R.mono e1) r1 q1⟩
    cases r1 with
    | nil => cases q1
    | cons r1 t1 =>
      cases t1 with
      | nil => cases q1
      | cons r2 t2 =>
        cases t2 with
        | nil => cases q1
        | cons r3 t3 =>
          cases t3 with
          | nil =>
            refine ⟨show 3 ≤ sizeLine by decide, fun p hp => ?_⟩
            obtain ⟨e3, S3⟩ := S1.fixed (o := .tup [_, _, _]) hp
            refine ⟨p, _, rfl, SqT.of upd_same, rfl, _, _, rfl, _, _, rfl, _, _, rfl, rfl, ?_⟩
            exact h1 _ ι1 cs1 _ _ _ (e1.trans e3) S3 (((((R.mono e1).mono e3).set (r1.mono e3)).set (r2.mono e3)).set (r3.mono e3)) q1
          | cons _ _ => cases q1
end
end DL
namespace DL
open PySem PySem.Spec L2
open PyProof.Rows (envOfC)
/-- what a def f(a, .., *v) is worth: m values ahead, the others are data, told as one tuple behind them -/
structure FnS (P : Program) (w : World) (K : PySem.W.Frag) (mg : Str → Option Value) (base : Heap) (G : Gam) (k : Nat) (f : Addr) (m : Nat) (sp : DSpec) : Prop where
  run : ∀ (A : Around) (outer : List PySem.Env) (s : Shared) (H : Hp) (us u2 : List Value) (vs v2 : List V) (F : Hp) (ι : Pl) (cs : Cs) (ws : List W) (ds : List D) (Q0 : DQ) (E0 : DX) (Q : VK) (E : XK),
    A.guards = some [] → Room k A → Env0 P w K mg base A outer s H → Vals vs us → Vals v2 u2 → Sim G F ι cs H → Paired (RepW G F ι) ws vs → Reps G F ds v2 → ws.length = m → ds.length ≤ sizeLine → sp (ws ++ [.d (.tup ds)]) cs Q0 E0 →
    (∀ F' ι' cs' w v H', Ext F F' ι ι' → Sim G F' ι' cs' H' → RepW G F' ι' w v → Q0 w cs' → Q v H') →
    (∀ F' ι' cs' x cls od H', Ext F F' ι ι' → Sim G F' ι' cs' H' → RepX G F' x cls od H' → E0 x cs' → E cls od H') →
    codeAny (model P w) A (.call (.ref f) ⟨us ++ u2, []⟩) (CR (L2.CX P w) outer P w H s Q E) s
section
variable {P : Program} {w : World} {K : PySem.W.Frag} {mg : Str → Option Value} {base : Heap}
theorem bindsS {x qual : Str} {params : Arguments} {body : List Stmt} {scope : Scope} {kws : List (Str × V)} {f : Addr} {fd : FuncData} {ps : List Str} {pv : Str} (Fd : FunD K x qual params body scope [] kws f fd)
    (h : ∀ (kV doc pm : Value) (an : Option Addr) (cdv ct : Value) (us rest : List Value), us.length = ps.length → bindArgs (PySem.W.fnOf x qual params body scope .none kV doc pm an cdv ct) ⟨us ++ rest, []⟩ = (newTuple rest >>= fun t => pure (ps.zip us ++ [(pv, t)]))) :
    ∀ us rest : List Value, us.length = ps.length → bindArgs fd ⟨us ++ rest, []⟩ = (newTuple rest >>= fun t => pure (ps.zip us ++ [(pv, t)])) := by
  obtain ⟨oc, od, dV, kV, doc, pm, an, cdv, ct, osl, rfl, lk, hcd, hD, hK⟩ := Fd.ex
  rcases hD with ⟨_, rfl⟩ | ⟨e, _⟩
  · exact h kV doc pm an cdv ct
  · exact absurd rfl e
/-- THE RULE for a def with a star parameter -/
theorem fnS_of {x qual : Str} {params : Arguments} {body : List Stmt} {scope : Scope} {dvs : List V} {kws : List (Str × V)} {f : Addr} {fd : FuncData} {G : Gam} {N ps : List Str} {pv : Str} {k : Nat} {sp : DSpec} {t : DS}
    (Fd : FunD K x qual params body scope dvs kws f fd) (S : FnScope N (ps ++ [pv]) scope)
    (bnd : ∀ us rest : List Value, us.length = ps.length → bindArgs fd ⟨us ++ rest, []⟩ = (newTuple rest >>= fun t => pure (ps.zip us ++ [(pv, t)])))
    (hb : ∀ (cdv : Value) (A : Around) (outer : List PySem.Env) (s : Shared) (H : Hp) (E : XK), A.guards = some [] → Room k (A.deeper (envOfC qual scope s.heap.objs.size f cdv)) →
      DSs (cxOf (L2.CX P w) P w K mg base N qual scope f cdv A outer s H E) G (fun c d _ H => E c d H) body t)
    (pure : ∀ ws cs Q E, closed cs → sp ws cs Q E → t (endsD cs.length Q E) (startE N ws) cs) : FnS P w K mg base G (k + 1) f ps.length sp := by
  obtain ⟨oc, od, dV, kV, doc, pm, an, cdv, ct, osl, rfl, lk, hcd, _, _⟩ := Fd.ex
  refine ⟨fun A outer s H us u2 vs v2 F ι cs ws ds Q0 E0 Q E hgd hr e0 r1 r2 S0 rw0 rd lw hz hsp hQ hE => ?_⟩
  have hlv : vs.length = ps.length := by rw [← rw0.length]; exact lw
  have hl1 : us.length = ps.length := by rw [← r1.length]; exact hlv
  have hl2 : u2.length ≤ sizeLine := by rw [← r2.length, rd.length]; exact hz
  have hn : H s.heap.objs.size = Option.none := e0.hok.fresh (Nat.le_refl _)
  refine StX.run_bnd lk hcd S hr e0 (G := fun xs H2 => ∃ p, H p = Option.none ∧ xs = vs ++ [V.ref p] ∧ H2 = upd H p (.frz (tupO u2) (.tup v2))) (fun A' Ex Q' h => ?_) fun s2 H2 xs ⟨p, hp, ex, eH⟩ hr' => ?_
  · rw [bnd us u2 hl1]
    refine wpAny_bind (wpAny_newTuple (wpAny_pure ?_) hl2)
    have new : ObjOk P w (upd H s.heap.objs.size (.frz (tupO u2) (.tup v2))) (s.heap.push (tupO u2)) s.heap.objs.size (.frz (tupO u2) (.tup v2)) :=
      ⟨Heap.get?_push_size _ rfl, by rw [rd.length]; exact hz, u2, r2, ⟨tupO u2, Heap.get?_push_size _ rfl, rfl, 0, rfl⟩⟩
    have un := StX.un_laid (fs := frs outer) (s := s) (o := tupO u2) (u := .frz (tupO u2) (.tup v2)) hn
    have z := h _ _ (vs ++ [V.ref s.heap.objs.size]) (us ++ [Value.ref s.heap.objs.size]) (StX.env0_laid e0 new) un rfl (fun e s' => StX.cxUp outer s H _ _ E e s' un (fun b o q => Heap.get?_push_of_some _ q) rfl) (r1.append (.cons rfl .nil))
      (by rw [List.length_append, List.length_append, hlv] <;> rfl) ⟨_, hn, rfl, rfl⟩
    rw [List.zip_append hl1.symm] at z
    exact z
  · subst ex eH
    obtain ⟨ef, Sf⟩ := S0.fixed (o := .frz (tupO u2) (.tup v2)) hp
    have rt : Rep G (upd F p (.frz (tupO u2) (.tup v2))) (.tup ds) (.ref p) := tup_rep upd_same rfl (Reps.mono ef.same _ _ rd)
    have rws : Paired (RepW G (upd F p (.frz (tupO u2) (.tup v2))) ι) (ws ++ [.d (.tup ds)]) (vs ++ [V.ref p]) := by
      have go : ∀ {ws : List W} {vs : List V}, Paired (RepW G F ι) ws vs → Paired (RepW G (upd F p (.frz (tupO u2) (.tup v2))) ι) (ws ++ [.d (.tup ds)]) (vs ++ [V.ref p]) := by
        intro ws vs h
        induction h with
        | nil => exact .cons rt .nil
        | cons r _ ih => exact .cons (r.mono ef) ih
      exact go rw0
    refine ⟨_, hb cdv A outer s2 _ E hgd hr', _, ι, startE N (ws ++ [.d (.tup ds)]), cs, endsD cs.length Q0 E0, Sf, startE_rep rws, pure _ _ _ _ S0.closed hsp, ?a, ?b, fun _ _ _ _ _ _ _ _ _ z => z.elim, fun _ _ _ _ _ _ _ _ _ z => z.elim, ?c⟩
    case a =>
      intro F1 ι1 cs1 env1 σ1 H1 e1 S1 R1 q1
      have q1 : retD cs.length (.d .non) cs1 Q0 := q1
      obtain ⟨ι2, cs2, w2, e2, S2, r2, q2⟩ := retD_ok (w := .d .non) S1 e1 S0.len.symm (v := V.non) (by simp only [RepW, Rep]) q1
      exact hQ F1 ι2 cs2 w2 _ H1 (ef.trans e2) S2 r2 q2
    case b =>
      intro F1 ι1 cs1 u1 v1 H1 e1 S1 r1 q1
      have q1 : retD cs.length u1 cs1 Q0 := q1
      obtain ⟨ι2, cs2, w2, e2, S2, r2, q2⟩ := retD_ok S1 e1 S0.len.symm r1 q1
      exact hQ F1 ι2 cs2 w2 _ H1 (ef.trans e2) S2 r2 q2
    case c =>
      intro F1 ι1 cs1 y cls od env1 σ1 H1 e1 S1 R1 rx q1
      have q1 : E0 y (dropTo cs.length cs1) := q1
      rw [← S0.len] at q1
      exact hE F1 ι _ y cls od H1 (ef.trans e1.home) (S1.back e1) rx q1
end
section
variable {X : Cx} {G : Gam} {Wx : WX} {k : Nat} {f : Addr} {sp : DSpec} {m : Nat}
theorem run_S (Fd : FnS X.prog X.w X.K X.mg X.base G k f m sp) (hgd : X.A.guards = some []) (hr : Room k X.A) (tk : Takes X Wx)
    {pins : List (Addr × Obj)} {s : Shared} {σ : L2.St} {H : Hp} {Q : VK} {F : Hp} {ι : Pl} {cs : Cs} {wp : List W} {vp : List V} {us : List Value} {Q0 : DQ} {E0 : DX}
    (I : Inv X pins σ H s) (S : Sim G F ι cs H) (rp : Paired (RepW G F ι) wp vp) (r1 : Vals vp us) (hm : m ≤ wp.length)
    (h : fixAll (wp.drop m) cs fun ds cs2 => ds.length ≤ sizeLine ∧ sp (wp.take m ++ [.d (.tup ds)]) cs2 Q0 E0) (hQ : ∀ F' ι' cs' w v H', Ext F F' ι ι' → Sim G F' ι' cs' H' → RepW G F' ι' w v → Q0 w cs' → Q v H')
    (hE : ∀ F' ι' cs' x cls od H', Ext F F' ι ι' → Sim G F' ι' cs' H' → RepX G F' x cls od H' → E0 x cs' → Wx cls od σ H') :
    wpAny (model X.prog X.w) X.A (call (.ref f) us) (EP X pins σ Q) X.xe s := by
  have split : ∀ {m : Nat} {ws : List W} {vs : List V} {us : List Value}, Paired (RepW G F ι) ws vs → Vals vs us → m ≤ ws.length → ∃ v1 v2 u1 u2, us = u1 ++ u2 ∧ Vals v1 u1 ∧ Vals v2 u2 ∧ Paired (RepW G F ι) (ws.take m) v1 ∧ Paired (RepW G F ι) (ws.drop m) v2 := by
    intro m
    induction m with
    | zero => exact fun {ws vs us} p r _ => ⟨[], vs, [], us, rfl, .nil, r, .nil, p⟩
    | succ m ih =>
      intro ws vs us p r hl
      cases p with
      | nil => cases hl
      | cons p t =>
        cases r with
        | cons r rt =>
          obtain ⟨v1, v2, u1, u2, e, a1, a2, b1, b2⟩ := ih t rt (by simpa using hl)
          exact ⟨_ :: v1, v2, _ :: u1, u2, by rw [e]; rfl, .cons r a1, a2, .cons p b1, b2⟩
  obtain ⟨v1, v2, u1, u2, rfl, a1, a2, b1, b2⟩ := split rp r1 hm
  obtain ⟨F2, cs2, ds, e2, S2, r2, hz, q2⟩ := fixAll_ok S b2 h
  refine wpAny_call (codeAny_mono (Fd.run X.A X.stack s H u1 u2 v1 v2 F2 ι cs2 (wp.take m) ds Q0 E0 Q (fun c d H => Wx c d σ H) hgd hr I.env0 a1 a2 S2 (Paired.imp' (fun _ _ q => q.mono e2) b1) r2 (by simp; omega) hz q2
    (fun F' ι' cs' w v H' e' => hQ F' ι' cs' w v H' (e2.trans e')) fun F' ι' cs' x cls od H' e' => hE F' ι' cs' x cls od H' (e2.trans e')) fun r s' hq => ?_)
  cases r with
  | error e => exact tk _ _ (XE.of_call I (fun _ _ _ z => z) hq)
  | ok fl =>
    cases fl with
    | ret u => exact I.after hq
    | next => exact False.elim hq
    | brk => exact False.elim hq
    | cont => exact False.elim hq
/-- f(..), f a def with m parameters ahead of its star -/
def dCallS (sp : DSpec) (m : Nat) (t : DA) : DT := fun env cs Q E => t env cs (fun ws cs1 => m ≤ ws.length ∧ fixAll (ws.drop m) cs1 fun ds cs2 => ds.length ≤ sizeLine ∧ sp (ws.take m ++ [.d (.tup ds)]) cs2 Q E) E
theorem callS_args {t : DA} {σ : L2.St} {H : Hp} {Q : VK} (h : upE G Wx (dCallS sp m t) σ H Q) : upA G Wx t σ H fun vp H1 =>
    ∃ F ι cs wp Q0 E0, Sim G F ι cs H1 ∧ Paired (RepW G F ι) wp vp ∧ m ≤ wp.length ∧ (fixAll (wp.drop m) cs fun ds cs2 => ds.length ≤ sizeLine ∧ sp (wp.take m ++ [.d (.tup ds)]) cs2 Q0 E0) ∧
      (∀ F' ι' cs' w v H', Ext F F' ι ι' → Sim G F' ι' cs' H' → RepW G F' ι' w v → Q0 w cs' → Q v H') ∧
      ∀ F' ι' cs' x cls od H', Ext F F' ι ι' → Sim G F' ι' cs' H' → RepX G F' x cls od H' → E0 x cs' → Wx cls od σ H' := by
  obtain ⟨F, ι, env, cs, Q0, E0, S, R, t, hq, hE⟩ := h
  refine ⟨F, ι, env, cs, _, E0, S, R, t, fun F1 ι1 cs1 wp vp H1 e1 S1 r1 q1 => ?_, hE⟩
  obtain ⟨l1, q⟩ := q1
  exact ⟨F1, ι1, cs1, wp, Q0, E0, S1, r1, l1, q, fun F3 ι3 cs3 w v H3 e3 => hq F3 ι3 cs3 w v H3 (e1.trans e3), fun F3 ι3 cs3 z cls od H3 e3 => hE F3 ι3 cs3 z cls od H3 (e1.trans e3)⟩
variable {x : Str} {p pos sp_ : Pos} {e : Expr} {es : List Expr} {t : DA} {te : DT}
theorem e_callS (Fd : FnS X.prog X.w X.K X.mg X.base G k f m sp) (hgd : X.A.guards = some []) (hr : Room k X.A) (tk : Takes X Wx) (hg : Gl X x) (hm : X.mg x = some (.ref f)) (hk : PySem.W.keepIn X.K (.ref f) = true)
    (ha : DAs X G Wx (e :: es) t) (hdb : (x == ("__debug__" : Str)) = false := by decide) (he : starEach (e :: es) X.env = (false, eval e X.env) :: starEach es X.env := by rfl)
    (hpl : (backTo pos (starEach es X.env)).any (·.1) = false := by rfl) : DE X G Wx (.Call (.Name x p) (e :: es) [] pos) (dCallS sp m t) := by
  refine ⟨fun pins s σ H Q I h => ?_⟩
  refine wpAny_Call_Name_kw (ld_glob I hg hm ?_ hdb)
  refine PySem.W.callWith_K (h₀ := X.base) I.ok.mod.kin hk (thn (ha.run pos pins s σ H _ I (callS_args h)) fun us s1 ⟨vs, H1, I1, r, q⟩ => ⟨I1.kIn, ?_⟩) he hpl
  obtain ⟨F, ι, cs, wp, Q0, E0, S, r1, l1, q, hQ, hE⟩ := q
  exact run_S Fd hgd hr tk I1 S r1 r l1 q hQ hE
end
section
variable {P : Program} {w : World} {K : PySem.W.Frag} {mg : Str → Option Value} {base : Heap} {G : Gam} {k : Nat} {f : Addr} {m : Nat} {sp : DSpec}
theorem FnS.loc (Fd : FnS P w K mg base G k f m sp) : FnS P w K mg base G k f m (loc sp) := by
  refine ⟨fun A outer s H us u2 vs v2 F ι cs ws ds Q0 E0 Q E hgd hr e0 r r' S0 rw0 rd lw hz hsp hQ hE => ?_⟩
  have hs : ∃ js, locAt js sp (ws ++ [.d (.tup ds)]) cs Q0 E0 := ⟨_, hsp⟩
  obtain ⟨js, hin, hnd, h⟩ := hs
  split at h
  case h_2 => cases h
  rename_i lcs hg
  obtain ⟨hl, hg⟩ := getCs_get hg
  obtain ⟨hrf, h⟩ := h
  have nl : cs.length = ι.l.length := S0.len.symm
  have hb : ∀ j ∈ js, j < ι.l.length := fun j hj => by
    rw [← nl]; exact (hg _ _ (get_idxOf hj)).2
  let R₁ : Hp := fun a => open Classical in if a ∈ ι.l ∧ a ∉ selA ι.l js ∧ F a = none then H a else ι.R a
  have sub : ∀ {a}, a ∈ selA ι.l js → a ∈ ι.l := fun {a} ha => by
    unfold selA at ha
    obtain ⟨j, hj, rfl⟩ := List.mem_map.mp ha
    have := hb j hj
    simp [this]
  have R_old : ∀ {a}, ι.R a ≠ none → R₁ a = ι.R a := fun {a} ha => if_neg fun z => (S0.ap a ha).2 z.1
  have R_in : ∀ {a}, a ∈ ι.l → a ∉ selA ι.l js → F a = none → R₁ a = H a := fun {a} h1 h2 h3 => if_pos ⟨h1, h2, h3⟩
  have live : ∀ {a}, a ∈ ι.l → ∃ u, H a = some u := fun {a} ha => by
    obtain ⟨i, hi⟩ := List.mem_iff_getElem?.mp ha
    exact S0.live hi
  have S1 : Sim G F ⟨selA ι.l js, R₁⟩ (lcs.map (toLocC js)) H := by
    refine ⟨S0.same, by simp [selA, hl], fun i j a h1 h2 h3 => ?_, fun i x q => ?_, fun a u q => ?_, fun a q => ?_⟩
    · have bi : i < js.length := by have := (List.getElem?_eq_some_iff.mp h1).1; simpa [selA] using this
      have bj : j < js.length := by have := (List.getElem?_eq_some_iff.mp h2).1; simpa [selA] using this
      have ei := List.getElem?_eq_getElem bi
      have ej := List.getElem?_eq_getElem bj
      have h1 : (selA ι.l js)[i]? = some a := h1
      have h2 : (selA ι.l js)[j]? = some a := h2
      rw [selA_get (hb _ (List.getElem_mem bi)) ei] at h1
      rw [selA_get (hb _ (List.getElem_mem bj)) ej] at h2
      exact (List.getElem_inj hnd).mp (S0.nd _ _ a h1 h2 h3)
    · rw [List.getElem?_map] at q
      cases e : lcs[i]? with
      | none => rw [e] at q; cases q
      | some y =>
        rw [e] at q; cases q
        have bi : i < js.length := by rw [← hl]; exact (List.getElem?_eq_some_iff.mp e).1
        have ei := List.getElem?_eq_getElem bi
        have e2 := (hg i _ ei).1
        rw [e] at e2
        obtain ⟨a, h1, h2⟩ := S0.cell _ _ e2.symm
        refine ⟨a, by show (selA ι.l js)[i]? = _; rw [selA_get (hb _ (List.getElem_mem bi)) ei]; exact h1, ?_⟩
        cases y with
        | obj c fs =>
          obtain ⟨h3, C, nm, dx, gs, vs, h4, h5, h6, h7⟩ := h2
          exact ⟨h3, C, nm, dx, gs, vs, h4, h5, h6, toLoc_fs hb (hrf _ (List.mem_of_getElem? e)) h7⟩
        | _ => exact h2
    · by_cases c : a ∈ ι.l ∧ a ∉ selA ι.l js ∧ F a = none
      · have q : R₁ a = some u := q
        rw [R_in c.1 c.2.1 c.2.2] at q
        exact q
      · have q : R₁ a = some u := q
        have : R₁ a = ι.R a := if_neg c
        rw [this] at q
        exact S0.fr a u q
    · by_cases c : a ∈ ι.l ∧ a ∉ selA ι.l js ∧ F a = none
      · exact ⟨c.2.2, c.2.1⟩
      · have q : R₁ a ≠ none := q
        have : R₁ a = ι.R a := if_neg c
        rw [this] at q
        exact ⟨(S0.ap a q).1, fun z => (S0.ap a q).2 (sub z)⟩
  -- back to all cells
  have back : ∀ {F' ι' cs' H'}, Ext F F' ⟨selA ι.l js, R₁⟩ ι' → Sim G F' ι' cs' H' → Ext F F' ι ⟨ι.l ++ ι'.l.drop js.length, ι.R⟩ ∧ Sim G F' ⟨ι.l ++ ι'.l.drop js.length, ι.R⟩ (putC js cs (cs'.map (unLocC js cs.length))) H' := fun {F' ι' cs' H'} e S' => by
    have hp : selA ι.l js <+: ι'.l := e.pre
    have eR : ι'.R = R₁ := e.eR
    have ls : (selA ι.l js).length = js.length := by simp [selA]
    have lj : js.length ≤ cs'.length := by rw [← S'.len, ← ls]; exact hp.length_le
    have lj' : js.length ≤ (cs'.map (unLocC js cs.length)).length := by simpa using lj
    have old : ∀ {k j : Nat}, js[k]? = some j → ι'.l[k]? = ι.l[j]? := fun {k j} ek => by
      have bk := (List.getElem?_eq_some_iff.mp ek).1
      obtain ⟨r, e1⟩ := hp
      rw [← e1, List.getElem?_append_left (by rw [ls]; exact bk), selA_get (hb _ (List.mem_of_getElem? ek)) ek]
    have apart : ∀ {a}, a ∈ ι.l → a ∉ selA ι.l js → F a = none → F' a = none ∧ a ∉ ι'.l ∧ H' a = H a := fun {a} h1 h2 h3 => by
      obtain ⟨u, hu⟩ := live h1
      have q : ι'.R a = some u := by rw [eR, R_in h1 h2 h3]; exact hu
      have := S'.ap a (by rw [q]; simp)
      exact ⟨this.1, this.2, by rw [S'.fr a u q, hu]⟩
    refine ⟨⟨e.same, List.prefix_append _ _, rfl⟩, S'.same, ?_, ?_, ?_, fun a u q => ?_, fun a q => ?_⟩
    · rw [putC_length _ _ _ lj', List.length_append, List.length_drop, List.length_map, S'.len, ← nl]
    · -- no address twice
      have mix : ∀ {i m : Nat} {a : Addr}, ι.l[i]? = some a → ι'.l[js.length + m]? = some a → F' a = none → False := fun {i m a} h1 h2 h3 => by
        have h3' : F a = none := e.same.free h3
        by_cases c : a ∈ selA ι.l js
        · obtain ⟨k, hk⟩ := List.mem_iff_getElem?.mp c
          have bk : k < js.length := by rw [← ls]; exact (List.getElem?_eq_some_iff.mp hk).1
          obtain ⟨r, e1⟩ := hp
          have h4 : ι'.l[k]? = some a := by rw [← e1, List.getElem?_append_left (by rw [ls]; exact bk)]; exact hk
          have := S'.nd k _ a h4 h2 h3
          omega
        · exact (apart (List.mem_of_getElem? h1) c h3').2.1 (List.mem_of_getElem? h2)
      intro i j a h1 h2 h3
      have h1 : (ι.l ++ ι'.l.drop js.length)[i]? = some a := h1
      have h2 : (ι.l ++ ι'.l.drop js.length)[j]? = some a := h2
      by_cases hi : i < ι.l.length
      · rw [List.getElem?_append_left hi] at h1
        by_cases hj : j < ι.l.length
        · rw [List.getElem?_append_left hj] at h2
          exact S0.nd i j a h1 h2 (e.same.free h3)
        · rw [List.getElem?_append_right (by omega), List.getElem?_drop] at h2
          exact (mix h1 h2 h3).elim
      · rw [List.getElem?_append_right (by omega), List.getElem?_drop] at h1
        by_cases hj : j < ι.l.length
        · rw [List.getElem?_append_left hj] at h2
          exact (mix h2 h1 h3).elim
        · rw [List.getElem?_append_right (by omega), List.getElem?_drop] at h2
          have := S'.nd _ _ a h1 h2 h3
          omega
    · intro i x q
      have at_ : ∀ {m : Nat}, (cs'.map (unLocC js cs.length))[m]? = some x → ∃ a, ι'.l[m]? = some a ∧ CellAt G F' ⟨ι.l ++ ι'.l.drop js.length, ι.R⟩ H' a x := fun {m} qm => by
        rw [List.getElem?_map] at qm
        cases em : cs'[m]? with
        | none => rw [em] at qm; cases qm
        | some y =>
          rw [em] at qm; cases qm
          obtain ⟨a, h1, h2⟩ := S'.cell m y em
          exact ⟨a, h1, h2.unLoc nl hb hp⟩
      by_cases hi : i < cs.length
      · by_cases hj : i ∈ js
        · have ek := get_idxOf hj
          rw [putC_in _ _ _ hnd lj' (fun j hj => by rw [nl]; exact hb j hj) _ _ ek] at q
          obtain ⟨a, h1, h2⟩ := at_ q
          rw [old ek] at h1
          exact ⟨a, by show (ι.l ++ _)[i]? = _; rw [List.getElem?_append_left (by rw [← nl]; exact hi)]; exact h1, h2⟩
        · rw [putC_out _ _ _ _ hi hj] at q
          obtain ⟨a, h1, h2⟩ := S0.cell i x q
          refine ⟨a, by show (ι.l ++ _)[i]? = _; rw [List.getElem?_append_left (by rw [← nl]; exact hi)]; exact h1, ?_⟩
          have E : Ext F F' ι ⟨ι.l ++ ι'.l.drop js.length, ι.R⟩ := ⟨e.same, List.prefix_append _ _, rfl⟩
          have notsel : F a = none → a ∉ selA ι.l js := fun h3 c => by
            obtain ⟨k, hk⟩ := List.mem_iff_getElem?.mp c
            have bk : k < js.length := by rw [← ls]; exact (List.getElem?_eq_some_iff.mp hk).1
            rw [selA_get (hb _ (List.getElem_mem bk)) (List.getElem?_eq_getElem bk)] at hk
            exact hj (by rw [S0.nd _ _ a h1 hk h3]; exact List.getElem_mem bk)
          have ap' : F a = none → F' a = none ∧ H' a = H a := fun h3 => let ⟨p, _, q⟩ := apart (List.mem_of_getElem? h1) (notsel h3) h3; ⟨p, q⟩
          cases x with
          | frz y => exact ⟨fun z => h2.1 (e.same.free z), Rep.mono e.same _ _ h2.2⟩
          | lst xs =>
            obtain ⟨h3, vs, h4, h5⟩ := h2
            obtain ⟨p1, p2⟩ := ap' h3
            exact ⟨p1, vs, by rw [p2]; exact h4, Reps.mono e.same _ _ h5⟩
          | dct kvs o =>
            obtain ⟨h3, h0, ks, ps, h4, h5, h6⟩ := h2
            obtain ⟨p1, p2⟩ := ap' h3
            exact ⟨p1, h0, ks, ps, by rw [p2]; exact h4, h5, RepKV.mono e.same _ _ _ h6⟩
          | obj c fs =>
            obtain ⟨h3, C, nm, dx, gs, vs, h4, h5, h6, h7⟩ := h2
            obtain ⟨p1, p2⟩ := ap' h3
            exact ⟨p1, C, nm, dx, gs, vs, by rw [p2]; exact h4, h5, h6, Paired.imp' (fun _ _ z => z.mono E) h7⟩
      · obtain ⟨m, rfl⟩ : ∃ m, i = cs.length + m := ⟨i - cs.length, by omega⟩
        rw [putC_new _ _ _ lj'] at q
        obtain ⟨a, h1, h2⟩ := at_ q
        refine ⟨a, ?_, h2⟩
        show (ι.l ++ ι'.l.drop js.length)[cs.length + m]? = _
        rw [nl, List.getElem?_append_right (by omega), List.getElem?_drop, Nat.add_sub_cancel_left]
        exact h1
    · have q : ι.R a = some u := q
      exact S'.fr a u (by rw [eR, R_old (by rw [q]; simp)]; exact q)
    · have q : ι.R a ≠ none := q
      have h1 := S'.ap a (by rw [eR, R_old q]; exact q)
      refine ⟨h1.1, fun z => ?_⟩
      rcases List.mem_append.mp z with z | z
      · exact (S0.ap a q).2 z
      · exact h1.2 (List.mem_of_mem_drop z)
  rw [List.map_append] at h
  refine Fd.run A outer s H us u2 vs v2 F ⟨selA ι.l js, R₁⟩ (lcs.map (toLocC js)) (ws.map (toLoc js)) ds _ _ Q E hgd hr e0 r r' S1 (toLoc_reps hb (fun w hw => hin w (List.mem_append_left _ hw)) rw0) rd (by simpa using lw) hz h (fun F' ι' cs' x v H' e S' rx q => ?_) fun F' ι' cs' x cls od H' e S' rx q => ?_
  · obtain ⟨E', S2⟩ := back e S'
    exact hQ F' _ _ _ v H' E' S2 (unLoc_rep nl hb e.pre rx) q
  · obtain ⟨E', S2⟩ := back e S'
    exact hE F' _ _ x cls od H' E' S2 rx q
end
end DL
namespace DL
open PySem PySem.Spec L2
section
variable {P : Program} {w : World} {K : PySem.W.Frag} {a : Addr} {ob : Obj} {xs : List V}
/-- the script is tracked, unless it is the text's own -/
def scrH (K : PySem.W.Frag) (a : Addr) (ob : Obj) (xs : List V) : Hp := fun b => if b = a ∧ K.lookup a = none then some (.frz ob (.lst xs)) else none
theorem scrH_some {b : Addr} {u : HO} (h : scrH K a ob xs b = some u) : b = a ∧ K.lookup a = none ∧ u = .frz ob (.lst xs) := by
  unfold scrH at h
  split at h
  · rename_i c
    exact ⟨c.1, c.2, (Option.some.inj h).symm⟩
  · cases h
theorem scrH_none {b : Addr} (h : b = a → K.lookup a = none → False) : scrH K a ob xs b = none := if_neg fun c => h c.1 c.2
theorem end_call {mg mb : Str → Option Value} {G : Gam} {k : Nat} {f : Addr} {fd : FuncData} {x : Str} {sp : DSpec} {s : Shared} {vs : List Value} {ns : List Int} (hK : G.K = K)
    (inK : K.In s.heap) (nsG : s.heap.Ns mainGlobals mg) (nsB : s.heap.Ns builtinsNs mb) (boot : ∀ x : Str, x ≠ "__name__" → mb x = bootBuiltins x) (lim : s.heap.NoLimit) (gens : s.gens = #[])
    (scr : s.heap.get? a = some { cls := .type "list", data := .seq vs.toArray }) (intsA : PyProof.Rows.IntsAre vs ns) (few : ns.length ≤ sizeLine) (room : Room k callerA)
    (fn : ∀ base : Heap, K.In base → base.Ns mainGlobals mg → FnD P w K mg base G k f fd [x] sp) (bind : ∀ (s : Shared) (u : Value), BindsTo s fd ⟨[u], []⟩ [(x, u)])
    (law : sp [.d (.scr ns)] [] (fun w _ => w = .d (.bl true)) fun _ _ => False) :
    codeAny (model P w) callerA (.call (.ref f) ⟨[.ref a], []⟩) (fun r s' => r = .ok (.ret (.bool true)) ∧ OldK s.heap s'.heap ∧ s'.os = s.os ∧ PyProof.Rows.AllBare s'.gens) s := by
  generalize hob : ({ cls := .type "list", data := .seq vs.toArray } : Obj) = ob at scr
  have intsA' := vals_ints intsA
  have nlen := intsA.length
  generalize hH : scrH K a ob (ns.map V.int) = H
  have some_ : ∀ {b u}, H b = some u → b = a ∧ K.lookup a = none ∧ u = .frz ob (.lst (ns.map V.int)) := fun {b u} e => scrH_some (hH ▸ e)
  have free : ∀ {b o}, s.heap.get? b = some o → (b = a → K.lookup a ≠ none ∨ o ≠ ob) → (hidT s.heap H).get? b = some o := fun {b o} e n => hidT_get e (by
    subst hH
    refine scrH_none fun e1 e2 => ?_
    subst e1
    rcases n rfl with n | n
    · exact n e2
    · rw [scr] at e; cases e; exact n rfl)
  have dict_ : ∀ {b : Addr} {m : Str → Option Value}, s.heap.Ns b m → (hidT s.heap H).Ns b m := fun {b m} h => by
    obtain ⟨o, es, ep, e, d, r⟩ := h
    refine ⟨o, es, ep, free e fun _ => .inr fun z => ?_, d, r⟩
    rw [z, ← hob] at d
    cases d
  have inB : K.In (hidT s.heap H) := fun b o e => free (inK b o e) fun z => .inl (by rw [← z, e]; simp)
  have modB : Mod K mg (hidT s.heap H) := by
    obtain ⟨mc, l1, l2⟩ := lim
    exact ⟨inB, dict_ nsG, ⟨mb, dict_ nsB, boot⟩, ⟨mc, dict_ l1, l2⟩⟩
  have hokH : HOk P w H s.heap := fun b u e => by
    obtain ⟨rfl, _, rfl⟩ := some_ e
    refine ⟨scr, by rw [List.length_map]; exact few, vs, 0, intsA', ?_⟩
    rw [scr, ← hob]
  have env0 : Env0 P w K mg (hidT s.heap H) callerA [] s H :=
    Env0.mk rfl modB (fun b o e => of_hidT e) (Nat.le_of_eq (hidT_size s.heap H)) trivial (fun b hb => absurd (show b ∈ ([] : List Addr) from hb) (by simp)) hokH (.of_eq gens)
  have seqA : SqL G.K H a (ns.map V.int) := by
    rw [hK]
    cases e : K.lookup a with
    | none => exact .inl (.inr ⟨ob, by subst hH; exact if_pos ⟨rfl, e⟩⟩)
    | some o =>
      have e2 := inK a o e
      rw [scr] at e2; cases e2
      subst hob
      exact .inr ⟨_, vs.toArray, 0, e, rfl, rfl, rfl, by rw [List.size_toArray, nlen]; exact few, intsA'⟩
  have sim : Sim G H ⟨[], fun _ => none⟩ [] H := ⟨Same.refl _, rfl, NdF.nil, fun i x e => by simp at e, (fun b u e => by cases e), fun b e => absurd rfl e⟩
  have rep : Paired (RepW G H ⟨[], fun _ => none⟩) [.d (.scr ns)] [V.ref a] := .cons (by simp only [RepW, Rep]; exact ⟨a, rfl, seqA⟩) .nil
  refine codeAny_mono ((fn _ inB (dict_ nsG)).run callerA [] s H ⟨[.ref a], []⟩ [.ref a] [.ref a] H ⟨[], fun _ => none⟩ [] [.d (.scr ns)] _ _ (fun v _ => v = .bl true) (fun _ _ _ => False) rfl room env0 (bind s (.ref a)) (.cons rfl .nil) sim rep law
    (fun F' ι' cs' w v H' _ _ r q => by subst q; simpa only [RepW, Rep] using r) fun _ _ _ _ _ _ _ _ _ _ q => q) fun r s' h => ?_
  match r, h with
  | .error e, h =>
    obtain ⟨_, _, _, _, _, _, _, _, _, _, _, _, z⟩ := h
    exact z.elim
  | .ok .next, h => exact h.elim
  | .ok .brk, h => exact h.elim
  | .ok .cont, h => exact h.elim
  | .ok (.ret u), h =>
    obtain ⟨v, H', os, bare, un, hok', rv, q⟩ := h
    have q : v = .bl true := q
    subst q
    have rv : u = Value.bool true := rv
    subst rv
    refine ⟨rfl, OldK.of_keep fun b o e => ?_, os, bare⟩
    cases hb : H b with
    | none => exact un.keep b o e hb (fun z => by cases z) (fun z => by cases z)
    | some u =>
      obtain ⟨rfl, _, rfl⟩ := some_ hb
      have := (hok' b _ (un.frzs b ob _ hb)).1
      rw [scr] at e; cases e
      exact this
end
/-- the walk's end: from the facts of the head to the row -/
theorem end_of {l : PySem.W.OpenLaw} {n k : Nat} {q : Program} {loose : List Str} {XP : (Str → Option Value) → Heap → Prop} {YP : World → Heap → Prop} {d : DefRec} {x : Str}
    (most : l.most = some n) (small : n ≤ sizeLine) (plain : d.params.defaults = []) (room : Room k callerA)
    (fn : ∀ (w : World) (mg : Str → Option Value) (f : Addr) (h : Heap), YP w h → h.Ns mainGlobals mg → mg d.name = some (.ref f) →
      ∃ (G : Gam) (fd : FuncData) (sp : DSpec), G.K.In h ∧ (∀ (s : Shared) (u : Value), BindsTo s fd ⟨[u], []⟩ [(x, u)]) ∧
        (∀ ns : List Int, ns.length ≤ n → sp [.d (.scr ns)] [] (fun w _ => w = .d (.bl true)) fun _ _ => False) ∧
        ∀ base : Heap, G.K.In base → base.Ns mainGlobals mg → FnD l.prog w G.K mg base G k f fd [x] sp) :
    PySem.W.WalkO q loose XP YP l.row.toRowW d [] (fun f vs => PySem.call f vs) :=
  Att.attach_call most plain fun w s₀ s₁ mg mb fa o pm cd doc a vs ns G Y ho hd hcd hmg hobj hints hlen hg => by
    obtain ⟨Γ, fd, sp, inK, bind, law, fn⟩ := fn w mg fa _ Y G.T.g hmg
    exact end_call rfl inK G.T.g G.T.b G.T.builtins G.T.nolimit hg hobj hints (Nat.le_trans hlen small) room fn bind (law ns hlen)
def asM (g : Addr → Option Obj) (n : Nat) : List Addr := sysModules :: He.asD g n
abbrev AlM : Type := He.AlD × Bool
def obsM (n : Nat) (fa : List He.Fa) (fn : List He.DefD) (ck : PySem.W.Frag → Bool) (g : Addr → Option Obj) : AlM := (He.obsD fa fn (He.frG g (asM g n)), ((He.frG g (asM g n)).lookup sysModules).isSome && ck (He.frG g (asM g n)))
def hookM (n : Nat) (fa : List He.Fa) (fn : List He.DefD) (ck : PySem.W.Frag → Bool) : PySem.W.Hook where
  α := AlM
  obs := fun s => obsM n fa fn ck s.heap.get?
  val := fun _ => (He.valD fn, true)
  says := fun _ h => ∃ K : PySem.W.Frag, K.In h ∧ He.SaysD fa fn K ∧ ((K.lookup sysModules).isSome && ck K) = true
  of := fun _ _ e => ⟨_, He.frG_in, congrArg Prod.fst e, congrArg Prod.snd e⟩
  keeps := fun _ _ _ ⟨K, hK, c, d⟩ k => ⟨K, PySem.W.Frag.In.keeps hK k, c, d⟩
theorem obsM_eq {n : Nat} {fa : List He.Fa} {fn : List He.DefD} {ck : PySem.W.Frag → Bool} {g : Addr → Option Obj} {s : Shared} (h : ∀ a, g a = s.heap.get? a) : obsM n fa fn ck g = (hookM n fa fn ck).obs s := by
  have e : g = s.heap.get? := funext h
  rw [e] <;> rfl
theorem sys_in {K : PySem.W.Frag} {base : Heap} {b : Bool} (c : ((K.lookup sysModules).isSome && b) = true) (h : K.In base) : (base.get? sysModules).isSome = true := by
  obtain ⟨o, e⟩ := Option.isSome_iff_exists.mp (Bool.and_eq_true_iff.mp c).1
  rw [h _ _ e]
  rfl
end DL
namespace DH
open PySem PySem.Spec L2 DL
def lets : Str := "abcdefghijklmnopqrstuvwxyz"
def nm : D → Bool
  | .str x => decide (1 ≤ x.length ∧ x.length ≤ 8) && x.cps.toList.all fun c => decide (c ∈ lets.cps.toList)
  | _ => false
def wordOk (x : Str) : Prop := nm (.str x) = true ∧ PyData.strOk x = true
mutual
/-- plain values of a moderate size -/
def okV : D → Bool
  | .non | .bl _ | .int _ => true
  | .str z => decide (z.length ≤ 1000000)
  | .tup xs | .lst xs => decide (xs.length ≤ 1000000) && okVs xs
  | .dct kvs => okKs kvs
  | _ => false
def okVs : List D → Bool
  | [] => true
  | x :: xs => okV x && okVs xs
def okKs : List (D × D) → Bool
  | [] => true
  | (a, b) :: r => okV a && okV b && okKs r
end
def sl_is_name : DSpec := fun ws cs Q E => ∃ x, ws = [.d x] ∧ cs = [] ∧ okV x = true ∧ Q (.d (.bl (nm x))) []
def sp_is_name : DSpec := loc sl_is_name
def Pt : Type := { p : Int × Int // 0 ≤ p.2 ∧ p.2 < 2147483648 }
def pc (p : Pt) : Cell := pot p.1.1 p.1.2
def sl__law_pot : DSpec := fun ws cs Q E => ∃ ns k, ws = [.d (.scr ns), .d (.int k)] ∧ cs = [] ∧ 0 ≤ k ∧ k < 100 ∧ ∀ p : Pt, Q (.c 0) [pc p]
def sp__law_pot : DSpec := loc sl__law_pot
def sl__law_draw : DSpec := fun ws cs Q E => ∃ p m, ws = [.c 0, .d (.int m)] ∧ cs = [pc p] ∧ 0 < m ∧ m < 2 ^ 250 ∧ ∀ r p', 0 ≤ r → r < m → Q (.d (.int r)) [pc p']
def sp__law_draw : DSpec := loc sl__law_draw
def sl__law_mixed : DSpec := fun ws cs Q E => ∃ p xs, ws = [.c 0, .c 1] ∧ cs = [pc p, .lst xs] ∧ xs.length ≤ 1000 ∧ ∀ ys p', ys.Perm xs → Q (.c 2) [pc p', .lst xs, .lst ys]
def sp__law_mixed : DSpec := loc sl__law_mixed
def sl__law_name : DSpec := fun ws cs Q E => ∃ p, ws = [.c 0] ∧ cs = [pc p] ∧ ∀ x p', wordOk x → Q (.d (.str x)) [pc p']
def sp__law_name : DSpec := loc sl__law_name
def sl__law_names : DSpec := fun ws cs Q E => ∃ p m, ws = [.c 0, .d (.int m)] ∧ cs = [pc p] ∧ 0 ≤ m ∧ m ≤ 26 ∧ ∀ (ns : List Str) p', (ns.length : Int) = m → ns.Nodup → (∀ x ∈ ns, wordOk x) → Q (.c 1) [pc p', .lst (ns.map .str)]
def sp__law_names : DSpec := loc sl__law_names
abbrev Row := Str × List Str
def namesR (R : List Row) : List Str := R.map (·.1)
def rowD (r : Row) : D := .tup [.str r.1, .tup (r.2.map .str)]
structure RowsOk (R : List Row) : Prop where
  nd : (namesR R).Nodup
  nm : ∀ r ∈ R, wordOk r.1
  sup : ∀ A r B, R = A ++ r :: B → r.2.Nodup ∧ (∀ x ∈ r.2, x ∈ namesR A) ∧ r.2.length ≤ 25
def sl__law_kinds : DSpec := fun ws cs Q E => ∃ p m, ws = [.c 0, .d (.int m)] ∧ cs = [pc p] ∧ 1 ≤ m ∧ m ≤ 25 ∧ ∀ (R : List Row) p', RowsOk R → 1 ≤ R.length → (R.length : Int) ≤ m → Q (.c 1) [pc p', .lst (R.map rowD)]
def sp__law_kinds : DSpec := loc sl__law_kinds
/-- a dict with text keys at hand -/
def dAt (w : W) (g : Cs) (m : List (Str × D)) : Prop := (w = .c 0 ∧ ∃ o, g = [.dct (sd m) o]) ∨ (w = .d (.dct (sd m)) ∧ g = [])
/-- xs: different texts, all of ks -/
def diffL (ks : List Str) : List D → List Str → Bool
  | [], _ => true
  | .str x :: r, before => decide (x ∈ ks) && (!decide (x ∈ before) && diffL ks r (before ++ [x]))
  | _ :: _, _ => false
def diffB (ks : List Str) : D → Bool
  | .tup xs => diffL ks xs []
  | _ => false
def sl_are_different_classes : DSpec := fun ws cs Q E => ∃ x w m, ws = [.d x, w] ∧ dAt w cs m ∧ okV x = true ∧ Q (.d (.bl (diffB (m.map (·.1)) x))) cs
def sp_are_different_classes : DSpec := loc sl_are_different_classes
def elemP (ks : List Str) : D → D
  | .tup [n, s] => if nm n = false then .str "name" else match n with
    | .str x => if x ∈ ks then .str "duplicate" else if diffB ks s = true then .non else .str "superclasses"
    | _ => .non
  | _ => .str "class"
def sl_element_problem : DSpec := fun ws cs Q E => ∃ x w m, ws = [.d x, w] ∧ dAt w cs m ∧ okV x = true ∧ Q (.d (elemP (m.map (·.1)) x)) cs
def sp_element_problem : DSpec := loc sl_element_problem
/-- the superclasses, as they stand -/
def hd1 (R : List Row) : List (Str × D) := R.map fun r => (r.1, .tup (r.2.map .str))
def getA (A : List Row) (s : Str) : List Str := (A.lookup s).getD []
/-- what is at or above: name by name -/
def ancN (ns : List Str) (A : List Row) (r : Row) : List Str := ns.filter fun k => decide (k ∈ r.1 :: r.2.flatMap (getA A))
def ancF (ns : List Str) : List Row → List Row → List Row
  | [], A => A
  | r :: R, A => ancF ns R (A ++ [(r.1, ancN ns A r)])
def ancR (R : List Row) : List Row := ancF (namesR R) R []
def lstD (A : List Row) : List (Str × D) := A.map fun r => (r.1, .lst (r.2.map .str))
def hier (R : List Row) : D := .obj 0 [.dct (sd (hd1 R)), .dct (sd (lstD (ancR R)))]
def sl_Hierarchy_ancestors_of_new : DSpec := fun ws cs Q E => ∃ R A o1 o2 r, ws = [.c 0, .d (.str r.1)] ∧ cs = [.obj 0 [some (.c 1), some (.c 2)], .dct (sd (hd1 R)) o1, .dct (sd (lstD A)) o2] ∧ RowsOk R ∧ R.length ≤ 100 ∧ r ∈ R ∧
  (∀ s ∈ r.2, s ∈ namesR A) ∧ (∀ a ∈ A, a.2.length ≤ 100) ∧ Q (.c 3) (cs ++ [.lst ((ancN (namesR R) A r).map .str)])
def sp_Hierarchy_ancestors_of_new : DSpec := loc sl_Hierarchy_ancestors_of_new
/-- a list of our own or a tuple -/
def ltAt (w : W) (i : Nat) (g : Cs) (xs : List D) : Prop := (w = .c i ∧ g = [.lst xs]) ∨ (w = .d (.tup xs) ∧ g = [])
def sl_Hierarchy_init : DSpec := fun ws cs Q E => ∃ w g R, ws = [.c 0, w] ∧ cs = .obj 0 [none, none] :: g ∧ ltAt w 1 g (R.map rowD) ∧ RowsOk R ∧ R.length ≤ 20 ∧ Q (.d .non) (.frz (hier R) :: g)
def sp_Hierarchy_init : DSpec := loc sl_Hierarchy_init
def hasN (R : List Row) : D → Bool
  | .str z => decide (z ∈ namesR R)
  | _ => false
def sl_Hierarchy_has_class : DSpec := fun ws cs Q E => ∃ R x, ws = [.d (hier R), .d x] ∧ cs = [] ∧ okV x = true ∧ Q (.d (.bl (hasN R x))) []
def sp_Hierarchy_has_class : DSpec := loc sl_Hierarchy_has_class
def cntB : D → Bool
  | .int i => decide (1 ≤ i ∧ i ≤ 3)
  | _ => false
def sl_is_count : DSpec := fun ws cs Q E => ∃ x, ws = [.d x] ∧ cs = [] ∧ isTag x = true ∧ Q (.d (.bl (cntB x))) []
def sp_is_count : DSpec := loc sl_is_count
def ptB (R : List Row) : D → Bool
  | .tup xs => decide (1 ≤ xs.length ∧ xs.length ≤ 3) && xs.all (hasN R)
  | _ => false
/-- a value at hand: data, or a list that is still owned -/
def vAt (w : W) (g : Cs) (x : D) : Prop := (w = .d x ∧ g = []) ∨ ∃ xs, x = .lst xs ∧ w = .c 0 ∧ g = [.lst xs]
def sl_is_point : DSpec := fun ws cs Q E => ∃ R w x, ws = [.d (hier R), w] ∧ vAt w cs x ∧ okV x = true ∧ Q (.d (.bl (ptB R x))) cs
def sp_is_point : DSpec := loc sl_is_point
def tupS (p : List Str) : D := .tup (p.map .str)
def sl_Hierarchy_names : DSpec := fun ws cs Q E => ∃ R, ws = [.d (hier R)] ∧ cs = [] ∧ Q (.c 0) [.lst ((namesR R).map .str)]
def sp_Hierarchy_names : DSpec := loc sl_Hierarchy_names
def sl_Hierarchy_require_class : DSpec := fun ws cs Q E => ∃ R x, ws = [.d (hier R), .d x] ∧ cs = [] ∧ okV x = true ∧ hasN R x = true ∧ Q (.d .non) []
def sp_Hierarchy_require_class : DSpec := loc sl_Hierarchy_require_class
def sl_require_point : DSpec := fun ws cs Q E => ∃ R x, ws = [.d (hier R), .d x] ∧ cs = [] ∧ okV x = true ∧ ptB R x = true ∧ Q (.d .non) []
def sp_require_point : DSpec := loc sl_require_point
/-- the tuples that take one of each list -/
def prodF (found : List (List Str)) : List (List Str) → List (List Str)
  | [] => found
  | ns :: r => prodF (found.flatMap fun p => ns.map fun n => p ++ [n]) r
def prodL (L : List (List Str)) : List (List Str) := prodF [[]] L
def sl_combined : DSpec := fun ws cs Q E => ∃ L : List (List Str), ws = [.c 0] ∧ cs = [.lst (L.map fun l => .lst (l.map .str))] ∧ (∀ k, (prodL (L.take k)).length ≤ 100000) ∧ L.length ≤ 100 ∧ Q (.c 1) (cs ++ [.lst ((prodL L).map tupS)])
def sp_combined : DSpec := loc sl_combined
def sl_all_points : DSpec := fun ws cs Q E => ∃ R m, ws = [.d (hier R), .d (.int m)] ∧ cs = [] ∧ 1 ≤ m ∧ m ≤ 3 ∧ R.length ≤ 20 ∧ Q (.c 0) [.lst ((prodL (List.replicate m.toNat (namesR R))).map tupS)]
def sp_all_points : DSpec := loc sl_all_points
/-- the rows from the last to the first: what is found grows -/
def aboveF : List Row → List Str → List Str
  | [], F => F
  | r :: rs, F => aboveF rs (if r.1 ∈ F then F ++ r.2.filter (fun x => decide (x ∉ F)) else F)
def aboveL (R : List Row) (z : Str) : List Str := aboveF R.reverse [z]
def sl__law_above : DSpec := fun ws cs Q E => ∃ R z, ws = [.c 0, .d (.str z)] ∧ cs = [.lst (R.map rowD)] ∧ RowsOk R ∧ R.length ≤ 25 ∧ Q (.c 1) (cs ++ [.lst ((aboveL R z).map .str)])
def sp__law_above : DSpec := loc sl__law_above
def upsD (R : List Row) : List (Str × D) := R.map fun r => (r.1, .lst ((aboveL R r.1).map .str))
def sl__law_ups : DSpec := fun ws cs Q E => ∃ R, ws = [.c 0] ∧ cs = [.lst (R.map rowD)] ∧ RowsOk R ∧ R.length ≤ 25 ∧ ∀ o, Q (.c 1) (cs ++ [.dct (sd (upsD R)) o])
def sp__law_ups : DSpec := loc sl__law_ups
def underB (R : List Row) (p q : List Str) : Bool := (p.zip q).all fun x => decide (x.2 ∈ aboveL R x.1)
def sl__law_is_under : DSpec := fun ws cs Q E => ∃ R p q o, ws = [.c 0, .d (tupS p), .d (tupS q)] ∧ cs = [.dct (sd (upsD R)) o] ∧ (∀ z ∈ p, z ∈ namesR R) ∧ p.length ≤ 3 ∧ Q (.d (.bl (underB R p q))) cs
def sp__law_is_under : DSpec := loc sl__law_is_under
def sl__law_all_points : DSpec := fun ws cs Q E => ∃ R m, ws = [.c 0, .d (.int m)] ∧ cs = [.lst (R.map rowD)] ∧ 1 ≤ m ∧ m ≤ 3 ∧ R.length ≤ 20 ∧ Q (.d (.lst ((prodL (List.replicate m.toNat (namesR R))).map tupS))) cs
def sp__law_all_points : DSpec := loc sl__law_all_points
def belowB (R : List Row) (x y : Str) : Bool := decide (y ∈ getA (ancR R) x)
def sl_Hierarchy_is_at_or_below : DSpec := fun ws cs Q E => ∃ R x y, ws = [.d (hier R), .d (.str x), .d (.str y)] ∧ cs = [] ∧ RowsOk R ∧ x ∈ namesR R ∧ y ∈ namesR R ∧ Q (.d (.bl (belowB R x y))) []
def sp_Hierarchy_is_at_or_below : DSpec := loc sl_Hierarchy_is_at_or_below
def liesB (R : List Row) (p q : List Str) : Bool := (p.zip q).all fun x => belowB R x.1 x.2
def sl_lies_at_or_below : DSpec := fun ws cs Q E => ∃ R p q, ws = [.d (hier R), .d (tupS p), .d (tupS q)] ∧ cs = [] ∧ RowsOk R ∧ (∀ z ∈ p, z ∈ namesR R) ∧ (∀ z ∈ q, z ∈ namesR R) ∧ p.length ≤ 3 ∧ Q (.d (.bl (liesB R p q))) []
def sp_lies_at_or_below : DSpec := loc sl_lies_at_or_below
/-- points of one length -/
def PtOk (R : List Row) (m : Nat) (p : List Str) : Prop := p.length = m ∧ ∀ z ∈ p, z ∈ namesR R
def sl_require_alike_points : DSpec := fun ws cs Q E => ∃ (R : List Row) (m : Nat) (p : List Str) (qs : List (List Str)), ws = [.d (hier R), .d (tupS p), .d (.tup (qs.map tupS))] ∧ cs = [] ∧ RowsOk R ∧ PtOk R m p ∧ 1 ≤ m ∧ m ≤ 3 ∧ (∀ q ∈ qs, PtOk R m q) ∧ Q (.d .non) []
def sp_require_alike_points : DSpec := loc sl_require_alike_points
def sl_is_point_at_or_below : DSpec := fun ws cs Q E => ∃ R m p q, ws = [.d (hier R), .d (tupS p), .d (tupS q)] ∧ cs = [] ∧ RowsOk R ∧ PtOk R m p ∧ PtOk R m q ∧ 1 ≤ m ∧ m ≤ 3 ∧ Q (.d (.bl (liesB R p q))) []
def sp_is_point_at_or_below : DSpec := loc sl_is_point_at_or_below
def sl__law_sizes : DSpec := fun ws cs Q E => ∃ p, ws = [.c 0] ∧ cs = [pc p] ∧ ∀ (a b : Int) p', 1 ≤ a → a ≤ 8 → 1 ≤ b → b ≤ 3 → a.toNat ^ b.toNat ≤ 64 → Q (.d (.tup [.int a, .int b])) [pc p']
def sp__law_sizes : DSpec := loc sl__law_sizes
end DH
namespace DH
open PySem PySem.Spec L2 DL
abbrev N_is_name : List Str := ["value", "character"]
/-- is_name(value): slots 0=value 1=character -/
def t_is_name : DS :=
  dSeq (dIfS (dOr (dNot (dTest (dOpN oIsi (dCons (dVar 0) (dCons (dC (.oth (.ty "str"))) (dNil)))))) (dNot (dTest (dChain oLe oLe (dC (.int 1)) (dOpN oLen (dCons (dVar 0) (dNil))) (dC (.int 8)))))) (dRet (dC (.bl false))) (dNext))
  (dRet (dOpN (oBools fun bs => bs.all id) (dCons (dLc (diSeq (dVar 0)) (dgName 1) (dYes) (dOp2 (oInS false) (dVar 1) (dC (.str "abcdefghijklmnopqrstuvwxyz"))) [1]) (dNil))))
abbrev N__law_pot : List Str := ["_law_script", "_law_k", "_law_cell"]
/-- _law_pot(_law_script, _law_k): slots 0=_law_script 1=_law_k 2=_law_cell -/
def t__law_pot : DS :=
  dSeq (dAsg (dIf (dTest (dOp2 oLt (dVar 1) (dOpN oLen (dCons (dVar 0) (dNil))))) (dOp2 oIx (dVar 0) (dVar 1)) (dC (.int 0))) (dgName 2))
  (dRet (dLst (dCons (dOpN (oInt2 fun i j => .int (if j > i then j else i)) (dCons (dC (.int 0)) (dCons (dOp2 oSub (dOpN (oInt1 fun i => .int (if i < 0 then -i else i)) (dCons (dVar 2) (dNil))) (dOp2 oPow (dC (.int 10)) (dC (.int 18)))) (dNil)))) (dCons (dOp2 oMod (dOp2 oAdd (dOp2 oAdd (dOp2 oMul (dOp2 oMod (dOpN (oInt1 fun i => .int (if i < 0 then -i else i)) (dCons (dVar 2) (dNil))) (dC (.int 2147483587))) (dC (.int 48271))) (dOp2 oMul (dC (.int 60013)) (dVar 1))) (dC (.int 29))) (dC (.int 2147483647))) (dNil)))))
abbrev N__law_draw : List Str := ["_law_pot_here", "_law_many", "_law_digit"]
/-- _law_draw(_law_pot_here, _law_many): slots 0=_law_pot_here 1=_law_many 2=_law_digit -/
def t__law_draw : DS :=
  dSeq (dIfS (dTest (dOp2 oGt (dOp2 oIx (dVar 0) (dC (.int 0))) (dC (.int 0)))) (dSeq (dAsg (dOpN oDivmod (dCons (dOp2 oIx (dVar 0) (dC (.int 0))) (dCons (dVar 1) (dNil)))) (dgTup 2 (dgCons (dgSub (dVar 0) (dC (.int 0)) oSetL) (dgCons (dgName 2) (dgNil)))))
  (dRet (dVar 2))) (dNext))
  (dSeq (dAsg (dOp2 oMod (dOp2 oAdd (dOp2 oMul (dOp2 oIx (dVar 0) (dC (.int 1))) (dC (.int 39373))) (dC (.int 12227))) (dC (.int 2147483629))) (dgSub (dVar 0) (dC (.int 1)) oSetL))
  (dRet (dOp2 oMod (dOp2 oFDiv (dOp2 oMod (dOp2 oMul (dOp2 oIx (dVar 0) (dC (.int 1))) (dOp2 oIx (dVar 0) (dC (.int 1)))) (dC (.int 2147483563))) (dC (.int 13))) (dVar 1))))
abbrev N__law_mixed : List Str := ["_law_pot_here", "_law_some", "_law_left", "_law_turn"]
/-- _law_mixed(_law_pot_here, _law_some): slots 0=_law_pot_here 1=_law_some 2=_law_left 3=_law_turn -/
def t__law_mixed : DS :=
  dSeq (dAsg (dOpN oListOf (dCons (dVar 1) (dNil))) (dgName 2))
  (dRet (dLc (diRange1 (dCons (dOpN oLen (dCons (dVar 1) (dNil))) (dNil))) (dgName 3) (dYes) (dBM "list" oPopAt (dVar 2) (dCons (dCall sp__law_draw 2 0 (fun us _ => us) (dCons (dVar 0) (dCons (dOpN oLen (dCons (dVar 2) (dNil))) (dNil))) dNil) (dNil))) [3]))
abbrev N__law_name : List Str := ["_law_pot_here", "_law_letters", "_law_turn"]
/-- _law_name(_law_pot_here): slots 0=_law_pot_here 1=_law_letters 2=_law_turn -/
def t__law_name : DS :=
  dSeq (dAsg (dC (.str "abcdefghijklmnopqrstuvwxyz")) (dgName 1))
  (dRet (dBM "str" oJoin (dC (.str "")) (dCons (dLc (diRange1 (dCons (dOp2 oIx (dLst (dCons (dC (.int 1)) (dCons (dC (.int 2)) (dCons (dC (.int 8)) (dNil))))) (dCall sp__law_draw 2 0 (fun us _ => us) (dCons (dVar 0) (dCons (dC (.int 3)) (dNil))) dNil)) (dNil))) (dgName 2) (dYes) (dOp2 oIx (dVar 1) (dCall sp__law_draw 2 0 (fun us _ => us) (dCons (dVar 0) (dCons (dC (.int 26)) (dNil))) dNil)) [2]) (dNil))))
abbrev N__law_names : List Str := ["_law_pot_here", "_law_many", "_law_found", "_law_turn", "_law_drawn", "_law_free", "_law_letter"]
/-- _law_names(_law_pot_here, _law_many): slots 0=_law_pot_here 1=_law_many 2=_law_found 3=_law_turn 4=_law_drawn 5=_law_free 6=_law_letter -/
def t__law_names : DS :=
  dSeq (dAsg (dLst (dNil)) (dgName 2))
  (dSeq (dFor (diRange1 (dCons (dVar 1) (dNil))) (dgName 3) (gcS (dSeq (dAsg (dCall sp__law_name 1 0 (fun us _ => us) (dCons (dVar 0) (dNil)) dNil) (dgName 4))
  (dSeq (dAsg (dLc (diSeq (dC (.str "abcdefghijklmnopqrstuvwxyz"))) (dgName 6) (dTest (dOp2 (oIn true) (dVar 6) (dVar 2))) (dVar 6) [6]) (dgName 5))
  (dDrop (dBM "list" oAppend (dVar 2) (dCons (dIf (dTest (dOp2 (oIn false) (dVar 4) (dVar 2))) (dOp2 oIx (dVar 5) (dC (.int 0))) (dVar 4)) (dNil))))))))
  (dRet (dVar 2)))
abbrev N__law_kinds : List Str := ["_law_pot_here", "_law_most", "_law_rows", "_law_label", "_law_many", "_law_row"]
/-- _law_kinds(_law_pot_here, _law_most): slots 0=_law_pot_here 1=_law_most 2=_law_rows 3=_law_label 4=_law_many 5=_law_row -/
def t__law_kinds : DS :=
  dSeq (dAsg (dLst (dNil)) (dgName 2))
  (dSeq (dFor (diSeq (dCall sp__law_names 2 0 (fun us _ => us) (dCons (dVar 0) (dCons (dOp2 oAdd (dC (.int 1)) (dCall sp__law_draw 2 0 (fun us _ => us) (dCons (dVar 0) (dCons (dVar 1) (dNil))) dNil)) (dNil))) dNil)) (dgName 3) (gcS (dSeq (dAsg (dOp2 oIx (dLst (dCons (dC (.int 0)) (dCons (dC (.int 1)) (dCons (dC (.int 1)) (dCons (dC (.int 2)) (dCons (dC (.int 2)) (dCons (dC (.int 3)) (dNil)))))))) (dCall sp__law_draw 2 0 (fun us _ => us) (dCons (dVar 0) (dCons (dC (.int 6)) (dNil))) dNil)) (dgName 4))
  (dDrop (dBM "list" oAppend (dVar 2) (dCons (dTup (dCons (dVar 3) (dCons (dOpN oTupleOf (dCons (dSl (dCall sp__law_mixed 2 0 (fun us _ => us) (dCons (dVar 0) (dCons (dLc (diSeq (dVar 2)) (dgName 5) (dYes) (dOp2 oIx (dVar 5) (dC (.int 0))) [5]) (dNil))) dNil) (dNoP) (dP (dVar 4))) (dNil))) (dNil)))) (dNil)))))))
  (dRet (dVar 2)))
abbrev N_are_different_classes : List Str := ["value", "known", "position", "name"]
/-- are_different_classes(value, known): slots 0=value 1=known 2=position 3=name -/
def t_are_different_classes : DS :=
  dSeq (dIfS (dNot (dTest (dOpN oIsi (dCons (dVar 0) (dCons (dC (.oth (.ty "tuple"))) (dNil)))))) (dRet (dC (.bl false))) (dNext))
  (dSeq (dFor (diEnumA (dCons (dVar 0) (dNil))) (dgTup 2 (dgCons (dgName 2) (dgCons (dgName 3) (dgNil)))) (gcS (dIfS (dOr (dNot (dTest (dOpN oIsi (dCons (dVar 3) (dCons (dC (.oth (.ty "str"))) (dNil)))))) (dOr (dTest (dOp2 (oInD true) (dVar 3) (dVar 1))) (dTest (dOp2 (oIn false) (dVar 3) (dSl (dVar 0) (dNoP) (dP (dVar 2))))))) (dRet (dC (.bl false))) (dNext))))
  (dRet (dC (.bl true))))
abbrev N_element_problem : List Str := ["element", "known", "name", "superclasses"]
/-- element_problem(element, known): slots 0=element 1=known 2=name 3=superclasses -/
def t_element_problem : DS :=
  dSeq (dIfS (dOr (dNot (dTest (dOpN oIsi (dCons (dVar 0) (dCons (dC (.oth (.ty "tuple"))) (dNil)))))) (dTest (dOp2 (oEq true) (dOpN oLen (dCons (dVar 0) (dNil))) (dC (.int 2))))) (dRet (dC (.str "class"))) (dNext))
  (dSeq (dAsg (dVar 0) (dgTup 2 (dgCons (dgName 2) (dgCons (dgName 3) (dgNil)))))
  (dSeq (dIfS (dNot (dTest (dCall sp_is_name 1 0 (fun us _ => us) (dCons (dVar 2) (dNil)) dNil))) (dRet (dC (.str "name"))) (dNext))
  (dSeq (dIfS (dTest (dOp2 (oInD false) (dVar 2) (dVar 1))) (dRet (dC (.str "duplicate"))) (dNext))
  (dRet (dIf (dTest (dCall sp_are_different_classes 2 0 (fun us _ => us) (dCons (dVar 3) (dCons (dVar 1) (dNil))) dNil)) (dC .non) (dC (.str "superclasses")))))))
abbrev N_Hierarchy_ancestors_of_new : List Str := ["self", "name", "found", "superclass", "known"]
/-- Hierarchy.ancestors_of_new(self, name): slots 0=self 1=name 2=found 3=superclass 4=known -/
def t_Hierarchy_ancestors_of_new : DS :=
  dSeq (dAsg (dLst (dCons (dVar 1) (dNil))) (dgName 2))
  (dSeq (dFor (diSeq (dOp2 oIxD (dFld 0 0 (dVar 0)) (dVar 1))) (dgName 3) (gcS (dDrop (dBM "list" oExtend (dVar 2) (dCons (dOp2 oIxD (dFld 0 1 (dVar 0)) (dVar 3)) (dNil))))))
  (dRet (dLc (diDK (dFld 0 0 (dVar 0))) (dgName 4) (dTest (dOp2 (oIn false) (dVar 4) (dVar 2))) (dVar 4) [4])))
abbrev N_Hierarchy_init : List Str := ["self", "classes", "position", "element", "problem", "name", "superclasses"]
/-- Hierarchy.__init__(self, classes): slots 0=self 1=classes 2=position 3=element 4=problem 5=name 6=superclasses -/
def t_Hierarchy_init : DS :=
  frzS 0 (dSeq (dIfS (dNot (dTest (dOpN oIsiT (dCons (dVar 1) (dCons (dTup (dCons (dC (.oth (.ty "list"))) (dCons (dC (.oth (.ty "tuple"))) (dNil)))) (dNil)))))) (dNever) (dNext))
  (dSeq (dSetF 0 0 (dVar 0) (dDict0))
  (dSeq (dFor (diEnumA (dCons (dVar 1) (dNil))) (dgTup 2 (dgCons (dgName 2) (dgCons (dgName 3) (dgNil)))) (gcS (dSeq (dAsg (dCall sp_element_problem 2 0 (fun us _ => us) (dCons (dVar 3) (dCons (dFld 0 0 (dVar 0)) (dNil))) dNil) (dgName 4))
  (dSeq (dIfS (dTest (dOp2 (oIs true) (dVar 4) (dC .non))) (dNever) (dNext))
  (dSeq (dAsg (dVar 3) (dgTup 2 (dgCons (dgName 5) (dgCons (dgName 6) (dgNil)))))
  (dAsg (dVar 6) (dgSub (dFld 0 0 (dVar 0)) (dVar 5) oSetD)))))))
  (dSeq (dIfS (dTest (dOp2 oGt (dOpN oLenD (dCons (dFld 0 0 (dVar 0)) (dNil))) (dCon 0 (.int 20) (dVar 0)))) (dNever) (dNext))
  (dSeq (dSetF 0 1 (dVar 0) (dDict0))
  (dFor (diDK (dFld 0 0 (dVar 0))) (dgName 5) (gcS (dAsg (dMeth 0 sp_Hierarchy_ancestors_of_new 1 0 (fun us _ => us) (dVar 0) (dCons (dVar 5) (dNil)) dNil) (dgSub (dFld 0 1 (dVar 0)) (dVar 5) oSetD)))))))))
abbrev N_Hierarchy_has_class : List Str := ["self", "value"]
/-- Hierarchy.has_class(self, value): slots 0=self 1=value -/
def t_Hierarchy_has_class : DS :=
  dRet (dAndV (dOpN oIsi (dCons (dVar 1) (dCons (dC (.oth (.ty "str"))) (dNil)))) (dOp2 (oInD false) (dVar 1) (dFld 0 0 (dVar 0))))
abbrev N_is_count : List Str := ["value"]
/-- is_count(value): slots 0=value -/
def t_is_count : DS :=
  dRet (dAndV (dOpN oIsi (dCons (dVar 0) (dCons (dC (.oth (.ty "int"))) (dNil)))) (dAndV (dNotV (dOpN oIsi (dCons (dVar 0) (dCons (dC (.oth (.ty "bool"))) (dNil))))) (dChain oLe oLe (dC (.int 1)) (dVar 0) (dC (.int 3)))))
abbrev N_is_point : List Str := ["hierarchy", "value", "name"]
/-- is_point(hierarchy, value): slots 0=hierarchy 1=value 2=name -/
def t_is_point : DS :=
  dSeq (dIfS (dOr (dNot (dTest (dOpN oIsi (dCons (dVar 1) (dCons (dC (.oth (.ty "tuple"))) (dNil)))))) (dNot (dTest (dCall sp_is_count 1 0 (fun us _ => us) (dCons (dOpN oLen (dCons (dVar 1) (dNil))) (dNil)) dNil)))) (dRet (dC (.bl false))) (dNext))
  (dRet (dOpN (oBools fun bs => bs.all id) (dCons (dLc (diSeq (dVar 1)) (dgName 2) (dYes) (dMeth 0 sp_Hierarchy_has_class 1 0 (fun us _ => us) (dVar 0) (dCons (dVar 2) (dNil)) dNil) [2]) (dNil))))
abbrev N_Hierarchy_names : List Str := ["self"]
/-- Hierarchy.names(self): slots 0=self -/
def t_Hierarchy_names : DS :=
  dRet (dOpN oListK (dCons (dFld 0 0 (dVar 0)) (dNil)))
abbrev N_Hierarchy_require_class : List Str := ["self", "value"]
/-- Hierarchy.require_class(self, value): slots 0=self 1=value -/
def t_Hierarchy_require_class : DS :=
  dIfS (dNot (dTest (dMeth 0 sp_Hierarchy_has_class 1 0 (fun us _ => us) (dVar 0) (dCons (dVar 1) (dNil)) dNil))) (dNever) (dNext)
abbrev N_require_point : List Str := ["hierarchy", "value"]
/-- require_point(hierarchy, value): slots 0=hierarchy 1=value -/
def t_require_point : DS :=
  dIfS (dNot (dTest (dCall sp_is_point 2 0 (fun us _ => us) (dCons (dVar 0) (dCons (dVar 1) (dNil))) dNil))) (dNever) (dNext)
abbrev N_combined : List Str := ["choices", "found", "names", "point", "name"]
/-- combined(choices): slots 0=choices 1=found 2=names 3=point 4=name -/
def t_combined : DS :=
  dSeq (dAsg (dLst (dCons (dTup (dNil)) (dNil))) (dgName 1))
  (dSeq (dFor (diSeq (dVar 0)) (dgName 2) (dAsg (dLc2 (diSeq (dVar 1)) (dgName 3) dYes (diSeq (dVar 2)) (dgName 4) dYes (dOp2 oAdd (dVar 3) (dTup (dCons (dVar 4) (dNil)))) [3, 4] [4]) (dgName 1)))
  (dRet (dVar 1)))
abbrev N_all_points : List Str := ["hierarchy", "count"]
/-- all_points(hierarchy, count): slots 0=hierarchy 1=count -/
def t_all_points : DS :=
  dSeq (dIfS (dNot (dTest (dCall sp_is_count 1 0 (fun us _ => us) (dCons (dVar 1) (dNil)) dNil))) (dNever) (dNext))
  (dRet (dCall sp_combined 1 0 (fun us _ => us) (dCons (dOp2 oMul (dLst (dCons (dMeth 0 sp_Hierarchy_names 0 0 (fun us _ => us) (dVar 0) dNil dNil) (dNil))) (dVar 1)) (dNil)) dNil))
abbrev N__law_above : List Str := ["_law_rows", "_law_label", "_law_found", "_law_one", "_law_superclasses", "_law_each"]
/-- _law_above(_law_rows, _law_label): slots 0=_law_rows 1=_law_label 2=_law_found 3=_law_one 4=_law_superclasses 5=_law_each -/
def t__law_above : DS :=
  dSeq (dAsg (dLst (dCons (dVar 1) (dNil))) (dgName 2))
  (dSeq (dFor (diSeq (dRev (dVar 0))) (dgTup 2 (dgCons (dgName 3) (dgCons (dgName 4) (dgNil)))) (gcS (dIfS (dTest (dOp2 (oIn false) (dVar 3) (dVar 2))) (dDrop (dBM "list" oExtend (dVar 2) (dCons (dLc (diSeq (dVar 4)) (dgName 5) (dTest (dOp2 (oIn true) (dVar 5) (dVar 2))) (dVar 5) [5]) (dNil)))) (dNext))))
  (dRet (dVar 2)))
abbrev N__law_ups : List Str := ["_law_rows", "_law_row"]
/-- _law_ups(_law_rows): slots 0=_law_rows 1=_law_row -/
def t__law_ups : DS :=
  dRet (dOpN oDictP (dCons (dLc (diSeq (dVar 0)) (dgName 1) (dYes) (dTup (dCons (dOp2 oIx (dVar 1) (dC (.int 0))) (dCons (dCall sp__law_above 2 0 (fun us _ => us) (dCons (dVar 0) (dCons (dOp2 oIx (dVar 1) (dC (.int 0))) (dNil))) dNil) (dNil)))) [1]) (dNil)))
abbrev N__law_is_under : List Str := ["_law_ups_here", "_law_inner", "_law_outer", "_law_low", "_law_high"]
/-- _law_is_under(_law_ups_here, _law_inner, _law_outer): slots 0=_law_ups_here 1=_law_inner 2=_law_outer 3=_law_low 4=_law_high -/
def t__law_is_under : DS :=
  dRet (dOpN (oBools fun bs => bs.all id) (dCons (dLc (diZip (dCons (dVar 1) (dCons (dVar 2) (dNil)))) (dgTup 2 (dgCons (dgName 3) (dgCons (dgName 4) (dgNil)))) (dYes) (dOp2 (oIn false) (dVar 4) (dOp2 oIxD (dVar 0) (dVar 3))) [3, 4]) (dNil)))
abbrev N__law_all_points : List Str := ["_law_rows", "_law_many", "_law_found", "_law_turn", "_law_longer", "_law_spot", "_law_row"]
/-- _law_all_points(_law_rows, _law_many): slots 0=_law_rows 1=_law_many 2=_law_found 3=_law_turn 4=_law_longer 5=_law_spot 6=_law_row -/
def t__law_all_points : DS :=
  dSeq (dAsg (dLst (dCons (dTup (dNil)) (dNil))) (dgName 2))
  (dSeq (dFor (diRange1 (dCons (dVar 1) (dNil))) (dgName 3) (gcS (dSeq (dAsg (dLst (dNil)) (dgName 4))
  (dSeq (dFor (diSeq (dVar 2)) (dgName 5) (gcS (dDrop (dBM "list" oExtend (dVar 4) (dCons (dLc (diSeq (dVar 0)) (dgName 6) (dYes) (dOp2 oAdd (dVar 5) (dTup (dCons (dOp2 oIx (dVar 6) (dC (.int 0))) (dNil)))) [6]) (dNil))))))
  (dAsg (dVar 4) (dgName 2))))))
  (dRet (dVar 2)))
abbrev N_Hierarchy_is_at_or_below : List Str := ["self", "name", "other"]
/-- Hierarchy.is_at_or_below(self, name, other): slots 0=self 1=name 2=other -/
def t_Hierarchy_is_at_or_below : DS :=
  dSeq (dDrop (dMeth 0 sp_Hierarchy_require_class 1 0 (fun us _ => us) (dVar 0) (dCons (dVar 1) (dNil)) dNil))
  (dSeq (dDrop (dMeth 0 sp_Hierarchy_require_class 1 0 (fun us _ => us) (dVar 0) (dCons (dVar 2) (dNil)) dNil))
  (dRet (dOp2 (oIn false) (dVar 2) (dOp2 oIxD (dFld 0 1 (dVar 0)) (dVar 1)))))
abbrev N_lies_at_or_below : List Str := ["hierarchy", "first", "second", "name", "other"]
/-- lies_at_or_below(hierarchy, first, second): slots 0=hierarchy 1=first 2=second 3=name 4=other -/
def t_lies_at_or_below : DS :=
  dRet (dOpN (oBools fun bs => bs.all id) (dCons (dLc (diZip (dCons (dVar 1) (dCons (dVar 2) (dNil)))) (dgTup 2 (dgCons (dgName 3) (dgCons (dgName 4) (dgNil)))) (dYes) (dMeth 0 sp_Hierarchy_is_at_or_below 2 0 (fun us _ => us) (dVar 0) (dCons (dVar 3) (dCons (dVar 4) (dNil))) dNil) [3, 4]) (dNil)))
abbrev N_require_alike_points : List Str := ["hierarchy", "first", "others", "other"]
/-- require_alike_points(hierarchy, first, others): slots 0=hierarchy 1=first 2=others 3=other -/
def t_require_alike_points : DS :=
  dSeq (dDrop (dCall sp_require_point 2 0 (fun us _ => us) (dCons (dVar 0) (dCons (dVar 1) (dNil))) dNil))
  (dFor (diSeq (dVar 2)) (dgName 3) (gcS (dIfS (dOr (dNot (dTest (dCall sp_is_point 2 0 (fun us _ => us) (dCons (dVar 0) (dCons (dVar 3) (dNil))) dNil))) (dTest (dOp2 (oEq true) (dOpN oLen (dCons (dVar 3) (dNil))) (dOpN oLen (dCons (dVar 1) (dNil)))))) (dNever) (dNext))))
abbrev N_is_point_at_or_below : List Str := ["hierarchy", "first", "second"]
/-- is_point_at_or_below(hierarchy, first, second): slots 0=hierarchy 1=first 2=second -/
def t_is_point_at_or_below : DS :=
  dSeq (dDrop (dCallS sp_require_alike_points 2 (dCons (dVar 0) (dCons (dVar 1) (dCons (dVar 2) (dNil))))))
  (dRet (dCall sp_lies_at_or_below 3 0 (fun us _ => us) (dCons (dVar 0) (dCons (dVar 1) (dCons (dVar 2) (dNil)))) dNil))
abbrev N__law_sizes : List Str := ["_law_pot_here"]
/-- _law_sizes(_law_pot_here): slots 0=_law_pot_here -/
def t__law_sizes : DS :=
  dRet (dOp2 oIx (dLst (dCons (dTup (dCons (dC (.int 8)) (dCons (dC (.int 1)) (dNil)))) (dCons (dTup (dCons (dC (.int 8)) (dCons (dC (.int 1)) (dNil)))) (dCons (dTup (dCons (dC (.int 6)) (dCons (dC (.int 1)) (dNil)))) (dCons (dTup (dCons (dC (.int 6)) (dCons (dC (.int 2)) (dNil)))) (dCons (dTup (dCons (dC (.int 8)) (dCons (dC (.int 2)) (dNil)))) (dCons (dTup (dCons (dC (.int 4)) (dCons (dC (.int 3)) (dNil)))) (dNil)))))))) (dCall sp__law_draw 2 0 (fun us _ => us) (dCons (dVar 0) (dCons (dC (.int 6)) (dNil))) dNil))
end DH
namespace DH
open PySem PySem.Spec L2 DL
/-- a slot that holds data, or nothing -/
def slt (o : Option D) : Option W := o.map .d
theorem fixEnv_nil {n : Nat} {cs : Cs} {K : Nv → Cs → Prop} : fixEnv n [] cs K = K [] cs := rfl
theorem fixEnv_none {n : Nat} {r : Nv} {cs : Cs} {K : Nv → Cs → Prop} : fixEnv n (none :: r) cs K = fixEnv n r cs fun r' c2 => K (none :: r') c2 := rfl
theorem fixEnv_d {n : Nat} {x : D} {r : Nv} {cs : Cs} {K : Nv → Cs → Prop} : fixEnv n (some (.d x) :: r) cs K = fixEnv n r cs fun r' c2 => K (some (.d x) :: r') c2 := rfl
theorem fixEnv_c {n i : Nat} {r : Nv} {cs : Cs} {K : Nv → Cs → Prop} : fixEnv n (some (.c i) :: r) cs K = if n ≤ i then fixC i cs fun x c1 => fixEnv n r c1 fun r' c2 => K (some (.d x) :: r') c2 else fixEnv n r cs fun r' c2 => K (some (.c i) :: r') c2 := rfl
theorem fixEnv_tp {n : Nat} {xs : List D} {r : Nv} {cs : Cs} {K : Nv → Cs → Prop} : fixEnv n (some (.tp xs) :: r) cs K = fixEnv n r cs fun r' c2 => K (some (.tp xs) :: r') c2 := rfl
theorem fixEnv_dead {n : Nat} {r : Nv} {cs : Cs} {K : Nv → Cs → Prop} : fixEnv n (some .dead :: r) cs K = fixEnv n r cs fun r' c2 => K (some .dead :: r') c2 := rfl
theorem fixEnv_sl {n : Nat} {o : Option D} {r : Nv} {cs : Cs} {K : Nv → Cs → Prop} : fixEnv n (slt o :: r) cs K = fixEnv n r cs fun r' c2 => K (slt o :: r') c2 := by cases o <;> rfl
theorem poison_sl {n : Nat} {o : Option D} : Option.map (poison n) (slt o) = slt o := by cases o <;> rfl
theorem refsC_pc {p : Pt} : refsC (pc p) = [] := rfl
theorem toLocC_pc {js : List Nat} {p : Pt} : toLocC js (pc p) = pc p := rfl
theorem unLocC_pc {js : List Nat} {n : Nat} {p : Pt} : unLocC js n (pc p) = pc p := rfl
theorem poisonC_pc {n : Nat} {p : Pt} : poisonC n (pc p) = pc p := rfl
theorem refsC_lst {xs : List D} : refsC (.lst xs) = [] := rfl
theorem refsC_dct {xs : List (D × D)} {o : Obj} : refsC (.dct xs o) = [] := rfl
theorem refsC_frz {x : D} : refsC (.frz x) = [] := rfl
theorem toLocC_lst {js : List Nat} {xs : List D} : toLocC js (.lst xs) = .lst xs := rfl
theorem toLocC_dct {js : List Nat} {xs : List (D × D)} {o : Obj} : toLocC js (.dct xs o) = .dct xs o := rfl
theorem toLocC_frz {js : List Nat} {x : D} : toLocC js (.frz x) = .frz x := rfl
theorem unLocC_lst {js : List Nat} {n : Nat} {xs : List D} : unLocC js n (.lst xs) = .lst xs := rfl
theorem unLocC_dct {js : List Nat} {n : Nat} {xs : List (D × D)} {o : Obj} : unLocC js n (.dct xs o) = .dct xs o := rfl
theorem unLocC_frz {js : List Nat} {n : Nat} {x : D} : unLocC js n (.frz x) = .frz x := rfl
theorem poisonC_lst {n : Nat} {xs : List D} : poisonC n (.lst xs) = .lst xs := rfl
theorem poisonC_dct {n : Nat} {xs : List (D × D)} {o : Obj} : poisonC n (.dct xs o) = .dct xs o := rfl
theorem poisonC_frz {n : Nat} {x : D} : poisonC n (.frz x) = .frz x := rfl
theorem poisonC_obj {n c : Nat} {fs : List (Option W)} : poisonC n (.obj c fs) = .obj c (fs.map (Option.map (poison n))) := rfl
theorem dropTo0 {cs : Cs} : dropTo 0 cs = [] := rfl
theorem dropTo1 {x0 : Cell} {cs : Cs} : dropTo 1 (x0 :: cs) = [poisonC 1 x0] := rfl
theorem dropTo2 {x0 x1 : Cell} {cs : Cs} : dropTo 2 (x0 :: x1 :: cs) = [poisonC 2 x0, poisonC 2 x1] := rfl
theorem dropTo3 {x0 x1 x2 : Cell} {cs : Cs} : dropTo 3 (x0 :: x1 :: x2 :: cs) = [poisonC 3 x0, poisonC 3 x1, poisonC 3 x2] := rfl
theorem dropTo4 {x0 x1 x2 x3 : Cell} {cs : Cs} : dropTo 4 (x0 :: x1 :: x2 :: x3 :: cs) = [poisonC 4 x0, poisonC 4 x1, poisonC 4 x2, poisonC 4 x3] := rfl
theorem dropTo5 {x0 x1 x2 x3 x4 : Cell} {cs : Cs} : dropTo 5 (x0 :: x1 :: x2 :: x3 :: x4 :: cs) = [poisonC 5 x0, poisonC 5 x1, poisonC 5 x2, poisonC 5 x3, poisonC 5 x4] := rfl
theorem dropTo6 {x0 x1 x2 x3 x4 x5 : Cell} {cs : Cs} : dropTo 6 (x0 :: x1 :: x2 :: x3 :: x4 :: x5 :: cs) = [poisonC 6 x0, poisonC 6 x1, poisonC 6 x2, poisonC 6 x3, poisonC 6 x4, poisonC 6 x5] := rfl
theorem p__law_pot : ∀ ws cs Q E, sl__law_pot ws cs Q E → t__law_pot (endsD cs.length Q E) (startE N__law_pot ws) cs := by
  rintro ws cs Q E ⟨ns, k, rfl, rfl, h0, h1, hq⟩
  exact p_pot _ [] Q E closed_nil ⟨ns, k, rfl, h0, h1, fun a b b0 b1 => hq ⟨(a, b), b0, b1⟩⟩
theorem p__law_draw : ∀ ws cs Q E, sl__law_draw ws cs Q E → t__law_draw (endsD cs.length Q E) (startE N__law_draw ws) cs := by
  rintro ws cs Q E ⟨p, m, rfl, rfl, h0, h1, hq⟩
  exact p_draw _ [pc p] Q E rfl ⟨0, m, rfl, ⟨p.1.1, p.1.2, rfl, p.2.1, p.2.2⟩, h0, h1, fun r a b r0 r1 b0 b1 => hq r ⟨(a, b), b0, b1⟩ r0 r1⟩
theorem draw0 {p : Pt} {m : Int} {g : Cs} {Q : DQ} {E : DX} : sp__law_draw [.c 0, .d (.int m)] (pc p :: g) Q E = (0 < m ∧ m < 2 ^ 250 ∧ ∀ r p', 0 ≤ r → r < m → Q (.d (.int r)) (pc p' :: g)) := by
  simp [sp__law_draw, loc, locAt, locJ, namesOf, refsC_pc, toLocC_pc, unLocC_pc, getCs, inJ, toLoc, unLoc, putC, sl__law_draw]
  intros; exact ⟨p, rfl⟩
theorem draw1 {p : Pt} {m : Int} {x : Cell} {g : Cs} {Q : DQ} {E : DX} : sp__law_draw [.c 1, .d (.int m)] (x :: pc p :: g) Q E = (0 < m ∧ m < 2 ^ 250 ∧ ∀ r p', 0 ≤ r → r < m → Q (.d (.int r)) (x :: pc p' :: g)) := by
  simp [sp__law_draw, loc, locAt, locJ, namesOf, refsC_pc, toLocC_pc, unLocC_pc, getCs, inJ, toLoc, unLoc, putC, sl__law_draw]
  intros; exact ⟨p, rfl⟩
theorem pot0 {ns : List Int} {k : Int} {g : Cs} {Q : DQ} {E : DX} (h0 : 0 ≤ k) (h1 : k < 100) (h : ∀ p : Pt, Q (.c g.length) (g ++ [pc p])) : sp__law_pot [.d (.scr ns), .d (.int k)] g Q E := by
  simp [sp__law_pot, loc, locAt, locJ, namesOf, getCs, inJ, toLoc, unLoc, putC, sl__law_pot, unLocC_pc]
  exact ⟨ns, k, ⟨rfl, rfl⟩, h0, h1, h⟩
theorem drop_app {n : Nat} {cs g : Cs} (hn : n = cs.length) (h : dropTo n cs = cs) : dropTo n (cs ++ g) = cs := (dropTo_append hn).trans h
theorem lcD_pure {g : DG} {te : DT} {keep : Cs → Prop} {vs : List Nat} {env : Nv} {n : Nat} {Q : List D → Cs → Prop} (f : W → D) {items : List W} {cs : Cs} (hn : n = cs.length) (hc : dropTo n cs = cs) (hk : keep cs) (hl : items.length ≤ sizeLine)
    (hs : ∀ x ∈ items, ∀ K : D → Cs → Prop, (∀ j, K (f x) (cs ++ j)) → g x (wipeE env vs) cs fun env1 cs1 => te env1 cs1 (fun w cs3 => fixW w cs3 K) noX)
    (hQ : Q (items.map f) cs) : lcD g dYes te keep vs env n Q items [] cs :=
  lcD_map (fun c => c = cs) f (fun _ e => e ▸ hk) items cs rfl hl (fun x hx c e K hK => by subst e; exact hs x hx K fun j => hK _ (drop_app hn hc)) fun c e => by subst e; exact hQ
theorem filt_eq {α : Type} {p : α → Bool} {f : α → D} : ∀ {items : List α} {os : List (Option D)}, Paired (fun x o => o = if p x then some (f x) else none) items os → os.filterMap id = (items.filter p).map f
  | _, _, .nil => rfl
  | x :: xs, _, .cons h t => by
    subst h
    rw [List.filter_cons]
    cases p x <;> simp [filt_eq t]
theorem lcD_filt {g : DG} {tt : DB} {te : DT} {keep : Cs → Prop} {vs : List Nat} {env : Nv} {n : Nat} {Q : List D → Cs → Prop} (p : W → Bool) (f : W → D) {items : List W} {cs : Cs} (hn : n = cs.length) (hc : dropTo n cs = cs) (hk : keep cs) (hl : items.length ≤ sizeLine)
    (hs : ∀ x ∈ items, ∀ (K : D → Cs → Prop) (K' : Cs → Prop), (p x = true → ∀ j, K (f x) (cs ++ j)) → (p x = false → ∀ j, K' (cs ++ j)) → g x (wipeE env vs) cs fun env1 cs1 => tt env1 cs1 (fun b cs2 => if b = true then te env1 cs2 (fun w cs3 => fixW w cs3 K) noX else K' cs2) noX)
    (hQ : Q ((items.filter p).map f) cs) : lcD g tt te keep vs env n Q items [] cs := by
  refine lcD_inv (fun c => c = cs) (fun x o => o = if p x then some (f x) else none) (fun _ e => e ▸ hk) items [] cs rfl (by simpa using hl) (fun x hx c e K K' h1 h2 => ?_) fun os c hp e => ?_
  · subst e
    exact hs x hx K K' (fun hp j => h1 _ _ (by rw [hp]; rfl) (drop_app hn hc)) fun hp j => h2 _ (by rw [hp]; rfl) (drop_app hn hc)
  · subst e
    have := filt_eq hp
    simpa [this] using hQ
theorem letsq : Str.ofString "abcdefghijklmnopqrstuvwxyz" = lets := rfl
theorem nm_in {x : Str} (h : 1 ≤ x.length ∧ x.length ≤ 8) : nm (.str x) = (x.cps.toList.map fun c => decide (c ∈ lets.cps.toList)).all id := by
  simp [nm, h.1, h.2, List.all_map, Function.comp_def]
theorem nm_out {x : Str} (h : ¬ (1 ≤ x.length ∧ x.length ≤ 8)) : nm (.str x) = false := by
  simp only [nm, decide_eq_false h, Bool.false_and]
theorem okV_tag {x : D} (h : okV x = true) : isTag x = true := by cases x <;> first | rfl | simp [okV] at h
theorem sz6 : 1000000 ≤ sizeLine := by decide
theorem p_is_name : ∀ ws cs Q E, sl_is_name ws cs Q E → t_is_name (endsD cs.length Q E) (startE N_is_name ws) cs := by
  rintro ws cs Q E ⟨x, rfl, rfl, ho, hq⟩
  have ht := okV_tag ho
  cases x with
  | str z =>
    simp [okV] at ho
    have sz := sz6
    simp [dSeq, dIfS, dAsg, dIf, dTest, dOp2, dOp1, dOpN, dVar, dC, dCons, dNil, dgName, dRet, dRetN, dDrop, dNext, dLst, dTup, startE, endsD, oI, oInt1, oInt2, oNeg, oIs, oDivmod, dAnd, dOr, dNot, dAndV, dOrV, dNotV, dgSub, dgTup, dgCons, dgNil, oSetL, dPar, dPar3, dFor, diRange1, diRange2, dLc, dCall, dBM, isT, dSl, dP, dNoP, oEq, dChain, oRepr, oIsi, oBools, retD_d, isTy, dDict0, dDict, dPairs, isFl, isFls, isPy, isPys, isPyKV, look_d, look_c, lookC_lst, lookC_dct, lookC_frz, itM_some, oIx_v, ixV_lst, ixV_tup, ixV_scr, ixV_str, oAdd_v, addV_int, addV_str, addV_tup, addV_lst, oMul_v, mulV_int, mulV_lst, oLen_v, lenV_str, lenV_lst, lenV_tup, lenV_scr, oSl_v, slV_str, slV_tup, slV_lst, oIn_v, inV_lst, inV_tup, inV_sign, diSeq_v, seqV_lst, seqV_tup, seqV_str, fixW_d, fixW_c, fixV_frz, fixV_lst, fixV_dct, fixAll_nil, fixAll_cons, gcS, gcK, fixEnv_nil, fixEnv_none, fixEnv_d, fixEnv_c, fixEnv_tp, fixEnv_dead, fixEnv_sl, poison_sl, fixC, poison, poisonC_lst, poisonC_dct, poisonC_frz, poisonC_obj, dropTo0, dropTo1, dropTo2, dropTo3, dropTo4, dropTo5, dropTo6, madeQ, dMake, dMeth, DL.isObj, dFld, fldW, dCon, dSetF, fixO, frzS, diDK, diDP, keepD, oIxD, oInD, oLenD, oListK, oSetD, oPopAt, oIsiT, oInS, oTupleOf, oListOf, sd_inj, refsC_pc, toLocC_pc, unLocC_pc, poisonC_pc, diEnumA, enumV_lst, enumV_tup, dFix, dRev, oClear, dLc2, t_is_name]
    refine ⟨by omega, ?_⟩
    split
    · split
      · refine lcD_pure (fun w => match w with
          | .d (.str z) => (match z.cps.toList with
            | [c] => .bl (decide (c ∈ lets.cps.toList))
            | _ => .non)
          | _ => .non) rfl rfl True.intro (by simp [signs_len]; omega) (fun w hw K hK => ?_) ?_
        · simp [signs_map] at hw
          obtain ⟨c, hm, rfl⟩ := hw
          simp [dSeq, dIfS, dAsg, dIf, dTest, dOp2, dOp1, dOpN, dVar, dC, dCons, dNil, dgName, dRet, dRetN, dDrop, dNext, dLst, dTup, startE, endsD, oI, oInt1, oInt2, oNeg, oIs, oDivmod, dAnd, dOr, dNot, dAndV, dOrV, dNotV, dgSub, dgTup, dgCons, dgNil, oSetL, dPar, dPar3, dFor, diRange1, diRange2, dLc, dCall, dBM, isT, dSl, dP, dNoP, oEq, dChain, oRepr, oIsi, oBools, retD_d, isTy, dDict0, dDict, dPairs, isFl, isFls, isPy, isPys, isPyKV, look_d, look_c, lookC_lst, lookC_dct, lookC_frz, itM_some, oIx_v, ixV_lst, ixV_tup, ixV_scr, ixV_str, oAdd_v, addV_int, addV_str, addV_tup, addV_lst, oMul_v, mulV_int, mulV_lst, oLen_v, lenV_str, lenV_lst, lenV_tup, lenV_scr, oSl_v, slV_str, slV_tup, slV_lst, oIn_v, inV_lst, inV_tup, inV_sign, diSeq_v, seqV_lst, seqV_tup, seqV_str, fixW_d, fixW_c, fixV_frz, fixV_lst, fixV_dct, fixAll_nil, fixAll_cons, gcS, gcK, fixEnv_nil, fixEnv_none, fixEnv_d, fixEnv_c, fixEnv_tp, fixEnv_dead, fixEnv_sl, poison_sl, fixC, poison, poisonC_lst, poisonC_dct, poisonC_frz, poisonC_obj, dropTo0, dropTo1, dropTo2, dropTo3, dropTo4, dropTo5, dropTo6, madeQ, dMake, dMeth, DL.isObj, dFld, fldW, dCon, dSetF, fixO, frzS, diDK, diDP, keepD, oIxD, oInD, oLenD, oListK, oSetD, oPopAt, oIsiT, oInS, oTupleOf, oListOf, sd_inj, refsC_pc, toLocC_pc, unLocC_pc, poisonC_pc, diEnumA, enumV_lst, enumV_tup, dFix, dRev, oClear, dLc2, wipeE, letsq]
          simpa using hK []
        · simp [signs_map, Function.comp_def, bools_map]
          rw [nm_in (by omega)] at hq
          simpa [dropTo0] using hq
      · rw [nm_out (by omega)] at hq; exact hq
    · rw [nm_out (by omega)] at hq; exact hq
  | obj c fs => simp [okV] at ho
  | oth v => simp [okV] at ho
  | _ =>
    simp [dSeq, dIfS, dAsg, dIf, dTest, dOp2, dOp1, dOpN, dVar, dC, dCons, dNil, dgName, dRet, dRetN, dDrop, dNext, dLst, dTup, startE, endsD, oI, oInt1, oInt2, oNeg, oIs, oDivmod, dAnd, dOr, dNot, dAndV, dOrV, dNotV, dgSub, dgTup, dgCons, dgNil, oSetL, dPar, dPar3, dFor, diRange1, diRange2, dLc, dCall, dBM, isT, dSl, dP, dNoP, oEq, dChain, oRepr, oIsi, oBools, retD_d, isTy, dDict0, dDict, dPairs, isFl, isFls, isPy, isPys, isPyKV, look_d, look_c, lookC_lst, lookC_dct, lookC_frz, itM_some, oIx_v, ixV_lst, ixV_tup, ixV_scr, ixV_str, oAdd_v, addV_int, addV_str, addV_tup, addV_lst, oMul_v, mulV_int, mulV_lst, oLen_v, lenV_str, lenV_lst, lenV_tup, lenV_scr, oSl_v, slV_str, slV_tup, slV_lst, oIn_v, inV_lst, inV_tup, inV_sign, diSeq_v, seqV_lst, seqV_tup, seqV_str, fixW_d, fixW_c, fixV_frz, fixV_lst, fixV_dct, fixAll_nil, fixAll_cons, gcS, gcK, fixEnv_nil, fixEnv_none, fixEnv_d, fixEnv_c, fixEnv_tp, fixEnv_dead, fixEnv_sl, poison_sl, fixC, poison, poisonC_lst, poisonC_dct, poisonC_frz, poisonC_obj, dropTo0, dropTo1, dropTo2, dropTo3, dropTo4, dropTo5, dropTo6, madeQ, dMake, dMeth, DL.isObj, dFld, fldW, dCon, dSetF, fixO, frzS, diDK, diDP, keepD, oIxD, oInD, oLenD, oListK, oSetD, oPopAt, oIsiT, oInS, oTupleOf, oListOf, sd_inj, refsC_pc, toLocC_pc, unLocC_pc, poisonC_pc, diEnumA, enumV_lst, enumV_tup, dFix, dRev, oClear, dLc2, t_is_name]
    simpa [nm] using hq
end DH
namespace DH
open PySem PySem.Spec L2 DL
theorem lcD_turn {g : DG} {te : DT} {keep : Cs → Prop} {vs : List Nat} {env : Nv} {n N : Nat} {Q : List D → Cs → Prop} (J : List D → Cs → Prop) (hk : ∀ acc cs, J acc cs → keep cs) (hN : N ≤ sizeLine)
    {items : List W} (hs : ∀ x ∈ items, ∀ acc cs, J acc cs → acc.length < N → ∀ K : D → Cs → Prop, (∀ y cs4, J (acc ++ [y]) (dropTo n cs4) → K y cs4) → g x (wipeE env vs) cs fun env1 cs1 => te env1 cs1 (fun w cs3 => fixW w cs3 K) noX)
    (hQ : ∀ acc cs, J acc cs → acc.length = N → Q acc cs) : ∀ (l : List W) (acc : List D) (cs : Cs), (∀ x ∈ l, x ∈ items) → J acc cs → acc.length + l.length = N → lcD g dYes te keep vs env n Q l acc cs
  | [], acc, cs, _, hJ, hl => ⟨hk acc cs hJ, hQ acc cs hJ (by simpa using hl)⟩
  | x :: r, acc, cs, hm, hJ, hl => by
    simp only [List.length_cons] at hl
    refine ⟨hk acc cs hJ, ?_⟩
    have := hs x (hm x List.mem_cons_self) acc cs hJ (by omega) (fun y cs4 => acc.length < sizeLine ∧ lcD g dYes te keep vs env n Q r (acc ++ [y]) (dropTo n cs4)) fun y cs4 hJ' =>
      ⟨by omega, lcD_turn J hk hN hs hQ r (acc ++ [y]) _ (fun z hz => hm z (List.mem_cons_of_mem _ hz)) hJ' (by simp; omega)⟩
    simpa [dYes] using this
theorem perm_take {α : Type} {xs : List α} {k : Nat} {x : α} (h : xs[k]? = some x) : (x :: xs.eraseIdx k).Perm xs := by
  induction xs generalizing k with
  | nil => simp at h
  | cons a r ih =>
    cases k with
    | zero => simp at h; subst h; simp
    | succ k =>
      simp at h
      rw [List.eraseIdx_cons_succ]
      exact (List.Perm.swap a x _).trans ((ih h).cons a)
theorem lt250 {x : Int} (h : x ≤ 1000000) : x < 1809251394333065553493296640760748560207343510400633813116524750123642650624 := Int.lt_of_le_of_lt h (by decide)
theorem p__law_mixed : ∀ ws cs Q E, sl__law_mixed ws cs Q E → t__law_mixed (endsD cs.length Q E) (startE N__law_mixed ws) cs := by
  rintro ws cs Q E ⟨p, xs, rfl, rfl, hl, hq⟩
  have sz : 1000 ≤ sizeLine := by decide
  simp [dSeq, dIfS, dAsg, dIf, dTest, dOp2, dOp1, dOpN, dVar, dC, dCons, dNil, dgName, dRet, dRetN, dDrop, dNext, dLst, dTup, startE, endsD, oI, oInt1, oInt2, oNeg, oIs, oDivmod, dAnd, dOr, dNot, dAndV, dOrV, dNotV, dgSub, dgTup, dgCons, dgNil, oSetL, dPar, dPar3, dFor, diRange1, diRange2, dLc, dCall, dBM, isT, dSl, dP, dNoP, oEq, dChain, oRepr, oIsi, oBools, retD_d, isTy, dDict0, dDict, dPairs, isFl, isFls, isPy, isPys, isPyKV, look_d, look_c, lookC_lst, lookC_dct, lookC_frz, itM_some, oIx_v, ixV_lst, ixV_tup, ixV_scr, ixV_str, oAdd_v, addV_int, addV_str, addV_tup, addV_lst, oMul_v, mulV_int, mulV_lst, oLen_v, lenV_str, lenV_lst, lenV_tup, lenV_scr, oSl_v, slV_str, slV_tup, slV_lst, oIn_v, inV_lst, inV_tup, inV_sign, diSeq_v, seqV_lst, seqV_tup, seqV_str, fixW_d, fixW_c, fixV_frz, fixV_lst, fixV_dct, fixAll_nil, fixAll_cons, gcS, gcK, fixEnv_nil, fixEnv_none, fixEnv_d, fixEnv_c, fixEnv_tp, fixEnv_dead, fixEnv_sl, poison_sl, fixC, poison, poisonC_lst, poisonC_dct, poisonC_frz, poisonC_obj, dropTo0, dropTo1, dropTo2, dropTo3, dropTo4, dropTo5, dropTo6, madeQ, dMake, dMeth, DL.isObj, dFld, fldW, dCon, dSetF, fixO, frzS, diDK, diDP, keepD, oIxD, oInD, oLenD, oListK, oSetD, oPopAt, oIsiT, oInS, oTupleOf, oListOf, sd_inj, refsC_pc, toLocC_pc, unLocC_pc, poisonC_pc, diEnumA, enumV_lst, enumV_tup, dFix, dRev, oClear, dLc2, t__law_mixed]
  refine ⟨by omega, ?_⟩
  refine lcD_turn (N := xs.length) (fun acc c => ∃ p' l, c = [pc p', .lst xs, .lst l] ∧ (acc ++ l).Perm xs) (fun acc c ⟨p', l, e, _⟩ => True.intro) (by omega) (items := (List.range xs.length).map fun (i : Nat) => W.d (.int i)) (fun w hw acc c hJ hlt K hK => ?_) (fun acc c hJ hlen => ?_) _ [] _ (fun x hx => hx) ⟨p, xs, rfl, List.Perm.refl _⟩ (by simp)
  · obtain ⟨p', l, rfl, hp⟩ := hJ
    have hln := hp.length_eq
    rw [List.length_append] at hln
    simp at hw
    obtain ⟨j, hj, rfl⟩ := hw
    simp [dSeq, dIfS, dAsg, dIf, dTest, dOp2, dOp1, dOpN, dVar, dC, dCons, dNil, dgName, dRet, dRetN, dDrop, dNext, dLst, dTup, startE, endsD, oI, oInt1, oInt2, oNeg, oIs, oDivmod, dAnd, dOr, dNot, dAndV, dOrV, dNotV, dgSub, dgTup, dgCons, dgNil, oSetL, dPar, dPar3, dFor, diRange1, diRange2, dLc, dCall, dBM, isT, dSl, dP, dNoP, oEq, dChain, oRepr, oIsi, oBools, retD_d, isTy, dDict0, dDict, dPairs, isFl, isFls, isPy, isPys, isPyKV, look_d, look_c, lookC_lst, lookC_dct, lookC_frz, itM_some, oIx_v, ixV_lst, ixV_tup, ixV_scr, ixV_str, oAdd_v, addV_int, addV_str, addV_tup, addV_lst, oMul_v, mulV_int, mulV_lst, oLen_v, lenV_str, lenV_lst, lenV_tup, lenV_scr, oSl_v, slV_str, slV_tup, slV_lst, oIn_v, inV_lst, inV_tup, inV_sign, diSeq_v, seqV_lst, seqV_tup, seqV_str, fixW_d, fixW_c, fixV_frz, fixV_lst, fixV_dct, fixAll_nil, fixAll_cons, gcS, gcK, fixEnv_nil, fixEnv_none, fixEnv_d, fixEnv_c, fixEnv_tp, fixEnv_dead, fixEnv_sl, poison_sl, fixC, poison, poisonC_lst, poisonC_dct, poisonC_frz, poisonC_obj, dropTo0, dropTo1, dropTo2, dropTo3, dropTo4, dropTo5, dropTo6, madeQ, dMake, dMeth, DL.isObj, dFld, fldW, dCon, dSetF, fixO, frzS, diDK, diDP, keepD, oIxD, oInD, oLenD, oListK, oSetD, oPopAt, oIsiT, oInS, oTupleOf, oListOf, sd_inj, refsC_pc, toLocC_pc, unLocC_pc, poisonC_pc, diEnumA, enumV_lst, enumV_tup, dFix, dRev, oClear, dLc2, wipeE, draw0]
    refine ⟨by omega, lt250 (by omega), fun r p2 r0 r1 => ?_⟩
    obtain ⟨x, ex⟩ : ∃ x, l[r.toNat]? = some x := ⟨_, List.getElem?_eq_getElem (by omega)⟩
    simp [dSeq, dIfS, dAsg, dIf, dTest, dOp2, dOp1, dOpN, dVar, dC, dCons, dNil, dgName, dRet, dRetN, dDrop, dNext, dLst, dTup, startE, endsD, oI, oInt1, oInt2, oNeg, oIs, oDivmod, dAnd, dOr, dNot, dAndV, dOrV, dNotV, dgSub, dgTup, dgCons, dgNil, oSetL, dPar, dPar3, dFor, diRange1, diRange2, dLc, dCall, dBM, isT, dSl, dP, dNoP, oEq, dChain, oRepr, oIsi, oBools, retD_d, isTy, dDict0, dDict, dPairs, isFl, isFls, isPy, isPys, isPyKV, look_d, look_c, lookC_lst, lookC_dct, lookC_frz, itM_some, oIx_v, ixV_lst, ixV_tup, ixV_scr, ixV_str, oAdd_v, addV_int, addV_str, addV_tup, addV_lst, oMul_v, mulV_int, mulV_lst, oLen_v, lenV_str, lenV_lst, lenV_tup, lenV_scr, oSl_v, slV_str, slV_tup, slV_lst, oIn_v, inV_lst, inV_tup, inV_sign, diSeq_v, seqV_lst, seqV_tup, seqV_str, fixW_d, fixW_c, fixV_frz, fixV_lst, fixV_dct, fixAll_nil, fixAll_cons, gcS, gcK, fixEnv_nil, fixEnv_none, fixEnv_d, fixEnv_c, fixEnv_tp, fixEnv_dead, fixEnv_sl, poison_sl, fixC, poison, poisonC_lst, poisonC_dct, poisonC_frz, poisonC_obj, dropTo0, dropTo1, dropTo2, dropTo3, dropTo4, dropTo5, dropTo6, madeQ, dMake, dMeth, DL.isObj, dFld, fldW, dCon, dSetF, fixO, frzS, diDK, diDP, keepD, oIxD, oInD, oLenD, oListK, oSetD, oPopAt, oIsiT, oInS, oTupleOf, oListOf, sd_inj, refsC_pc, toLocC_pc, unLocC_pc, poisonC_pc, diEnumA, enumV_lst, enumV_tup, dFix, dRev, oClear, dLc2, ex]
    refine ⟨r0, by omega, hK _ _ ⟨p2, _, rfl, ?_⟩⟩
    refine List.Perm.trans ?_ hp
    rw [List.append_assoc]
    exact List.Perm.append_left acc (perm_take ex)
  · obtain ⟨p', l, rfl, hp⟩ := hJ
    have hln := hp.length_eq
    rw [List.length_append] at hln
    have : l = [] := List.eq_nil_of_length_eq_zero (by omega)
    subst this
    simp [dSeq, dIfS, dAsg, dIf, dTest, dOp2, dOp1, dOpN, dVar, dC, dCons, dNil, dgName, dRet, dRetN, dDrop, dNext, dLst, dTup, startE, endsD, oI, oInt1, oInt2, oNeg, oIs, oDivmod, dAnd, dOr, dNot, dAndV, dOrV, dNotV, dgSub, dgTup, dgCons, dgNil, oSetL, dPar, dPar3, dFor, diRange1, diRange2, dLc, dCall, dBM, isT, dSl, dP, dNoP, oEq, dChain, oRepr, oIsi, oBools, retD_d, isTy, dDict0, dDict, dPairs, isFl, isFls, isPy, isPys, isPyKV, look_d, look_c, lookC_lst, lookC_dct, lookC_frz, itM_some, oIx_v, ixV_lst, ixV_tup, ixV_scr, ixV_str, oAdd_v, addV_int, addV_str, addV_tup, addV_lst, oMul_v, mulV_int, mulV_lst, oLen_v, lenV_str, lenV_lst, lenV_tup, lenV_scr, oSl_v, slV_str, slV_tup, slV_lst, oIn_v, inV_lst, inV_tup, inV_sign, diSeq_v, seqV_lst, seqV_tup, seqV_str, fixW_d, fixW_c, fixV_frz, fixV_lst, fixV_dct, fixAll_nil, fixAll_cons, gcS, gcK, fixEnv_nil, fixEnv_none, fixEnv_d, fixEnv_c, fixEnv_tp, fixEnv_dead, fixEnv_sl, poison_sl, fixC, poison, poisonC_lst, poisonC_dct, poisonC_frz, poisonC_obj, dropTo0, dropTo1, dropTo2, dropTo3, dropTo4, dropTo5, dropTo6, madeQ, dMake, dMeth, DL.isObj, dFld, fldW, dCon, dSetF, fixO, frzS, diDK, diDP, keepD, oIxD, oInD, oLenD, oListK, oSetD, oPopAt, oIsiT, oInS, oTupleOf, oListOf, sd_inj, refsC_pc, toLocC_pc, unLocC_pc, poisonC_pc, diEnumA, enumV_lst, enumV_tup, dFix, dRev, oClear, dLc2, retD]
    exact hq acc p' (by simpa using hp)
theorem mixed_at {p : Pt} {g : Cs} {k : Nat} {xs : List D} {Q : DQ} {E : DX} (hk : g[k]? = some (.lst xs)) (hl : xs.length ≤ 1000) (h : ∀ ys p', ys.Perm xs → Q (.c (g.length + 1)) (pc p' :: g ++ [.lst ys])) : sp__law_mixed [.c 0, .c (k + 1)] (pc p :: g) Q E := by
  have e : g.set k (.lst xs) = g := by
    obtain ⟨h1, h2⟩ := List.getElem?_eq_some_iff.mp hk
    rw [← h2, List.set_getElem_self]
  have ei : List.idxOf (k + 1) [0, k + 1] = 1 := by
    rw [List.idxOf_cons]
    have : (0 == k + 1) = false := by simp
    rw [this]
    simp [List.idxOf_cons]
  simp [sp__law_mixed, loc, locAt, locJ, namesOf, refsC_pc, refsC_lst, refsC_dct, refsC_frz, toLocC_pc, toLocC_lst, toLocC_dct, toLocC_frz, unLocC_pc, unLocC_lst, unLocC_dct, unLocC_frz, getCs, inJ, toLoc, unLoc, putC, hk, ei]
  refine ⟨p, xs, rfl, rfl, hl, fun ys p' hy => ?_⟩
  simpa [loc, locAt, locJ, namesOf, refsC_pc, refsC_lst, refsC_dct, refsC_frz, toLocC_pc, toLocC_lst, toLocC_dct, toLocC_frz, unLocC_pc, unLocC_lst, unLocC_dct, unLocC_frz, getCs, inJ, toLoc, unLoc, putC, e] using h ys p' hy
theorem signs_of : ∀ {xs : List W} {ys : List D}, Paired (fun _ y => ∃ c, y = D.str ⟨#[c]⟩ ∧ c ∈ lets.cps.toList) xs ys → ∃ zs : List Str, ys = zs.map .str ∧ zs.length = xs.length ∧ ∀ z ∈ zs, z.length = 1 ∧ ∀ c ∈ z.cps.toList, c ∈ lets.cps.toList
  | _, _, .nil => ⟨[], rfl, rfl, by simp⟩
  | _, _, .cons h t => by
    obtain ⟨c, rfl, h1⟩ := h
    obtain ⟨zs, rfl, h2, h3⟩ := signs_of t
    refine ⟨⟨#[c]⟩ :: zs, rfl, by simp [h2], fun z hz => ?_⟩
    rcases List.mem_cons.mp hz with rfl | hz
    · exact ⟨rfl, fun d hd => by simp at hd; subst hd; exact h1⟩
    · exact h3 z hz
theorem lets_small : ∀ c ∈ lets.cps.toList, c < 0x110000 := by decide +kernel
theorem p__law_name : ∀ ws cs Q E, sl__law_name ws cs Q E → t__law_name (endsD cs.length Q E) (startE N__law_name ws) cs := by
  rintro ws cs Q E ⟨p, rfl, rfl, hq⟩
  simp [dSeq, dIfS, dAsg, dIf, dTest, dOp2, dOp1, dOpN, dVar, dC, dCons, dNil, dgName, dRet, dRetN, dDrop, dNext, dLst, dTup, startE, endsD, oI, oInt1, oInt2, oNeg, oIs, oDivmod, dAnd, dOr, dNot, dAndV, dOrV, dNotV, dgSub, dgTup, dgCons, dgNil, oSetL, dPar, dPar3, dFor, diRange1, diRange2, dLc, dCall, dBM, isT, dSl, dP, dNoP, oEq, dChain, oRepr, oIsi, oBools, retD_d, isTy, dDict0, dDict, dPairs, isFl, isFls, isPy, isPys, isPyKV, look_d, look_c, lookC_lst, lookC_dct, lookC_frz, itM_some, oIx_v, ixV_lst, ixV_tup, ixV_scr, ixV_str, oAdd_v, addV_int, addV_str, addV_tup, addV_lst, oMul_v, mulV_int, mulV_lst, oLen_v, lenV_str, lenV_lst, lenV_tup, lenV_scr, oSl_v, slV_str, slV_tup, slV_lst, oIn_v, inV_lst, inV_tup, inV_sign, diSeq_v, seqV_lst, seqV_tup, seqV_str, fixW_d, fixW_c, fixV_frz, fixV_lst, fixV_dct, fixAll_nil, fixAll_cons, gcS, gcK, fixEnv_nil, fixEnv_none, fixEnv_d, fixEnv_c, fixEnv_tp, fixEnv_dead, fixEnv_sl, poison_sl, fixC, poison, poisonC_lst, poisonC_dct, poisonC_frz, poisonC_obj, dropTo0, dropTo1, dropTo2, dropTo3, dropTo4, dropTo5, dropTo6, madeQ, dMake, dMeth, DL.isObj, dFld, fldW, dCon, dSetF, fixO, frzS, diDK, diDP, keepD, oIxD, oInD, oLenD, oListK, oSetD, oPopAt, oIsiT, oInS, oTupleOf, oListOf, sd_inj, refsC_pc, toLocC_pc, unLocC_pc, poisonC_pc, diEnumA, enumV_lst, enumV_tup, dFix, dRev, oClear, dLc2, t__law_name, draw0]
  refine ⟨by decide, fun r p2 r0 r1 => ?_⟩
  obtain ⟨x, e, hx⟩ := mem_at (xs := [D.int 1, D.int 2, D.int 8]) r0 r1 rfl
  have hx : ∃ s : Int, x = .int s ∧ 1 ≤ s ∧ s ≤ 8 := by
    simp at hx
    rcases hx with rfl | rfl | rfl <;> exact ⟨_, rfl, by omega, by omega⟩
  obtain ⟨s, rfl, s0, s1⟩ := hx
  simp [dSeq, dIfS, dAsg, dIf, dTest, dOp2, dOp1, dOpN, dVar, dC, dCons, dNil, dgName, dRet, dRetN, dDrop, dNext, dLst, dTup, startE, endsD, oI, oInt1, oInt2, oNeg, oIs, oDivmod, dAnd, dOr, dNot, dAndV, dOrV, dNotV, dgSub, dgTup, dgCons, dgNil, oSetL, dPar, dPar3, dFor, diRange1, diRange2, dLc, dCall, dBM, isT, dSl, dP, dNoP, oEq, dChain, oRepr, oIsi, oBools, retD_d, isTy, dDict0, dDict, dPairs, isFl, isFls, isPy, isPys, isPyKV, look_d, look_c, lookC_lst, lookC_dct, lookC_frz, itM_some, oIx_v, ixV_lst, ixV_tup, ixV_scr, ixV_str, oAdd_v, addV_int, addV_str, addV_tup, addV_lst, oMul_v, mulV_int, mulV_lst, oLen_v, lenV_str, lenV_lst, lenV_tup, lenV_scr, oSl_v, slV_str, slV_tup, slV_lst, oIn_v, inV_lst, inV_tup, inV_sign, diSeq_v, seqV_lst, seqV_tup, seqV_str, fixW_d, fixW_c, fixV_frz, fixV_lst, fixV_dct, fixAll_nil, fixAll_cons, gcS, gcK, fixEnv_nil, fixEnv_none, fixEnv_d, fixEnv_c, fixEnv_tp, fixEnv_dead, fixEnv_sl, poison_sl, fixC, poison, poisonC_lst, poisonC_dct, poisonC_frz, poisonC_obj, dropTo0, dropTo1, dropTo2, dropTo3, dropTo4, dropTo5, dropTo6, madeQ, dMake, dMeth, DL.isObj, dFld, fldW, dCon, dSetF, fixO, frzS, diDK, diDP, keepD, oIxD, oInD, oLenD, oListK, oSetD, oPopAt, oIsiT, oInS, oTupleOf, oListOf, sd_inj, refsC_pc, toLocC_pc, unLocC_pc, poisonC_pc, diEnumA, enumV_lst, enumV_tup, dFix, dRev, oClear, dLc2, e]
  refine ⟨by omega, by omega, ?_⟩
  have sz : 12 ≤ sizeLine := by decide
  refine lcD_all (fun c => ∃ p3, c = [pc p3, Cell.lst [D.int 1, D.int 2, D.int 8]]) (fun _ y => ∃ c, y = .str ⟨#[c]⟩ ∧ c ∈ lets.cps.toList) (fun _ _ => True.intro) _ _ ⟨p2, rfl⟩ (by simp; omega) (fun w hw c hcs K hK => ?_) fun ys c' hp hcs => ?_
  · obtain ⟨p3, rfl⟩ := hcs
    simp at hw
    obtain ⟨j, hj, rfl⟩ := hw
    simp [dSeq, dIfS, dAsg, dIf, dTest, dOp2, dOp1, dOpN, dVar, dC, dCons, dNil, dgName, dRet, dRetN, dDrop, dNext, dLst, dTup, startE, endsD, oI, oInt1, oInt2, oNeg, oIs, oDivmod, dAnd, dOr, dNot, dAndV, dOrV, dNotV, dgSub, dgTup, dgCons, dgNil, oSetL, dPar, dPar3, dFor, diRange1, diRange2, dLc, dCall, dBM, isT, dSl, dP, dNoP, oEq, dChain, oRepr, oIsi, oBools, retD_d, isTy, dDict0, dDict, dPairs, isFl, isFls, isPy, isPys, isPyKV, look_d, look_c, lookC_lst, lookC_dct, lookC_frz, itM_some, oIx_v, ixV_lst, ixV_tup, ixV_scr, ixV_str, oAdd_v, addV_int, addV_str, addV_tup, addV_lst, oMul_v, mulV_int, mulV_lst, oLen_v, lenV_str, lenV_lst, lenV_tup, lenV_scr, oSl_v, slV_str, slV_tup, slV_lst, oIn_v, inV_lst, inV_tup, inV_sign, diSeq_v, seqV_lst, seqV_tup, seqV_str, fixW_d, fixW_c, fixV_frz, fixV_lst, fixV_dct, fixAll_nil, fixAll_cons, gcS, gcK, fixEnv_nil, fixEnv_none, fixEnv_d, fixEnv_c, fixEnv_tp, fixEnv_dead, fixEnv_sl, poison_sl, fixC, poison, poisonC_lst, poisonC_dct, poisonC_frz, poisonC_obj, dropTo0, dropTo1, dropTo2, dropTo3, dropTo4, dropTo5, dropTo6, madeQ, dMake, dMeth, DL.isObj, dFld, fldW, dCon, dSetF, fixO, frzS, diDK, diDP, keepD, oIxD, oInD, oLenD, oListK, oSetD, oPopAt, oIsiT, oInS, oTupleOf, oListOf, sd_inj, refsC_pc, toLocC_pc, unLocC_pc, poisonC_pc, diEnumA, enumV_lst, enumV_tup, dFix, dRev, oClear, dLc2, wipeE, draw0]
    intro q p4 q0 q1
    obtain ⟨d, ed, hd⟩ := mem_at (xs := lets.cps.toList) q0 q1 rfl
    have ed : atI lets.cps.toList q = some d := ed
    simp [dSeq, dIfS, dAsg, dIf, dTest, dOp2, dOp1, dOpN, dVar, dC, dCons, dNil, dgName, dRet, dRetN, dDrop, dNext, dLst, dTup, startE, endsD, oI, oInt1, oInt2, oNeg, oIs, oDivmod, dAnd, dOr, dNot, dAndV, dOrV, dNotV, dgSub, dgTup, dgCons, dgNil, oSetL, dPar, dPar3, dFor, diRange1, diRange2, dLc, dCall, dBM, isT, dSl, dP, dNoP, oEq, dChain, oRepr, oIsi, oBools, retD_d, isTy, dDict0, dDict, dPairs, isFl, isFls, isPy, isPys, isPyKV, look_d, look_c, lookC_lst, lookC_dct, lookC_frz, itM_some, oIx_v, ixV_lst, ixV_tup, ixV_scr, ixV_str, oAdd_v, addV_int, addV_str, addV_tup, addV_lst, oMul_v, mulV_int, mulV_lst, oLen_v, lenV_str, lenV_lst, lenV_tup, lenV_scr, oSl_v, slV_str, slV_tup, slV_lst, oIn_v, inV_lst, inV_tup, inV_sign, diSeq_v, seqV_lst, seqV_tup, seqV_str, fixW_d, fixW_c, fixV_frz, fixV_lst, fixV_dct, fixAll_nil, fixAll_cons, gcS, gcK, fixEnv_nil, fixEnv_none, fixEnv_d, fixEnv_c, fixEnv_tp, fixEnv_dead, fixEnv_sl, poison_sl, fixC, poison, poisonC_lst, poisonC_dct, poisonC_frz, poisonC_obj, dropTo0, dropTo1, dropTo2, dropTo3, dropTo4, dropTo5, dropTo6, madeQ, dMake, dMeth, DL.isObj, dFld, fldW, dCon, dSetF, fixO, frzS, diDK, diDP, keepD, oIxD, oInD, oLenD, oListK, oSetD, oPopAt, oIsiT, oInS, oTupleOf, oListOf, sd_inj, refsC_pc, toLocC_pc, unLocC_pc, poisonC_pc, diEnumA, enumV_lst, enumV_tup, dFix, dRev, oClear, dLc2, letsq, ed]
    exact ⟨by decide +kernel, hK _ _ ⟨d, rfl, hd⟩ ⟨p4, rfl⟩⟩
  · obtain ⟨p3, rfl⟩ := hcs
    obtain ⟨zs, rfl, hl, hz⟩ := signs_of hp
    have hs : (zs.map (·.length)).sum = zs.length := sum_ones fun z hz' => (hz z hz').1
    simp at hl
    simp [dSeq, dIfS, dAsg, dIf, dTest, dOp2, dOp1, dOpN, dVar, dC, dCons, dNil, dgName, dRet, dRetN, dDrop, dNext, dLst, dTup, startE, endsD, oI, oInt1, oInt2, oNeg, oIs, oDivmod, dAnd, dOr, dNot, dAndV, dOrV, dNotV, dgSub, dgTup, dgCons, dgNil, oSetL, dPar, dPar3, dFor, diRange1, diRange2, dLc, dCall, dBM, isT, dSl, dP, dNoP, oEq, dChain, oRepr, oIsi, oBools, retD_d, isTy, dDict0, dDict, dPairs, isFl, isFls, isPy, isPys, isPyKV, look_d, look_c, lookC_lst, lookC_dct, lookC_frz, itM_some, oIx_v, ixV_lst, ixV_tup, ixV_scr, ixV_str, oAdd_v, addV_int, addV_str, addV_tup, addV_lst, oMul_v, mulV_int, mulV_lst, oLen_v, lenV_str, lenV_lst, lenV_tup, lenV_scr, oSl_v, slV_str, slV_tup, slV_lst, oIn_v, inV_lst, inV_tup, inV_sign, diSeq_v, seqV_lst, seqV_tup, seqV_str, fixW_d, fixW_c, fixV_frz, fixV_lst, fixV_dct, fixAll_nil, fixAll_cons, gcS, gcK, fixEnv_nil, fixEnv_none, fixEnv_d, fixEnv_c, fixEnv_tp, fixEnv_dead, fixEnv_sl, poison_sl, fixC, poison, poisonC_lst, poisonC_dct, poisonC_frz, poisonC_obj, dropTo0, dropTo1, dropTo2, dropTo3, dropTo4, dropTo5, dropTo6, madeQ, dMake, dMeth, DL.isObj, dFld, fldW, dCon, dSetF, fixO, frzS, diDK, diDP, keepD, oIxD, oInD, oLenD, oListK, oSetD, oPopAt, oIsiT, oInS, oTupleOf, oListOf, sd_inj, refsC_pc, toLocC_pc, unLocC_pc, poisonC_pc, diEnumA, enumV_lst, enumV_tup, dFix, dRev, oClear, dLc2, oJoin, txts_strs]
    refine ⟨?_, ?_⟩
    · rw [hs]
      simp [show (Str.ofString "").length = 0 from rfl]
      omega
    · have hmem : ∀ c ∈ (Str.join "" zs).cps.toList, c ∈ lets.cps.toList := fun c hc => by
        obtain ⟨z, hz1, hz2⟩ := join_mem zs c hc
        exact (hz z hz1).2 c hz2
      have hlen : (Str.join "" zs).length = s.toNat := by rw [join_len, hs]; omega
      have hn : nm (.str (Str.join "" zs)) = true := by
        simp only [nm, Bool.and_eq_true, decide_eq_true_eq, List.all_eq_true]
        exact ⟨by omega, hmem⟩
      exact hq _ _ ⟨hn, strOk_of fun c hc => lets_small c (hmem c hc)⟩
theorem name0 {p : Pt} {g : Cs} {Q : DQ} {E : DX} : sp__law_name [.c 0] (pc p :: g) Q E = ∀ x p', wordOk x → Q (.d (.str x)) (pc p' :: g) := by
  simp [sp__law_name, loc, locAt, locJ, namesOf, refsC_pc, toLocC_pc, unLocC_pc, getCs, inJ, toLoc, unLoc, putC, sl__law_name]
  intros; exact ⟨p, rfl⟩
end DH
namespace DH
open PySem PySem.Spec L2 DL
theorem sz26 : 1000 ≤ sizeLine := by decide
/-- the letters that are free -/
def oneS (c : Nat) : Str := ⟨#[c]⟩
theorem rng_at {α : Type} {n j : Nat} {f : Nat → α} {x : α} (h : ((List.range n).map f)[j]? = some x) : j < n ∧ x = f j := by
  obtain ⟨h1, h2⟩ := List.getElem?_eq_some_iff.mp h
  simp at h1 h2
  exact ⟨h1, h2.symm⟩
theorem nodup_le {α : Type} [DecidableEq α] : ∀ {l1 l2 : List α}, l1.Nodup → (∀ x ∈ l1, x ∈ l2) → l1.length ≤ l2.length
  | [], _, _, _ => Nat.zero_le _
  | a :: r, l2, nd, h => by
    have ha := h a List.mem_cons_self
    rw [List.nodup_cons] at nd
    have := nodup_le (l2 := l2.erase a) nd.2 fun x hx => (List.mem_erase_of_ne fun (e : x = a) => nd.1 (e ▸ hx)).mpr (h x (List.mem_cons_of_mem _ hx))
    rw [List.length_erase_of_mem ha] at this
    have : 0 < l2.length := List.length_pos_of_mem ha
    simp only [List.length_cons]; omega
theorem free_some {ns : List Str} (h : ns.length < 26) : ∃ c r, (lets.cps.toList.filter fun c => decide (oneS c ∉ ns)) = c :: r := by
  cases e : lets.cps.toList.filter fun c => decide (oneS c ∉ ns) with
  | cons c r => exact ⟨c, r, rfl⟩
  | nil =>
    have h1 : ∀ c ∈ lets.cps.toList, oneS c ∈ ns := fun c hc => by
      have := List.filter_eq_nil_iff.mp e c hc
      simpa using this
    have h2 : (lets.cps.toList.map oneS).Nodup := by decide +kernel
    have h3 := nodup_le h2 (l2 := ns) fun x hx => by
      obtain ⟨c, hc, rfl⟩ := List.mem_map.mp hx
      exact h1 c hc
    rw [List.length_map, show lets.cps.toList.length = 26 from rfl] at h3
    omega
def unW : W → D
  | .d x => x
  | _ => .non
def pFree (ns : List Str) : W → Bool
  | .d (.str z) => !decide (z ∈ ns)
  | _ => false
theorem unW_d {x : D} : unW (.d x) = x := rfl
theorem lets_len : lets.length = 26 := rfl
theorem any_strs {z : Str} (ns : List Str) : (pys (ns.map D.str)).any (fun y => PyData.eqv y (py (.str z))) = decide (z ∈ ns) := by
  induction ns with
  | nil => rfl
  | cons a r ih => simp [pys, ih, eq_comm, Bool.beq_eq_decide_eq, Bool.decide_or]
theorem free_eq (ns : List Str) : ((((signs lets).map W.d).filter (pFree ns)).map unW) = (lets.cps.toList.filter fun c => decide (oneS c ∉ ns)).map fun c => D.str (oneS c) := by
  simp [signs_map, List.filter_map, Function.comp_def, unW, pFree, oneS]
  refine congrArg _ (List.filter_congr fun c _ => ?_)
  by_cases h : (⟨#[c]⟩ : Str) ∈ ns <;> simp [h]
theorem oIn_lst {neg : Bool} {z : Str} {b : W} {cs : Cs} {ns : List Str} {Q : DQ} (h : look b cs = some (.lst (ns.map .str))) : oIn neg (.d (.str z)) b cs Q = Q (.d (.bl (neg ^^ decide (z ∈ ns)))) cs := by
  simp only [oIn, h, look_d, isFls_strs, depth_strs, isFl, any_strs, true_and]
  simp
theorem oIn_tup {neg : Bool} {z : Str} {b : W} {cs : Cs} {ns : List Str} {Q : DQ} (h : look b cs = some (.tup (ns.map .str))) : oIn neg (.d (.str z)) b cs Q = Q (.d (.bl (neg ^^ decide (z ∈ ns)))) cs := by
  simp only [oIn, h, look_d, isFls_strs, depth_strs, isFl, any_strs, true_and]
  simp
theorem one_ok {c : Nat} (h : c ∈ lets.cps.toList) : wordOk (oneS c) := by
  refine ⟨?_, strOk_of fun d hd => ?_⟩
  · simpa [nm, oneS, Str.length] using h
  · simp [oneS] at hd; subst hd; exact lets_small _ h
theorem p__law_names : ∀ ws cs Q E, sl__law_names ws cs Q E → t__law_names (endsD cs.length Q E) (startE N__law_names ws) cs := by
  rintro ws cs Q E ⟨p, m, rfl, rfl, h0, h1, hq⟩
  have sz := sz26
  simp [dSeq, dIfS, dAsg, dIf, dTest, dOp2, dOp1, dOpN, dVar, dC, dCons, dNil, dgName, dRet, dRetN, dDrop, dNext, dLst, dTup, startE, endsD, oI, oInt1, oInt2, oNeg, oIs, oDivmod, dAnd, dOr, dNot, dAndV, dOrV, dNotV, dgSub, dgTup, dgCons, dgNil, oSetL, dPar, dPar3, dFor, diRange1, diRange2, dLc, dCall, dBM, isT, dSl, dP, dNoP, oEq, dChain, oRepr, oIsi, oBools, retD_d, isTy, dDict0, dDict, dPairs, isFl, isFls, isPy, isPys, isPyKV, look_d, look_c, lookC_lst, lookC_dct, lookC_frz, itM_some, oIx_v, ixV_lst, ixV_tup, ixV_scr, ixV_str, oAdd_v, addV_int, addV_str, addV_tup, addV_lst, oMul_v, mulV_int, mulV_lst, oLen_v, lenV_str, lenV_lst, lenV_tup, lenV_scr, oSl_v, slV_str, slV_tup, slV_lst, oIn_v, inV_lst, inV_tup, inV_sign, diSeq_v, seqV_lst, seqV_tup, seqV_str, fixW_d, fixW_c, fixV_frz, fixV_lst, fixV_dct, fixAll_nil, fixAll_cons, gcS, gcK, fixEnv_nil, fixEnv_none, fixEnv_d, fixEnv_c, fixEnv_tp, fixEnv_dead, fixEnv_sl, poison_sl, fixC, poison, poisonC_lst, poisonC_dct, poisonC_frz, poisonC_obj, dropTo0, dropTo1, dropTo2, dropTo3, dropTo4, dropTo5, dropTo6, madeQ, dMake, dMeth, DL.isObj, dFld, fldW, dCon, dSetF, fixO, frzS, diDK, diDP, keepD, oIxD, oInD, oLenD, oListK, oSetD, oPopAt, oIsiT, oInS, oTupleOf, oListOf, sd_inj, refsC_pc, toLocC_pc, unLocC_pc, poisonC_pc, diEnumA, enumV_lst, enumV_tup, dFix, dRev, oClear, dLc2, t__law_names]
  refine ⟨by omega, by omega, ?_⟩
  refine forD_inv (fun i env c => ∃ ns : List Str, ∃ p' a b d, env = [some (.c 0), some (.d (.int m)), some (.c 1), a, b, d, none] ∧ c = [pc p', .lst (ns.map .str)] ∧ ns.length = i ∧ ns.Nodup ∧ ∀ x ∈ ns, wordOk x) (fun _ _ _ _ => True.intro) _ 0 _ _ ⟨[], p, _, _, _, rfl, rfl, rfl, List.nodup_nil, by simp⟩ (fun j x hx env c hJ D' h1 h2 h3 h4 h5 => ?_) fun env c hJ => ?_
  · obtain ⟨ns, p', a, b, d, rfl, rfl, hl, hnd, hns⟩ := hJ
    obtain ⟨hj, rfl⟩ := rng_at hx
    clear h1 h2 h3 h5 hx
    simp [dSeq, dIfS, dAsg, dIf, dTest, dOp2, dOp1, dOpN, dVar, dC, dCons, dNil, dgName, dRet, dRetN, dDrop, dNext, dLst, dTup, startE, endsD, oI, oInt1, oInt2, oNeg, oIs, oDivmod, dAnd, dOr, dNot, dAndV, dOrV, dNotV, dgSub, dgTup, dgCons, dgNil, oSetL, dPar, dPar3, dFor, diRange1, diRange2, dLc, dCall, dBM, isT, dSl, dP, dNoP, oEq, dChain, oRepr, oIsi, oBools, retD_d, isTy, dDict0, dDict, dPairs, isFl, isFls, isPy, isPys, isPyKV, look_d, look_c, lookC_lst, lookC_dct, lookC_frz, itM_some, oIx_v, ixV_lst, ixV_tup, ixV_scr, ixV_str, oAdd_v, addV_int, addV_str, addV_tup, addV_lst, oMul_v, mulV_int, mulV_lst, oLen_v, lenV_str, lenV_lst, lenV_tup, lenV_scr, oSl_v, slV_str, slV_tup, slV_lst, oIn_v, inV_lst, inV_tup, inV_sign, diSeq_v, seqV_lst, seqV_tup, seqV_str, fixW_d, fixW_c, fixV_frz, fixV_lst, fixV_dct, fixAll_nil, fixAll_cons, gcS, gcK, fixEnv_nil, fixEnv_none, fixEnv_d, fixEnv_c, fixEnv_tp, fixEnv_dead, fixEnv_sl, poison_sl, fixC, poison, poisonC_lst, poisonC_dct, poisonC_frz, poisonC_obj, dropTo0, dropTo1, dropTo2, dropTo3, dropTo4, dropTo5, dropTo6, madeQ, dMake, dMeth, DL.isObj, dFld, fldW, dCon, dSetF, fixO, frzS, diDK, diDP, keepD, oIxD, oInD, oLenD, oListK, oSetD, oPopAt, oIsiT, oInS, oTupleOf, oListOf, sd_inj, refsC_pc, toLocC_pc, unLocC_pc, poisonC_pc, diEnumA, enumV_lst, enumV_tup, dFix, dRev, oClear, dLc2, name0]
    intro x p2 hx
    refine lcD_filt (pFree ns) unW rfl rfl True.intro (by rw [letsq, List.length_map, signs_len, lets_len]; omega) (fun w hw K K' hK hK' => ?_) ?_
    · simp [signs_map] at hw
      obtain ⟨c, hm, rfl⟩ := hw
      simp [dSeq, dIfS, dAsg, dIf, dTest, dOp2, dOp1, dOpN, dVar, dC, dCons, dNil, dgName, dRet, dRetN, dDrop, dNext, dLst, dTup, startE, endsD, oI, oInt1, oInt2, oNeg, oIs, oDivmod, dAnd, dOr, dNot, dAndV, dOrV, dNotV, dgSub, dgTup, dgCons, dgNil, oSetL, dPar, dPar3, dFor, diRange1, diRange2, dLc, dCall, dBM, isT, dSl, dP, dNoP, oEq, dChain, oRepr, oIsi, oBools, retD_d, isTy, dDict0, dDict, dPairs, isFl, isFls, isPy, isPys, isPyKV, look_d, look_c, lookC_lst, lookC_dct, lookC_frz, itM_some, oIx_v, ixV_lst, ixV_tup, ixV_scr, ixV_str, oAdd_v, addV_int, addV_str, addV_tup, addV_lst, oMul_v, mulV_int, mulV_lst, oLen_v, lenV_str, lenV_lst, lenV_tup, lenV_scr, oSl_v, slV_str, slV_tup, slV_lst, oIn_v, inV_lst, inV_tup, inV_sign, diSeq_v, seqV_lst, seqV_tup, seqV_str, fixW_d, fixW_c, fixV_frz, fixV_lst, fixV_dct, fixAll_nil, fixAll_cons, gcS, gcK, fixEnv_nil, fixEnv_none, fixEnv_d, fixEnv_c, fixEnv_tp, fixEnv_dead, fixEnv_sl, poison_sl, fixC, poison, poisonC_lst, poisonC_dct, poisonC_frz, poisonC_obj, dropTo0, dropTo1, dropTo2, dropTo3, dropTo4, dropTo5, dropTo6, madeQ, dMake, dMeth, DL.isObj, dFld, fldW, dCon, dSetF, fixO, frzS, diDK, diDP, keepD, oIxD, oInD, oLenD, oListK, oSetD, oPopAt, oIsiT, oInS, oTupleOf, oListOf, sd_inj, refsC_pc, toLocC_pc, unLocC_pc, poisonC_pc, diEnumA, enumV_lst, enumV_tup, dFix, dRev, oClear, dLc2, wipeE, letsq]
      rw [oIn_lst (ns := ns) rfl]
      simp [pFree, unW_d, oneS] at hK hK'
      simp only [oneS] at *
      by_cases hc : (⟨#[c]⟩ : Str) ∈ ns
      · simpa [hc] using hK' hc []
      · simpa [hc] using hK hc []
    · rw [letsq, free_eq]
      obtain ⟨f, fr, ef⟩ := free_some (ns := ns) (by omega)
      have hf : oneS f ∉ ns ∧ f ∈ lets.cps.toList := by
        have : f ∈ lets.cps.toList.filter fun c => decide (oneS c ∉ ns) := by rw [ef]; exact List.mem_cons_self
        rw [List.mem_filter] at this
        exact ⟨by simpa using this.2, this.1⟩
      rw [ef]
      simp [dSeq, dIfS, dAsg, dIf, dTest, dOp2, dOp1, dOpN, dVar, dC, dCons, dNil, dgName, dRet, dRetN, dDrop, dNext, dLst, dTup, startE, endsD, oI, oInt1, oInt2, oNeg, oIs, oDivmod, dAnd, dOr, dNot, dAndV, dOrV, dNotV, dgSub, dgTup, dgCons, dgNil, oSetL, dPar, dPar3, dFor, diRange1, diRange2, dLc, dCall, dBM, isT, dSl, dP, dNoP, oEq, dChain, oRepr, oIsi, oBools, retD_d, isTy, dDict0, dDict, dPairs, isFl, isFls, isPy, isPys, isPyKV, look_d, look_c, lookC_lst, lookC_dct, lookC_frz, itM_some, oIx_v, ixV_lst, ixV_tup, ixV_scr, ixV_str, oAdd_v, addV_int, addV_str, addV_tup, addV_lst, oMul_v, mulV_int, mulV_lst, oLen_v, lenV_str, lenV_lst, lenV_tup, lenV_scr, oSl_v, slV_str, slV_tup, slV_lst, oIn_v, inV_lst, inV_tup, inV_sign, diSeq_v, seqV_lst, seqV_tup, seqV_str, fixW_d, fixW_c, fixV_frz, fixV_lst, fixV_dct, fixAll_nil, fixAll_cons, gcS, gcK, fixEnv_nil, fixEnv_none, fixEnv_d, fixEnv_c, fixEnv_tp, fixEnv_dead, fixEnv_sl, poison_sl, fixC, poison, poisonC_lst, poisonC_dct, poisonC_frz, poisonC_obj, dropTo0, dropTo1, dropTo2, dropTo3, dropTo4, dropTo5, dropTo6, madeQ, dMake, dMeth, DL.isObj, dFld, fldW, dCon, dSetF, fixO, frzS, diDK, diDP, keepD, oIxD, oInD, oLenD, oListK, oSetD, oPopAt, oIsiT, oInS, oTupleOf, oListOf, sd_inj, refsC_pc, toLocC_pc, unLocC_pc, poisonC_pc, diEnumA, enumV_lst, enumV_tup, dFix, dRev, oClear, dLc2]
      rw [oIn_lst (ns := ns) rfl]
      by_cases hc : x ∈ ns
      · simp [dSeq, dIfS, dAsg, dIf, dTest, dOp2, dOp1, dOpN, dVar, dC, dCons, dNil, dgName, dRet, dRetN, dDrop, dNext, dLst, dTup, startE, endsD, oI, oInt1, oInt2, oNeg, oIs, oDivmod, dAnd, dOr, dNot, dAndV, dOrV, dNotV, dgSub, dgTup, dgCons, dgNil, oSetL, dPar, dPar3, dFor, diRange1, diRange2, dLc, dCall, dBM, isT, dSl, dP, dNoP, oEq, dChain, oRepr, oIsi, oBools, retD_d, isTy, dDict0, dDict, dPairs, isFl, isFls, isPy, isPys, isPyKV, look_d, look_c, lookC_lst, lookC_dct, lookC_frz, itM_some, oIx_v, ixV_lst, ixV_tup, ixV_scr, ixV_str, oAdd_v, addV_int, addV_str, addV_tup, addV_lst, oMul_v, mulV_int, mulV_lst, oLen_v, lenV_str, lenV_lst, lenV_tup, lenV_scr, oSl_v, slV_str, slV_tup, slV_lst, oIn_v, inV_lst, inV_tup, inV_sign, diSeq_v, seqV_lst, seqV_tup, seqV_str, fixW_d, fixW_c, fixV_frz, fixV_lst, fixV_dct, fixAll_nil, fixAll_cons, gcS, gcK, fixEnv_nil, fixEnv_none, fixEnv_d, fixEnv_c, fixEnv_tp, fixEnv_dead, fixEnv_sl, poison_sl, fixC, poison, poisonC_lst, poisonC_dct, poisonC_frz, poisonC_obj, dropTo0, dropTo1, dropTo2, dropTo3, dropTo4, dropTo5, dropTo6, madeQ, dMake, dMeth, DL.isObj, dFld, fldW, dCon, dSetF, fixO, frzS, diDK, diDP, keepD, oIxD, oInD, oLenD, oListK, oSetD, oPopAt, oIsiT, oInS, oTupleOf, oListOf, sd_inj, refsC_pc, toLocC_pc, unLocC_pc, poisonC_pc, diEnumA, enumV_lst, enumV_tup, dFix, dRev, oClear, dLc2, hc, oAppend]
        refine ⟨by omega, h4 _ _ ⟨ns ++ [oneS f], p2, _, _, _, rfl, by simp, by simp; omega, ?_, fun y hy => ?_⟩⟩
        · exact List.nodup_append.mpr ⟨hnd, by simp, fun a ha b hb e => by simp at hb; exact hf.1 (hb ▸ e ▸ ha)⟩
        · rcases List.mem_append.mp hy with h | h
          · exact hns y h
          · simp at h; subst h; exact one_ok hf.2
      · simp [dSeq, dIfS, dAsg, dIf, dTest, dOp2, dOp1, dOpN, dVar, dC, dCons, dNil, dgName, dRet, dRetN, dDrop, dNext, dLst, dTup, startE, endsD, oI, oInt1, oInt2, oNeg, oIs, oDivmod, dAnd, dOr, dNot, dAndV, dOrV, dNotV, dgSub, dgTup, dgCons, dgNil, oSetL, dPar, dPar3, dFor, diRange1, diRange2, dLc, dCall, dBM, isT, dSl, dP, dNoP, oEq, dChain, oRepr, oIsi, oBools, retD_d, isTy, dDict0, dDict, dPairs, isFl, isFls, isPy, isPys, isPyKV, look_d, look_c, lookC_lst, lookC_dct, lookC_frz, itM_some, oIx_v, ixV_lst, ixV_tup, ixV_scr, ixV_str, oAdd_v, addV_int, addV_str, addV_tup, addV_lst, oMul_v, mulV_int, mulV_lst, oLen_v, lenV_str, lenV_lst, lenV_tup, lenV_scr, oSl_v, slV_str, slV_tup, slV_lst, oIn_v, inV_lst, inV_tup, inV_sign, diSeq_v, seqV_lst, seqV_tup, seqV_str, fixW_d, fixW_c, fixV_frz, fixV_lst, fixV_dct, fixAll_nil, fixAll_cons, gcS, gcK, fixEnv_nil, fixEnv_none, fixEnv_d, fixEnv_c, fixEnv_tp, fixEnv_dead, fixEnv_sl, poison_sl, fixC, poison, poisonC_lst, poisonC_dct, poisonC_frz, poisonC_obj, dropTo0, dropTo1, dropTo2, dropTo3, dropTo4, dropTo5, dropTo6, madeQ, dMake, dMeth, DL.isObj, dFld, fldW, dCon, dSetF, fixO, frzS, diDK, diDP, keepD, oIxD, oInD, oLenD, oListK, oSetD, oPopAt, oIsiT, oInS, oTupleOf, oListOf, sd_inj, refsC_pc, toLocC_pc, unLocC_pc, poisonC_pc, diEnumA, enumV_lst, enumV_tup, dFix, dRev, oClear, dLc2, hc, oAppend]
        refine ⟨by omega, h4 _ _ ⟨ns ++ [x], p2, _, _, _, rfl, by simp, by simp; omega, ?_, fun y hy => ?_⟩⟩
        · exact List.nodup_append.mpr ⟨hnd, by simp, fun a ha b hb e => by simp at hb; exact hc (hb ▸ e ▸ ha)⟩
        · rcases List.mem_append.mp hy with h | h
          · exact hns y h
          · simp at h; subst h; exact hx
  · obtain ⟨ns, p', a, b, d, rfl, rfl, hl, hnd, hns⟩ := hJ
    simp [dSeq, dIfS, dAsg, dIf, dTest, dOp2, dOp1, dOpN, dVar, dC, dCons, dNil, dgName, dRet, dRetN, dDrop, dNext, dLst, dTup, startE, endsD, oI, oInt1, oInt2, oNeg, oIs, oDivmod, dAnd, dOr, dNot, dAndV, dOrV, dNotV, dgSub, dgTup, dgCons, dgNil, oSetL, dPar, dPar3, dFor, diRange1, diRange2, dLc, dCall, dBM, isT, dSl, dP, dNoP, oEq, dChain, oRepr, oIsi, oBools, retD_d, isTy, dDict0, dDict, dPairs, isFl, isFls, isPy, isPys, isPyKV, look_d, look_c, lookC_lst, lookC_dct, lookC_frz, itM_some, oIx_v, ixV_lst, ixV_tup, ixV_scr, ixV_str, oAdd_v, addV_int, addV_str, addV_tup, addV_lst, oMul_v, mulV_int, mulV_lst, oLen_v, lenV_str, lenV_lst, lenV_tup, lenV_scr, oSl_v, slV_str, slV_tup, slV_lst, oIn_v, inV_lst, inV_tup, inV_sign, diSeq_v, seqV_lst, seqV_tup, seqV_str, fixW_d, fixW_c, fixV_frz, fixV_lst, fixV_dct, fixAll_nil, fixAll_cons, gcS, gcK, fixEnv_nil, fixEnv_none, fixEnv_d, fixEnv_c, fixEnv_tp, fixEnv_dead, fixEnv_sl, poison_sl, fixC, poison, poisonC_lst, poisonC_dct, poisonC_frz, poisonC_obj, dropTo0, dropTo1, dropTo2, dropTo3, dropTo4, dropTo5, dropTo6, madeQ, dMake, dMeth, DL.isObj, dFld, fldW, dCon, dSetF, fixO, frzS, diDK, diDP, keepD, oIxD, oInD, oLenD, oListK, oSetD, oPopAt, oIsiT, oInS, oTupleOf, oListOf, sd_inj, refsC_pc, toLocC_pc, unLocC_pc, poisonC_pc, diEnumA, enumV_lst, enumV_tup, dFix, dRev, oClear, dLc2, retD]
    exact hq ns p' (by simp at hl; omega) hnd hns
end DH
namespace DH
open PySem PySem.Spec L2 DL
theorem names0 {p : Pt} {m : Int} {g : Cs} {Q : DQ} {E : DX} : sp__law_names [.c 0, .d (.int m)] (pc p :: g) Q E = (0 ≤ m ∧ m ≤ 26 ∧ ∀ (ns : List Str) p', (ns.length : Int) = m → ns.Nodup → (∀ x ∈ ns, wordOk x) → Q (.c (g.length + 1)) (pc p' :: g ++ [.lst (ns.map .str)])) := by
  simp [sp__law_names, loc, locAt, locJ, namesOf, refsC_pc, refsC_lst, refsC_dct, refsC_frz, toLocC_pc, toLocC_lst, toLocC_dct, toLocC_frz, unLocC_pc, unLocC_lst, unLocC_dct, unLocC_frz, getCs, inJ, toLoc, unLoc, putC, sl__law_names]
  intros; exact ⟨p, rfl⟩
def unS : D → Str
  | .str x => x
  | _ => ""
theorem perm_strs {ys : List D} {xs : List Str} (h : ys.Perm (xs.map .str)) : ∃ zs : List Str, ys = zs.map .str ∧ zs.Perm xs := by
  refine ⟨ys.map unS, ?_, ?_⟩
  · have : ∀ y ∈ ys, D.str (unS y) = y := fun y hy => by
      have := h.mem_iff.mp hy
      simp at this
      obtain ⟨x, _, rfl⟩ := this
      rfl
    rw [List.map_map]
    exact ((List.map_congr_left this).trans (List.map_id _)).symm
  · have := h.map unS
    rwa [List.map_map, show unS ∘ D.str = id from rfl, List.map_id] at this
def rowN : W → D
  | .d (.tup (n :: _)) => n
  | _ => .non
theorem cut_map {α β : Type} {f : α → β} {xs : List α} {lo hi : Option Int} : cutD (xs.map f) lo hi = (cutD xs lo hi).map f := by
  simp [cutD, List.map_take, List.map_drop]
theorem cut_sub {α : Type} {xs : List α} {lo hi : Option Int} : (cutD xs lo hi).Sublist xs := (List.take_sublist _ _).trans (List.drop_sublist _ _)
theorem RowsOk.snoc {R : List Row} {n : Str} {s : List Str} (h : RowsOk R) (h1 : n ∉ namesR R) (h2 : wordOk n) (h3 : s.Nodup) (h4 : ∀ x ∈ s, x ∈ namesR R) (h5 : s.length ≤ 25) : RowsOk (R ++ [(n, s)]) := by
  refine ⟨?_, fun r hr => ?_, fun A r B e => ?_⟩
  · simp only [namesR, List.map_append, List.map_cons, List.map_nil]
    exact List.nodup_append.mpr ⟨h.nd, by simp, fun a ha b hb e => by simp at hb; exact h1 (hb ▸ e ▸ ha)⟩
  · rcases List.mem_append.mp hr with hr | hr
    · exact h.nm r hr
    · simp at hr; subst hr; exact h2
  · rcases List.append_eq_append_iff.mp e with ⟨l, e1, e2⟩ | ⟨l, e1, e2⟩
    · cases l with
      | nil =>
        simp at e1 e2
        obtain ⟨rfl, rfl⟩ := e2
        rw [e1]
        exact ⟨h3, h4, h5⟩
      | cons a l =>
        have := congrArg List.length e2
        simp at this
    · cases l with
      | nil =>
        simp at e1 e2
        obtain ⟨rfl, rfl⟩ := e2
        subst e1
        exact ⟨h3, h4, h5⟩
      | cons a l =>
        simp at e2
        obtain ⟨rfl, e2⟩ := e2
        exact h.sup A _ l e1
theorem p__law_kinds : ∀ ws cs Q E, sl__law_kinds ws cs Q E → t__law_kinds (endsD cs.length Q E) (startE N__law_kinds ws) cs := by
  rintro ws cs Q E ⟨p, m, rfl, rfl, h0, h1, hq⟩
  have sz := sz26
  simp [dSeq, dIfS, dAsg, dIf, dTest, dOp2, dOp1, dOpN, dVar, dC, dCons, dNil, dgName, dRet, dRetN, dDrop, dNext, dLst, dTup, startE, endsD, oI, oInt1, oInt2, oNeg, oIs, oDivmod, dAnd, dOr, dNot, dAndV, dOrV, dNotV, dgSub, dgTup, dgCons, dgNil, oSetL, dPar, dPar3, dFor, diRange1, diRange2, dLc, dCall, dBM, isT, dSl, dP, dNoP, oEq, dChain, oRepr, oIsi, oBools, retD_d, isTy, dDict0, dDict, dPairs, isFl, isFls, isPy, isPys, isPyKV, look_d, look_c, lookC_lst, lookC_dct, lookC_frz, itM_some, oIx_v, ixV_lst, ixV_tup, ixV_scr, ixV_str, oAdd_v, addV_int, addV_str, addV_tup, addV_lst, oMul_v, mulV_int, mulV_lst, oLen_v, lenV_str, lenV_lst, lenV_tup, lenV_scr, oSl_v, slV_str, slV_tup, slV_lst, oIn_v, inV_lst, inV_tup, inV_sign, diSeq_v, seqV_lst, seqV_tup, seqV_str, fixW_d, fixW_c, fixV_frz, fixV_lst, fixV_dct, fixAll_nil, fixAll_cons, gcS, gcK, fixEnv_nil, fixEnv_none, fixEnv_d, fixEnv_c, fixEnv_tp, fixEnv_dead, fixEnv_sl, poison_sl, fixC, poison, poisonC_lst, poisonC_dct, poisonC_frz, poisonC_obj, dropTo0, dropTo1, dropTo2, dropTo3, dropTo4, dropTo5, dropTo6, madeQ, dMake, dMeth, DL.isObj, dFld, fldW, dCon, dSetF, fixO, frzS, diDK, diDP, keepD, oIxD, oInD, oLenD, oListK, oSetD, oPopAt, oIsiT, oInS, oTupleOf, oListOf, sd_inj, refsC_pc, toLocC_pc, unLocC_pc, poisonC_pc, diEnumA, enumV_lst, enumV_tup, dFix, dRev, oClear, dLc2, t__law_kinds, draw1, draw0]
  refine ⟨by omega, lt250 (by omega), fun r p2 r0 r1 => ?_⟩
  simp [names0]
  refine ⟨by omega, by omega, fun ns p3 hl hnd hok => ?_⟩
  simp [dSeq, dIfS, dAsg, dIf, dTest, dOp2, dOp1, dOpN, dVar, dC, dCons, dNil, dgName, dRet, dRetN, dDrop, dNext, dLst, dTup, startE, endsD, oI, oInt1, oInt2, oNeg, oIs, oDivmod, dAnd, dOr, dNot, dAndV, dOrV, dNotV, dgSub, dgTup, dgCons, dgNil, oSetL, dPar, dPar3, dFor, diRange1, diRange2, dLc, dCall, dBM, isT, dSl, dP, dNoP, oEq, dChain, oRepr, oIsi, oBools, retD_d, isTy, dDict0, dDict, dPairs, isFl, isFls, isPy, isPys, isPyKV, look_d, look_c, lookC_lst, lookC_dct, lookC_frz, itM_some, oIx_v, ixV_lst, ixV_tup, ixV_scr, ixV_str, oAdd_v, addV_int, addV_str, addV_tup, addV_lst, oMul_v, mulV_int, mulV_lst, oLen_v, lenV_str, lenV_lst, lenV_tup, lenV_scr, oSl_v, slV_str, slV_tup, slV_lst, oIn_v, inV_lst, inV_tup, inV_sign, diSeq_v, seqV_lst, seqV_tup, seqV_str, fixW_d, fixW_c, fixV_frz, fixV_lst, fixV_dct, fixAll_nil, fixAll_cons, gcS, gcK, fixEnv_nil, fixEnv_none, fixEnv_d, fixEnv_c, fixEnv_tp, fixEnv_dead, fixEnv_sl, poison_sl, fixC, poison, poisonC_lst, poisonC_dct, poisonC_frz, poisonC_obj, dropTo0, dropTo1, dropTo2, dropTo3, dropTo4, dropTo5, dropTo6, madeQ, dMake, dMeth, DL.isObj, dFld, fldW, dCon, dSetF, fixO, frzS, diDK, diDP, keepD, oIxD, oInD, oLenD, oListK, oSetD, oPopAt, oIsiT, oInS, oTupleOf, oListOf, sd_inj, refsC_pc, toLocC_pc, unLocC_pc, poisonC_pc, diEnumA, enumV_lst, enumV_tup, dFix, dRev, oClear, dLc2]
  refine forD_inv (fun i env c => ∃ R p' a b, env = [some (.c 0), some (.d (.int m)), some (.c 1), a, b, none] ∧ c = [pc p', .lst (R.map rowD), .lst (ns.map .str)] ∧ namesR R = ns.take i ∧ RowsOk R) (fun _ _ _ hJ => ?_) _ 0 _ _ ⟨[], p3, _, _, rfl, rfl, by simp [namesR], ?_⟩ (fun j x hx env c hJ D' h1 h2 h3 h4 h5 => ?_) fun env c hJ => ?_
  · obtain ⟨R, p', a, b, rfl, rfl, hR⟩ := hJ
    rfl
  · exact ⟨List.nodup_nil, by simp, by simp⟩
  · obtain ⟨R, p', a, b, rfl, rfl, hN, hR⟩ := hJ
    have hx : ∃ l, ns[j]? = some l ∧ x = .d (.str l) := by simp at hx; obtain ⟨a, h, rfl⟩ := hx; exact ⟨a, h, rfl⟩
    obtain ⟨l, hl2, rfl⟩ := hx
    clear h1 h2 h3 h5
    simp [dSeq, dIfS, dAsg, dIf, dTest, dOp2, dOp1, dOpN, dVar, dC, dCons, dNil, dgName, dRet, dRetN, dDrop, dNext, dLst, dTup, startE, endsD, oI, oInt1, oInt2, oNeg, oIs, oDivmod, dAnd, dOr, dNot, dAndV, dOrV, dNotV, dgSub, dgTup, dgCons, dgNil, oSetL, dPar, dPar3, dFor, diRange1, diRange2, dLc, dCall, dBM, isT, dSl, dP, dNoP, oEq, dChain, oRepr, oIsi, oBools, retD_d, isTy, dDict0, dDict, dPairs, isFl, isFls, isPy, isPys, isPyKV, look_d, look_c, lookC_lst, lookC_dct, lookC_frz, itM_some, oIx_v, ixV_lst, ixV_tup, ixV_scr, ixV_str, oAdd_v, addV_int, addV_str, addV_tup, addV_lst, oMul_v, mulV_int, mulV_lst, oLen_v, lenV_str, lenV_lst, lenV_tup, lenV_scr, oSl_v, slV_str, slV_tup, slV_lst, oIn_v, inV_lst, inV_tup, inV_sign, diSeq_v, seqV_lst, seqV_tup, seqV_str, fixW_d, fixW_c, fixV_frz, fixV_lst, fixV_dct, fixAll_nil, fixAll_cons, gcS, gcK, fixEnv_nil, fixEnv_none, fixEnv_d, fixEnv_c, fixEnv_tp, fixEnv_dead, fixEnv_sl, poison_sl, fixC, poison, poisonC_lst, poisonC_dct, poisonC_frz, poisonC_obj, dropTo0, dropTo1, dropTo2, dropTo3, dropTo4, dropTo5, dropTo6, madeQ, dMake, dMeth, DL.isObj, dFld, fldW, dCon, dSetF, fixO, frzS, diDK, diDP, keepD, oIxD, oInD, oLenD, oListK, oSetD, oPopAt, oIsiT, oInS, oTupleOf, oListOf, sd_inj, refsC_pc, toLocC_pc, unLocC_pc, poisonC_pc, diEnumA, enumV_lst, enumV_tup, dFix, dRev, oClear, dLc2, draw0]
    refine ⟨by decide, fun r p2 r0 r1 => ?_⟩
    obtain ⟨y, e, hy⟩ := mem_at (xs := [D.int 0, D.int 1, D.int 1, D.int 2, D.int 2, D.int 3]) r0 r1 rfl
    have hy : ∃ s : Int, y = .int s ∧ 0 ≤ s ∧ s ≤ 3 := by
      simp at hy
      rcases hy with rfl | rfl | rfl | rfl <;> exact ⟨_, rfl, by omega, by omega⟩
    obtain ⟨s, rfl, s0, s1⟩ := hy
    simp [dSeq, dIfS, dAsg, dIf, dTest, dOp2, dOp1, dOpN, dVar, dC, dCons, dNil, dgName, dRet, dRetN, dDrop, dNext, dLst, dTup, startE, endsD, oI, oInt1, oInt2, oNeg, oIs, oDivmod, dAnd, dOr, dNot, dAndV, dOrV, dNotV, dgSub, dgTup, dgCons, dgNil, oSetL, dPar, dPar3, dFor, diRange1, diRange2, dLc, dCall, dBM, isT, dSl, dP, dNoP, oEq, dChain, oRepr, oIsi, oBools, retD_d, isTy, dDict0, dDict, dPairs, isFl, isFls, isPy, isPys, isPyKV, look_d, look_c, lookC_lst, lookC_dct, lookC_frz, itM_some, oIx_v, ixV_lst, ixV_tup, ixV_scr, ixV_str, oAdd_v, addV_int, addV_str, addV_tup, addV_lst, oMul_v, mulV_int, mulV_lst, oLen_v, lenV_str, lenV_lst, lenV_tup, lenV_scr, oSl_v, slV_str, slV_tup, slV_lst, oIn_v, inV_lst, inV_tup, inV_sign, diSeq_v, seqV_lst, seqV_tup, seqV_str, fixW_d, fixW_c, fixV_frz, fixV_lst, fixV_dct, fixAll_nil, fixAll_cons, gcS, gcK, fixEnv_nil, fixEnv_none, fixEnv_d, fixEnv_c, fixEnv_tp, fixEnv_dead, fixEnv_sl, poison_sl, fixC, poison, poisonC_lst, poisonC_dct, poisonC_frz, poisonC_obj, dropTo0, dropTo1, dropTo2, dropTo3, dropTo4, dropTo5, dropTo6, madeQ, dMake, dMeth, DL.isObj, dFld, fldW, dCon, dSetF, fixO, frzS, diDK, diDP, keepD, oIxD, oInD, oLenD, oListK, oSetD, oPopAt, oIsiT, oInS, oTupleOf, oListOf, sd_inj, refsC_pc, toLocC_pc, unLocC_pc, poisonC_pc, diEnumA, enumV_lst, enumV_tup, dFix, dRev, oClear, dLc2, e]
    refine lcD_pure rowN rfl rfl rfl (by simp; have := congrArg List.length hN; simp [namesR] at this; omega) (fun w hw K hK => ?_) ?_
    · obtain ⟨r, hr, rfl⟩ := List.mem_map.mp hw
      have := hK []
      simp [rowN, rowD] at this
      simpa [dSeq, dIfS, dAsg, dIf, dTest, dOp2, dOp1, dOpN, dVar, dC, dCons, dNil, dgName, dRet, dRetN, dDrop, dNext, dLst, dTup, startE, endsD, oI, oInt1, oInt2, oNeg, oIs, oDivmod, dAnd, dOr, dNot, dAndV, dOrV, dNotV, dgSub, dgTup, dgCons, dgNil, oSetL, dPar, dPar3, dFor, diRange1, diRange2, dLc, dCall, dBM, isT, dSl, dP, dNoP, oEq, dChain, oRepr, oIsi, oBools, retD_d, isTy, dDict0, dDict, dPairs, isFl, isFls, isPy, isPys, isPyKV, look_d, look_c, lookC_lst, lookC_dct, lookC_frz, itM_some, oIx_v, ixV_lst, ixV_tup, ixV_scr, ixV_str, oAdd_v, addV_int, addV_str, addV_tup, addV_lst, oMul_v, mulV_int, mulV_lst, oLen_v, lenV_str, lenV_lst, lenV_tup, lenV_scr, oSl_v, slV_str, slV_tup, slV_lst, oIn_v, inV_lst, inV_tup, inV_sign, diSeq_v, seqV_lst, seqV_tup, seqV_str, fixW_d, fixW_c, fixV_frz, fixV_lst, fixV_dct, fixAll_nil, fixAll_cons, gcS, gcK, fixEnv_nil, fixEnv_none, fixEnv_d, fixEnv_c, fixEnv_tp, fixEnv_dead, fixEnv_sl, poison_sl, fixC, poison, poisonC_lst, poisonC_dct, poisonC_frz, poisonC_obj, dropTo0, dropTo1, dropTo2, dropTo3, dropTo4, dropTo5, dropTo6, madeQ, dMake, dMeth, DL.isObj, dFld, fldW, dCon, dSetF, fixO, frzS, diDK, diDP, keepD, oIxD, oInD, oLenD, oListK, oSetD, oPopAt, oIsiT, oInS, oTupleOf, oListOf, sd_inj, refsC_pc, toLocC_pc, unLocC_pc, poisonC_pc, diEnumA, enumV_lst, enumV_tup, dFix, dRev, oClear, dLc2, wipeE, rowD] using this
    · simp [dSeq, dIfS, dAsg, dIf, dTest, dOp2, dOp1, dOpN, dVar, dC, dCons, dNil, dgName, dRet, dRetN, dDrop, dNext, dLst, dTup, startE, endsD, oI, oInt1, oInt2, oNeg, oIs, oDivmod, dAnd, dOr, dNot, dAndV, dOrV, dNotV, dgSub, dgTup, dgCons, dgNil, oSetL, dPar, dPar3, dFor, diRange1, diRange2, dLc, dCall, dBM, isT, dSl, dP, dNoP, oEq, dChain, oRepr, oIsi, oBools, retD_d, isTy, dDict0, dDict, dPairs, isFl, isFls, isPy, isPys, isPyKV, look_d, look_c, lookC_lst, lookC_dct, lookC_frz, itM_some, oIx_v, ixV_lst, ixV_tup, ixV_scr, ixV_str, oAdd_v, addV_int, addV_str, addV_tup, addV_lst, oMul_v, mulV_int, mulV_lst, oLen_v, lenV_str, lenV_lst, lenV_tup, lenV_scr, oSl_v, slV_str, slV_tup, slV_lst, oIn_v, inV_lst, inV_tup, inV_sign, diSeq_v, seqV_lst, seqV_tup, seqV_str, fixW_d, fixW_c, fixV_frz, fixV_lst, fixV_dct, fixAll_nil, fixAll_cons, gcS, gcK, fixEnv_nil, fixEnv_none, fixEnv_d, fixEnv_c, fixEnv_tp, fixEnv_dead, fixEnv_sl, poison_sl, fixC, poison, poisonC_lst, poisonC_dct, poisonC_frz, poisonC_obj, dropTo0, dropTo1, dropTo2, dropTo3, dropTo4, dropTo5, dropTo6, madeQ, dMake, dMeth, DL.isObj, dFld, fldW, dCon, dSetF, fixO, frzS, diDK, diDP, keepD, oIxD, oInD, oLenD, oListK, oSetD, oPopAt, oIsiT, oInS, oTupleOf, oListOf, sd_inj, refsC_pc, toLocC_pc, unLocC_pc, poisonC_pc, diEnumA, enumV_lst, enumV_tup, dFix, dRev, oClear, dLc2]
      have hln : R.length ≤ 25 := by have := congrArg List.length hN; simp [namesR] at this; omega
      have en : R.map (rowN ∘ W.d ∘ rowD) = (namesR R).map D.str := by simp [namesR, rowN, rowD, Function.comp_def]
      rw [en]
      refine mixed_at (k := 3) rfl (by simp [namesR]; omega) fun ys p4 hp => ?_
      obtain ⟨zs, rfl, hz⟩ := perm_strs hp
      simp [dSeq, dIfS, dAsg, dIf, dTest, dOp2, dOp1, dOpN, dVar, dC, dCons, dNil, dgName, dRet, dRetN, dDrop, dNext, dLst, dTup, startE, endsD, oI, oInt1, oInt2, oNeg, oIs, oDivmod, dAnd, dOr, dNot, dAndV, dOrV, dNotV, dgSub, dgTup, dgCons, dgNil, oSetL, dPar, dPar3, dFor, diRange1, diRange2, dLc, dCall, dBM, isT, dSl, dP, dNoP, oEq, dChain, oRepr, oIsi, oBools, retD_d, isTy, dDict0, dDict, dPairs, isFl, isFls, isPy, isPys, isPyKV, look_d, look_c, lookC_lst, lookC_dct, lookC_frz, itM_some, oIx_v, ixV_lst, ixV_tup, ixV_scr, ixV_str, oAdd_v, addV_int, addV_str, addV_tup, addV_lst, oMul_v, mulV_int, mulV_lst, oLen_v, lenV_str, lenV_lst, lenV_tup, lenV_scr, oSl_v, slV_str, slV_tup, slV_lst, oIn_v, inV_lst, inV_tup, inV_sign, diSeq_v, seqV_lst, seqV_tup, seqV_str, fixW_d, fixW_c, fixV_frz, fixV_lst, fixV_dct, fixAll_nil, fixAll_cons, gcS, gcK, fixEnv_nil, fixEnv_none, fixEnv_d, fixEnv_c, fixEnv_tp, fixEnv_dead, fixEnv_sl, poison_sl, fixC, poison, poisonC_lst, poisonC_dct, poisonC_frz, poisonC_obj, dropTo0, dropTo1, dropTo2, dropTo3, dropTo4, dropTo5, dropTo6, madeQ, dMake, dMeth, DL.isObj, dFld, fldW, dCon, dSetF, fixO, frzS, diDK, diDP, keepD, oIxD, oInD, oLenD, oListK, oSetD, oPopAt, oIsiT, oInS, oTupleOf, oListOf, sd_inj, refsC_pc, toLocC_pc, unLocC_pc, poisonC_pc, diEnumA, enumV_lst, enumV_tup, dFix, dRev, oClear, dLc2, oAppend, cut_map]
      have hlz := hz.length_eq
      have hsub := cut_sub (xs := zs) (lo := none) (hi := some s)
      refine ⟨by omega, by omega, h4 _ _ ⟨R ++ [(l, cutD zs none (some s))], p4, _, _, rfl, by simp [rowD], ?_, ?_⟩⟩
      · simp only [namesR, List.map_append] at hN ⊢
        rw [hN]
        simp [List.take_add_one, hl2]
      · have hnl : l ∉ namesR R := fun hm => by
          rw [hN] at hm
          have h := (List.take_sublist (0 + j + 1) ns).nodup hnd
          rw [List.take_add_one, show ns[0 + j]? = some l by simpa using hl2] at h
          exact (List.nodup_append.mp h).2.2 l hm l (by simp) rfl
        refine hR.snoc hnl (hok l (List.mem_of_getElem? hl2)) (hsub.nodup (hz.nodup_iff.mpr hR.nd)) (fun x hx => hz.mem_iff.mp (hsub.mem hx)) ?_
        have := hsub.length_le
        simp [namesR] at hlz
        omega
  · obtain ⟨R, p', a, b, rfl, rfl, hN, hR⟩ := hJ
    simp [dSeq, dIfS, dAsg, dIf, dTest, dOp2, dOp1, dOpN, dVar, dC, dCons, dNil, dgName, dRet, dRetN, dDrop, dNext, dLst, dTup, startE, endsD, oI, oInt1, oInt2, oNeg, oIs, oDivmod, dAnd, dOr, dNot, dAndV, dOrV, dNotV, dgSub, dgTup, dgCons, dgNil, oSetL, dPar, dPar3, dFor, diRange1, diRange2, dLc, dCall, dBM, isT, dSl, dP, dNoP, oEq, dChain, oRepr, oIsi, oBools, retD_d, isTy, dDict0, dDict, dPairs, isFl, isFls, isPy, isPys, isPyKV, look_d, look_c, lookC_lst, lookC_dct, lookC_frz, itM_some, oIx_v, ixV_lst, ixV_tup, ixV_scr, ixV_str, oAdd_v, addV_int, addV_str, addV_tup, addV_lst, oMul_v, mulV_int, mulV_lst, oLen_v, lenV_str, lenV_lst, lenV_tup, lenV_scr, oSl_v, slV_str, slV_tup, slV_lst, oIn_v, inV_lst, inV_tup, inV_sign, diSeq_v, seqV_lst, seqV_tup, seqV_str, fixW_d, fixW_c, fixV_frz, fixV_lst, fixV_dct, fixAll_nil, fixAll_cons, gcS, gcK, fixEnv_nil, fixEnv_none, fixEnv_d, fixEnv_c, fixEnv_tp, fixEnv_dead, fixEnv_sl, poison_sl, fixC, poison, poisonC_lst, poisonC_dct, poisonC_frz, poisonC_obj, dropTo0, dropTo1, dropTo2, dropTo3, dropTo4, dropTo5, dropTo6, madeQ, dMake, dMeth, DL.isObj, dFld, fldW, dCon, dSetF, fixO, frzS, diDK, diDP, keepD, oIxD, oInD, oLenD, oListK, oSetD, oPopAt, oIsiT, oInS, oTupleOf, oListOf, sd_inj, refsC_pc, toLocC_pc, unLocC_pc, poisonC_pc, diEnumA, enumV_lst, enumV_tup, dFix, dRev, oClear, dLc2, retD]
    have : namesR R = ns := by rw [hN]; simp
    have hlen : R.length = ns.length := by rw [← this]; simp [namesR]
    exact hq R p' hR (by omega) (by omega)
end DH
set_option maxHeartbeats 2000000
namespace DH
open PySem PySem.Spec L2 DL
theorem getS_isSome {m : List (Str × D)} {k : Str} : (getS m k).isSome = decide (k ∈ m.map (·.1)) := by
  induction m with
  | nil => rfl
  | cons a r ih =>
    obtain ⟨x, y⟩ := a
    simp only [getS, List.map_cons, List.mem_cons]
    by_cases h : x = k
    · simp [h]
    · simp [h, ih, Ne.symm h, eq_comm]
theorem getS_none {m : List (Str × D)} {k : Str} : getS m k = none ↔ ¬ k ∈ m.map (·.1) := by
  have := getS_isSome (m := m) (k := k)
  cases h : getS m k <;> simp [h] at this ⊢ <;> simpa using this
theorem cut_take {α : Type} {xs : List α} {j : Nat} (h : j ≤ xs.length) : cutD xs none (some (j : Int)) = xs.take j := by
  have e1 : HT.sIx xs.length 0 none = 0 := rfl
  have e2 : HT.sIx xs.length xs.length (some (j : Int)) = j := by
    simp only [HT.sIx]; rw [if_neg (by omega)]; simp; omega
  simp [cutD, e1, e2]
theorem okVs_mem : ∀ {xs : List D} {x : D}, okVs xs = true → x ∈ xs → okV x = true
  | y :: ys, x, h, hm => by
    simp [okVs] at h
    rcases List.mem_cons.mp hm with rfl | hm
    · exact h.1
    · exact okVs_mem h.2 hm
theorem diffL_nostr {ks : List Str} {x : D} {r : List D} {pre : List Str} (h : ∀ z, x ≠ .str z) : diffL ks (x :: r) pre = false := by
  cases x <;> first | rfl | exact absurd rfl (h _)
theorem p_are_different_classes : ∀ ws cs Q E, sl_are_different_classes ws cs Q E → t_are_different_classes (endsD cs.length Q E) (startE N_are_different_classes ws) cs := by
  rintro ws cs Q E ⟨x, w, m, rfl, hat, ho, hq⟩
  have sz := sz6
  rcases hat with ⟨rfl, o, rfl⟩ | ⟨rfl, rfl⟩
  · cases x with
    | tup xs =>
      simp [okV] at ho
      simp [dSeq, dIfS, dAsg, dIf, dTest, dOp2, dOp1, dOpN, dVar, dC, dCons, dNil, dgName, dRet, dRetN, dDrop, dNext, dLst, dTup, startE, endsD, oI, oInt1, oInt2, oNeg, oIs, oDivmod, dAnd, dOr, dNot, dAndV, dOrV, dNotV, dgSub, dgTup, dgCons, dgNil, oSetL, dPar, dPar3, dFor, diRange1, diRange2, dLc, dCall, dBM, isT, dSl, dP, dNoP, oEq, dChain, oRepr, oIsi, oBools, retD_d, isTy, dDict0, dDict, dPairs, isFl, isFls, isPy, isPys, isPyKV, look_d, look_c, lookC_lst, lookC_dct, lookC_frz, itM_some, oIx_v, ixV_lst, ixV_tup, ixV_scr, ixV_str, oAdd_v, addV_int, addV_str, addV_tup, addV_lst, oMul_v, mulV_int, mulV_lst, oLen_v, lenV_str, lenV_lst, lenV_tup, lenV_scr, oSl_v, slV_str, slV_tup, slV_lst, oIn_v, inV_lst, inV_tup, inV_sign, diSeq_v, seqV_lst, seqV_tup, seqV_str, fixW_d, fixW_c, fixV_frz, fixV_lst, fixV_dct, fixAll_nil, fixAll_cons, gcS, gcK, fixEnv_nil, fixEnv_none, fixEnv_d, fixEnv_c, fixEnv_tp, fixEnv_dead, fixEnv_sl, poison_sl, fixC, poison, poisonC_lst, poisonC_dct, poisonC_frz, poisonC_obj, dropTo0, dropTo1, dropTo2, dropTo3, dropTo4, dropTo5, dropTo6, madeQ, dMake, dMeth, DL.isObj, dFld, fldW, dCon, dSetF, fixO, frzS, diDK, diDP, keepD, oIxD, oInD, oLenD, oListK, oSetD, oPopAt, oIsiT, oInS, oTupleOf, oListOf, sd_inj, refsC_pc, toLocC_pc, unLocC_pc, poisonC_pc, diEnumA, enumV_lst, enumV_tup, dFix, dRev, oClear, dLc2, t_are_different_classes]
      refine forD_inv (fun i env c => ∃ a b, ∃ pre : List Str, env = [some (.d (.tup xs)), some (.c 0), a, b] ∧ c = [.dct (sd m) o] ∧ xs.take i = pre.map .str ∧ diffL (m.map (·.1)) xs [] = diffL (m.map (·.1)) (xs.drop i) pre) (fun _ _ _ _ => True.intro) _ 0 _ _ ⟨_, _, [], rfl, rfl, rfl, rfl⟩ (fun j x hx env c hJ D' h1 h2 h3 h4 h5 => ?_) fun env c hJ => ?_
      · obtain ⟨a, b, pre, rfl, rfl, hp, hd⟩ := hJ
        rw [pairUp_get] at hx
        have hx : ∃ y, xs[j]? = some y ∧ x = .tp [.int (j : Nat), y] := by
          cases e : xs[j]? with
          | none => simp [e] at hx
          | some y => simp [e] at hx; exact ⟨y, rfl, hx.symm⟩
        obtain ⟨y, hy, rfl⟩ := hx
        obtain ⟨hjl, hjy⟩ := List.getElem?_eq_some_iff.mp hy
        have hoy := okVs_mem ho.2 (List.mem_of_getElem? hy)
        have hty := okV_tag hoy
        rw [show 0 + j = j by omega] at hp hd
        rw [List.drop_eq_getElem_cons hjl, hjy] at hd
        simp only [diffB] at hq
        clear h2 h3 h5
        by_cases hs : ∃ z, y = .str z
        · obtain ⟨z, rfl⟩ := hs
          simp only [diffL] at hd
          simp [dSeq, dIfS, dAsg, dIf, dTest, dOp2, dOp1, dOpN, dVar, dC, dCons, dNil, dgName, dRet, dRetN, dDrop, dNext, dLst, dTup, startE, endsD, oI, oInt1, oInt2, oNeg, oIs, oDivmod, dAnd, dOr, dNot, dAndV, dOrV, dNotV, dgSub, dgTup, dgCons, dgNil, oSetL, dPar, dPar3, dFor, diRange1, diRange2, dLc, dCall, dBM, isT, dSl, dP, dNoP, oEq, dChain, oRepr, oIsi, oBools, retD_d, isTy, dDict0, dDict, dPairs, isFl, isFls, isPy, isPys, isPyKV, look_d, look_c, lookC_lst, lookC_dct, lookC_frz, itM_some, oIx_v, ixV_lst, ixV_tup, ixV_scr, ixV_str, oAdd_v, addV_int, addV_str, addV_tup, addV_lst, oMul_v, mulV_int, mulV_lst, oLen_v, lenV_str, lenV_lst, lenV_tup, lenV_scr, oSl_v, slV_str, slV_tup, slV_lst, oIn_v, inV_lst, inV_tup, inV_sign, diSeq_v, seqV_lst, seqV_tup, seqV_str, fixW_d, fixW_c, fixV_frz, fixV_lst, fixV_dct, fixAll_nil, fixAll_cons, gcS, gcK, fixEnv_nil, fixEnv_none, fixEnv_d, fixEnv_c, fixEnv_tp, fixEnv_dead, fixEnv_sl, poison_sl, fixC, poison, poisonC_lst, poisonC_dct, poisonC_frz, poisonC_obj, dropTo0, dropTo1, dropTo2, dropTo3, dropTo4, dropTo5, dropTo6, madeQ, dMake, dMeth, DL.isObj, dFld, fldW, dCon, dSetF, fixO, frzS, diDK, diDP, keepD, oIxD, oInD, oLenD, oListK, oSetD, oPopAt, oIsiT, oInS, oTupleOf, oListOf, sd_inj, refsC_pc, toLocC_pc, unLocC_pc, poisonC_pc, diEnumA, enumV_lst, enumV_tup, dFix, dRev, oClear, dLc2]
          rw [oIn_tup (ns := pre) (by rw [look_d, cut_take (by omega), hp])]
          by_cases hk : z ∈ m.map (·.1)
          · rw [decide_eq_true hk] at hd
            rw [if_neg fun e => getS_none.mp e hk]
            by_cases hb : z ∈ pre
            · rw [decide_eq_true hb] at hd ⊢
              simp at hd ⊢
              rw [hd] at hq
              rw [h1]
              simpa [dSeq, dIfS, dAsg, dIf, dTest, dOp2, dOp1, dOpN, dVar, dC, dCons, dNil, dgName, dRet, dRetN, dDrop, dNext, dLst, dTup, startE, endsD, oI, oInt1, oInt2, oNeg, oIs, oDivmod, dAnd, dOr, dNot, dAndV, dOrV, dNotV, dgSub, dgTup, dgCons, dgNil, oSetL, dPar, dPar3, dFor, diRange1, diRange2, dLc, dCall, dBM, isT, dSl, dP, dNoP, oEq, dChain, oRepr, oIsi, oBools, retD_d, isTy, dDict0, dDict, dPairs, isFl, isFls, isPy, isPys, isPyKV, look_d, look_c, lookC_lst, lookC_dct, lookC_frz, itM_some, oIx_v, ixV_lst, ixV_tup, ixV_scr, ixV_str, oAdd_v, addV_int, addV_str, addV_tup, addV_lst, oMul_v, mulV_int, mulV_lst, oLen_v, lenV_str, lenV_lst, lenV_tup, lenV_scr, oSl_v, slV_str, slV_tup, slV_lst, oIn_v, inV_lst, inV_tup, inV_sign, diSeq_v, seqV_lst, seqV_tup, seqV_str, fixW_d, fixW_c, fixV_frz, fixV_lst, fixV_dct, fixAll_nil, fixAll_cons, gcS, gcK, fixEnv_nil, fixEnv_none, fixEnv_d, fixEnv_c, fixEnv_tp, fixEnv_dead, fixEnv_sl, poison_sl, fixC, poison, poisonC_lst, poisonC_dct, poisonC_frz, poisonC_obj, dropTo0, dropTo1, dropTo2, dropTo3, dropTo4, dropTo5, dropTo6, madeQ, dMake, dMeth, DL.isObj, dFld, fldW, dCon, dSetF, fixO, frzS, diDK, diDP, keepD, oIxD, oInD, oLenD, oListK, oSetD, oPopAt, oIsiT, oInS, oTupleOf, oListOf, sd_inj, refsC_pc, toLocC_pc, unLocC_pc, poisonC_pc, diEnumA, enumV_lst, enumV_tup, dFix, dRev, oClear, dLc2] using hq
            · rw [decide_eq_false hb] at hd ⊢
              simp at hd ⊢
              refine h4 _ _ ⟨_, _, pre ++ [z], rfl, by simp [poisonC_dct, dropTo1], ?_, by rw [show 0 + j + 1 = j + 1 by omega]; exact hd⟩
              rw [show 0 + j + 1 = j + 1 by omega, List.take_add_one, hp, hy]
              simp
          · rw [decide_eq_false hk] at hd
            rw [if_pos (getS_none.mpr hk)]
            simp at hd
            rw [hd] at hq
            rw [h1]
            simpa [dSeq, dIfS, dAsg, dIf, dTest, dOp2, dOp1, dOpN, dVar, dC, dCons, dNil, dgName, dRet, dRetN, dDrop, dNext, dLst, dTup, startE, endsD, oI, oInt1, oInt2, oNeg, oIs, oDivmod, dAnd, dOr, dNot, dAndV, dOrV, dNotV, dgSub, dgTup, dgCons, dgNil, oSetL, dPar, dPar3, dFor, diRange1, diRange2, dLc, dCall, dBM, isT, dSl, dP, dNoP, oEq, dChain, oRepr, oIsi, oBools, retD_d, isTy, dDict0, dDict, dPairs, isFl, isFls, isPy, isPys, isPyKV, look_d, look_c, lookC_lst, lookC_dct, lookC_frz, itM_some, oIx_v, ixV_lst, ixV_tup, ixV_scr, ixV_str, oAdd_v, addV_int, addV_str, addV_tup, addV_lst, oMul_v, mulV_int, mulV_lst, oLen_v, lenV_str, lenV_lst, lenV_tup, lenV_scr, oSl_v, slV_str, slV_tup, slV_lst, oIn_v, inV_lst, inV_tup, inV_sign, diSeq_v, seqV_lst, seqV_tup, seqV_str, fixW_d, fixW_c, fixV_frz, fixV_lst, fixV_dct, fixAll_nil, fixAll_cons, gcS, gcK, fixEnv_nil, fixEnv_none, fixEnv_d, fixEnv_c, fixEnv_tp, fixEnv_dead, fixEnv_sl, poison_sl, fixC, poison, poisonC_lst, poisonC_dct, poisonC_frz, poisonC_obj, dropTo0, dropTo1, dropTo2, dropTo3, dropTo4, dropTo5, dropTo6, madeQ, dMake, dMeth, DL.isObj, dFld, fldW, dCon, dSetF, fixO, frzS, diDK, diDP, keepD, oIxD, oInD, oLenD, oListK, oSetD, oPopAt, oIsiT, oInS, oTupleOf, oListOf, sd_inj, refsC_pc, toLocC_pc, unLocC_pc, poisonC_pc, diEnumA, enumV_lst, enumV_tup, dFix, dRev, oClear, dLc2] using hq
        · have hs' : ∀ z, y ≠ .str z := fun z e => hs ⟨z, e⟩
          rw [diffL_nostr hs'] at hd
          rw [hd] at hq
          cases y with
          | str z => exact absurd rfl (hs' z)
          | obj c fs => simp [okV] at hoy
          | oth v => simp [okV] at hoy
          | _ =>
            simp [dSeq, dIfS, dAsg, dIf, dTest, dOp2, dOp1, dOpN, dVar, dC, dCons, dNil, dgName, dRet, dRetN, dDrop, dNext, dLst, dTup, startE, endsD, oI, oInt1, oInt2, oNeg, oIs, oDivmod, dAnd, dOr, dNot, dAndV, dOrV, dNotV, dgSub, dgTup, dgCons, dgNil, oSetL, dPar, dPar3, dFor, diRange1, diRange2, dLc, dCall, dBM, isT, dSl, dP, dNoP, oEq, dChain, oRepr, oIsi, oBools, retD_d, isTy, dDict0, dDict, dPairs, isFl, isFls, isPy, isPys, isPyKV, look_d, look_c, lookC_lst, lookC_dct, lookC_frz, itM_some, oIx_v, ixV_lst, ixV_tup, ixV_scr, ixV_str, oAdd_v, addV_int, addV_str, addV_tup, addV_lst, oMul_v, mulV_int, mulV_lst, oLen_v, lenV_str, lenV_lst, lenV_tup, lenV_scr, oSl_v, slV_str, slV_tup, slV_lst, oIn_v, inV_lst, inV_tup, inV_sign, diSeq_v, seqV_lst, seqV_tup, seqV_str, fixW_d, fixW_c, fixV_frz, fixV_lst, fixV_dct, fixAll_nil, fixAll_cons, gcS, gcK, fixEnv_nil, fixEnv_none, fixEnv_d, fixEnv_c, fixEnv_tp, fixEnv_dead, fixEnv_sl, poison_sl, fixC, poison, poisonC_lst, poisonC_dct, poisonC_frz, poisonC_obj, dropTo0, dropTo1, dropTo2, dropTo3, dropTo4, dropTo5, dropTo6, madeQ, dMake, dMeth, DL.isObj, dFld, fldW, dCon, dSetF, fixO, frzS, diDK, diDP, keepD, oIxD, oInD, oLenD, oListK, oSetD, oPopAt, oIsiT, oInS, oTupleOf, oListOf, sd_inj, refsC_pc, toLocC_pc, unLocC_pc, poisonC_pc, diEnumA, enumV_lst, enumV_tup, dFix, dRev, oClear, dLc2]
            rw [h1]
            simpa [dSeq, dIfS, dAsg, dIf, dTest, dOp2, dOp1, dOpN, dVar, dC, dCons, dNil, dgName, dRet, dRetN, dDrop, dNext, dLst, dTup, startE, endsD, oI, oInt1, oInt2, oNeg, oIs, oDivmod, dAnd, dOr, dNot, dAndV, dOrV, dNotV, dgSub, dgTup, dgCons, dgNil, oSetL, dPar, dPar3, dFor, diRange1, diRange2, dLc, dCall, dBM, isT, dSl, dP, dNoP, oEq, dChain, oRepr, oIsi, oBools, retD_d, isTy, dDict0, dDict, dPairs, isFl, isFls, isPy, isPys, isPyKV, look_d, look_c, lookC_lst, lookC_dct, lookC_frz, itM_some, oIx_v, ixV_lst, ixV_tup, ixV_scr, ixV_str, oAdd_v, addV_int, addV_str, addV_tup, addV_lst, oMul_v, mulV_int, mulV_lst, oLen_v, lenV_str, lenV_lst, lenV_tup, lenV_scr, oSl_v, slV_str, slV_tup, slV_lst, oIn_v, inV_lst, inV_tup, inV_sign, diSeq_v, seqV_lst, seqV_tup, seqV_str, fixW_d, fixW_c, fixV_frz, fixV_lst, fixV_dct, fixAll_nil, fixAll_cons, gcS, gcK, fixEnv_nil, fixEnv_none, fixEnv_d, fixEnv_c, fixEnv_tp, fixEnv_dead, fixEnv_sl, poison_sl, fixC, poison, poisonC_lst, poisonC_dct, poisonC_frz, poisonC_obj, dropTo0, dropTo1, dropTo2, dropTo3, dropTo4, dropTo5, dropTo6, madeQ, dMake, dMeth, DL.isObj, dFld, fldW, dCon, dSetF, fixO, frzS, diDK, diDP, keepD, oIxD, oInD, oLenD, oListK, oSetD, oPopAt, oIsiT, oInS, oTupleOf, oListOf, sd_inj, refsC_pc, toLocC_pc, unLocC_pc, poisonC_pc, diEnumA, enumV_lst, enumV_tup, dFix, dRev, oClear, dLc2] using hq
      · obtain ⟨a, b, pre, rfl, rfl, hp, hd⟩ := hJ
        simp [dSeq, dIfS, dAsg, dIf, dTest, dOp2, dOp1, dOpN, dVar, dC, dCons, dNil, dgName, dRet, dRetN, dDrop, dNext, dLst, dTup, startE, endsD, oI, oInt1, oInt2, oNeg, oIs, oDivmod, dAnd, dOr, dNot, dAndV, dOrV, dNotV, dgSub, dgTup, dgCons, dgNil, oSetL, dPar, dPar3, dFor, diRange1, diRange2, dLc, dCall, dBM, isT, dSl, dP, dNoP, oEq, dChain, oRepr, oIsi, oBools, retD_d, isTy, dDict0, dDict, dPairs, isFl, isFls, isPy, isPys, isPyKV, look_d, look_c, lookC_lst, lookC_dct, lookC_frz, itM_some, oIx_v, ixV_lst, ixV_tup, ixV_scr, ixV_str, oAdd_v, addV_int, addV_str, addV_tup, addV_lst, oMul_v, mulV_int, mulV_lst, oLen_v, lenV_str, lenV_lst, lenV_tup, lenV_scr, oSl_v, slV_str, slV_tup, slV_lst, oIn_v, inV_lst, inV_tup, inV_sign, diSeq_v, seqV_lst, seqV_tup, seqV_str, fixW_d, fixW_c, fixV_frz, fixV_lst, fixV_dct, fixAll_nil, fixAll_cons, gcS, gcK, fixEnv_nil, fixEnv_none, fixEnv_d, fixEnv_c, fixEnv_tp, fixEnv_dead, fixEnv_sl, poison_sl, fixC, poison, poisonC_lst, poisonC_dct, poisonC_frz, poisonC_obj, dropTo0, dropTo1, dropTo2, dropTo3, dropTo4, dropTo5, dropTo6, madeQ, dMake, dMeth, DL.isObj, dFld, fldW, dCon, dSetF, fixO, frzS, diDK, diDP, keepD, oIxD, oInD, oLenD, oListK, oSetD, oPopAt, oIsiT, oInS, oTupleOf, oListOf, sd_inj, refsC_pc, toLocC_pc, unLocC_pc, poisonC_pc, diEnumA, enumV_lst, enumV_tup, dFix, dRev, oClear, dLc2]
        simp [diffB, hd, pairUp_length, diffL] at hq
        exact hq
    | obj c fs => simp [okV] at ho
    | oth v => simp [okV] at ho
    | _ =>
      simp [dSeq, dIfS, dAsg, dIf, dTest, dOp2, dOp1, dOpN, dVar, dC, dCons, dNil, dgName, dRet, dRetN, dDrop, dNext, dLst, dTup, startE, endsD, oI, oInt1, oInt2, oNeg, oIs, oDivmod, dAnd, dOr, dNot, dAndV, dOrV, dNotV, dgSub, dgTup, dgCons, dgNil, oSetL, dPar, dPar3, dFor, diRange1, diRange2, dLc, dCall, dBM, isT, dSl, dP, dNoP, oEq, dChain, oRepr, oIsi, oBools, retD_d, isTy, dDict0, dDict, dPairs, isFl, isFls, isPy, isPys, isPyKV, look_d, look_c, lookC_lst, lookC_dct, lookC_frz, itM_some, oIx_v, ixV_lst, ixV_tup, ixV_scr, ixV_str, oAdd_v, addV_int, addV_str, addV_tup, addV_lst, oMul_v, mulV_int, mulV_lst, oLen_v, lenV_str, lenV_lst, lenV_tup, lenV_scr, oSl_v, slV_str, slV_tup, slV_lst, oIn_v, inV_lst, inV_tup, inV_sign, diSeq_v, seqV_lst, seqV_tup, seqV_str, fixW_d, fixW_c, fixV_frz, fixV_lst, fixV_dct, fixAll_nil, fixAll_cons, gcS, gcK, fixEnv_nil, fixEnv_none, fixEnv_d, fixEnv_c, fixEnv_tp, fixEnv_dead, fixEnv_sl, poison_sl, fixC, poison, poisonC_lst, poisonC_dct, poisonC_frz, poisonC_obj, dropTo0, dropTo1, dropTo2, dropTo3, dropTo4, dropTo5, dropTo6, madeQ, dMake, dMeth, DL.isObj, dFld, fldW, dCon, dSetF, fixO, frzS, diDK, diDP, keepD, oIxD, oInD, oLenD, oListK, oSetD, oPopAt, oIsiT, oInS, oTupleOf, oListOf, sd_inj, refsC_pc, toLocC_pc, unLocC_pc, poisonC_pc, diEnumA, enumV_lst, enumV_tup, dFix, dRev, oClear, dLc2, t_are_different_classes]
      simpa [diffB] using hq
  · cases x with
    | tup xs =>
      simp [okV] at ho
      simp [dSeq, dIfS, dAsg, dIf, dTest, dOp2, dOp1, dOpN, dVar, dC, dCons, dNil, dgName, dRet, dRetN, dDrop, dNext, dLst, dTup, startE, endsD, oI, oInt1, oInt2, oNeg, oIs, oDivmod, dAnd, dOr, dNot, dAndV, dOrV, dNotV, dgSub, dgTup, dgCons, dgNil, oSetL, dPar, dPar3, dFor, diRange1, diRange2, dLc, dCall, dBM, isT, dSl, dP, dNoP, oEq, dChain, oRepr, oIsi, oBools, retD_d, isTy, dDict0, dDict, dPairs, isFl, isFls, isPy, isPys, isPyKV, look_d, look_c, lookC_lst, lookC_dct, lookC_frz, itM_some, oIx_v, ixV_lst, ixV_tup, ixV_scr, ixV_str, oAdd_v, addV_int, addV_str, addV_tup, addV_lst, oMul_v, mulV_int, mulV_lst, oLen_v, lenV_str, lenV_lst, lenV_tup, lenV_scr, oSl_v, slV_str, slV_tup, slV_lst, oIn_v, inV_lst, inV_tup, inV_sign, diSeq_v, seqV_lst, seqV_tup, seqV_str, fixW_d, fixW_c, fixV_frz, fixV_lst, fixV_dct, fixAll_nil, fixAll_cons, gcS, gcK, fixEnv_nil, fixEnv_none, fixEnv_d, fixEnv_c, fixEnv_tp, fixEnv_dead, fixEnv_sl, poison_sl, fixC, poison, poisonC_lst, poisonC_dct, poisonC_frz, poisonC_obj, dropTo0, dropTo1, dropTo2, dropTo3, dropTo4, dropTo5, dropTo6, madeQ, dMake, dMeth, DL.isObj, dFld, fldW, dCon, dSetF, fixO, frzS, diDK, diDP, keepD, oIxD, oInD, oLenD, oListK, oSetD, oPopAt, oIsiT, oInS, oTupleOf, oListOf, sd_inj, refsC_pc, toLocC_pc, unLocC_pc, poisonC_pc, diEnumA, enumV_lst, enumV_tup, dFix, dRev, oClear, dLc2, t_are_different_classes]
      refine forD_inv (fun i env c => ∃ a b, ∃ pre : List Str, env = [some (.d (.tup xs)), some (.d (.dct (sd m))), a, b] ∧ c = [] ∧ xs.take i = pre.map .str ∧ diffL (m.map (·.1)) xs [] = diffL (m.map (·.1)) (xs.drop i) pre) (fun _ _ _ _ => True.intro) _ 0 _ _ ⟨_, _, [], rfl, rfl, rfl, rfl⟩ (fun j x hx env c hJ D' h1 h2 h3 h4 h5 => ?_) fun env c hJ => ?_
      · obtain ⟨a, b, pre, rfl, rfl, hp, hd⟩ := hJ
        rw [pairUp_get] at hx
        have hx : ∃ y, xs[j]? = some y ∧ x = .tp [.int (j : Nat), y] := by
          cases e : xs[j]? with
          | none => simp [e] at hx
          | some y => simp [e] at hx; exact ⟨y, rfl, hx.symm⟩
        obtain ⟨y, hy, rfl⟩ := hx
        obtain ⟨hjl, hjy⟩ := List.getElem?_eq_some_iff.mp hy
        have hoy := okVs_mem ho.2 (List.mem_of_getElem? hy)
        have hty := okV_tag hoy
        rw [show 0 + j = j by omega] at hp hd
        rw [List.drop_eq_getElem_cons hjl, hjy] at hd
        simp only [diffB] at hq
        clear h2 h3 h5
        by_cases hs : ∃ z, y = .str z
        · obtain ⟨z, rfl⟩ := hs
          simp only [diffL] at hd
          simp [dSeq, dIfS, dAsg, dIf, dTest, dOp2, dOp1, dOpN, dVar, dC, dCons, dNil, dgName, dRet, dRetN, dDrop, dNext, dLst, dTup, startE, endsD, oI, oInt1, oInt2, oNeg, oIs, oDivmod, dAnd, dOr, dNot, dAndV, dOrV, dNotV, dgSub, dgTup, dgCons, dgNil, oSetL, dPar, dPar3, dFor, diRange1, diRange2, dLc, dCall, dBM, isT, dSl, dP, dNoP, oEq, dChain, oRepr, oIsi, oBools, retD_d, isTy, dDict0, dDict, dPairs, isFl, isFls, isPy, isPys, isPyKV, look_d, look_c, lookC_lst, lookC_dct, lookC_frz, itM_some, oIx_v, ixV_lst, ixV_tup, ixV_scr, ixV_str, oAdd_v, addV_int, addV_str, addV_tup, addV_lst, oMul_v, mulV_int, mulV_lst, oLen_v, lenV_str, lenV_lst, lenV_tup, lenV_scr, oSl_v, slV_str, slV_tup, slV_lst, oIn_v, inV_lst, inV_tup, inV_sign, diSeq_v, seqV_lst, seqV_tup, seqV_str, fixW_d, fixW_c, fixV_frz, fixV_lst, fixV_dct, fixAll_nil, fixAll_cons, gcS, gcK, fixEnv_nil, fixEnv_none, fixEnv_d, fixEnv_c, fixEnv_tp, fixEnv_dead, fixEnv_sl, poison_sl, fixC, poison, poisonC_lst, poisonC_dct, poisonC_frz, poisonC_obj, dropTo0, dropTo1, dropTo2, dropTo3, dropTo4, dropTo5, dropTo6, madeQ, dMake, dMeth, DL.isObj, dFld, fldW, dCon, dSetF, fixO, frzS, diDK, diDP, keepD, oIxD, oInD, oLenD, oListK, oSetD, oPopAt, oIsiT, oInS, oTupleOf, oListOf, sd_inj, refsC_pc, toLocC_pc, unLocC_pc, poisonC_pc, diEnumA, enumV_lst, enumV_tup, dFix, dRev, oClear, dLc2]
          rw [oIn_tup (ns := pre) (by rw [look_d, cut_take (by omega), hp])]
          by_cases hk : z ∈ m.map (·.1)
          · rw [decide_eq_true hk] at hd
            rw [if_neg fun e => getS_none.mp e hk]
            by_cases hb : z ∈ pre
            · rw [decide_eq_true hb] at hd ⊢
              simp at hd ⊢
              rw [hd] at hq
              rw [h1]
              simpa [dSeq, dIfS, dAsg, dIf, dTest, dOp2, dOp1, dOpN, dVar, dC, dCons, dNil, dgName, dRet, dRetN, dDrop, dNext, dLst, dTup, startE, endsD, oI, oInt1, oInt2, oNeg, oIs, oDivmod, dAnd, dOr, dNot, dAndV, dOrV, dNotV, dgSub, dgTup, dgCons, dgNil, oSetL, dPar, dPar3, dFor, diRange1, diRange2, dLc, dCall, dBM, isT, dSl, dP, dNoP, oEq, dChain, oRepr, oIsi, oBools, retD_d, isTy, dDict0, dDict, dPairs, isFl, isFls, isPy, isPys, isPyKV, look_d, look_c, lookC_lst, lookC_dct, lookC_frz, itM_some, oIx_v, ixV_lst, ixV_tup, ixV_scr, ixV_str, oAdd_v, addV_int, addV_str, addV_tup, addV_lst, oMul_v, mulV_int, mulV_lst, oLen_v, lenV_str, lenV_lst, lenV_tup, lenV_scr, oSl_v, slV_str, slV_tup, slV_lst, oIn_v, inV_lst, inV_tup, inV_sign, diSeq_v, seqV_lst, seqV_tup, seqV_str, fixW_d, fixW_c, fixV_frz, fixV_lst, fixV_dct, fixAll_nil, fixAll_cons, gcS, gcK, fixEnv_nil, fixEnv_none, fixEnv_d, fixEnv_c, fixEnv_tp, fixEnv_dead, fixEnv_sl, poison_sl, fixC, poison, poisonC_lst, poisonC_dct, poisonC_frz, poisonC_obj, dropTo0, dropTo1, dropTo2, dropTo3, dropTo4, dropTo5, dropTo6, madeQ, dMake, dMeth, DL.isObj, dFld, fldW, dCon, dSetF, fixO, frzS, diDK, diDP, keepD, oIxD, oInD, oLenD, oListK, oSetD, oPopAt, oIsiT, oInS, oTupleOf, oListOf, sd_inj, refsC_pc, toLocC_pc, unLocC_pc, poisonC_pc, diEnumA, enumV_lst, enumV_tup, dFix, dRev, oClear, dLc2] using hq
            · rw [decide_eq_false hb] at hd ⊢
              simp at hd ⊢
              refine h4 _ _ ⟨_, _, pre ++ [z], rfl, rfl, ?_, by rw [show 0 + j + 1 = j + 1 by omega]; exact hd⟩
              rw [show 0 + j + 1 = j + 1 by omega, List.take_add_one, hp, hy]
              simp
          · rw [decide_eq_false hk] at hd
            rw [if_pos (getS_none.mpr hk)]
            simp at hd
            rw [hd] at hq
            rw [h1]
            simpa [dSeq, dIfS, dAsg, dIf, dTest, dOp2, dOp1, dOpN, dVar, dC, dCons, dNil, dgName, dRet, dRetN, dDrop, dNext, dLst, dTup, startE, endsD, oI, oInt1, oInt2, oNeg, oIs, oDivmod, dAnd, dOr, dNot, dAndV, dOrV, dNotV, dgSub, dgTup, dgCons, dgNil, oSetL, dPar, dPar3, dFor, diRange1, diRange2, dLc, dCall, dBM, isT, dSl, dP, dNoP, oEq, dChain, oRepr, oIsi, oBools, retD_d, isTy, dDict0, dDict, dPairs, isFl, isFls, isPy, isPys, isPyKV, look_d, look_c, lookC_lst, lookC_dct, lookC_frz, itM_some, oIx_v, ixV_lst, ixV_tup, ixV_scr, ixV_str, oAdd_v, addV_int, addV_str, addV_tup, addV_lst, oMul_v, mulV_int, mulV_lst, oLen_v, lenV_str, lenV_lst, lenV_tup, lenV_scr, oSl_v, slV_str, slV_tup, slV_lst, oIn_v, inV_lst, inV_tup, inV_sign, diSeq_v, seqV_lst, seqV_tup, seqV_str, fixW_d, fixW_c, fixV_frz, fixV_lst, fixV_dct, fixAll_nil, fixAll_cons, gcS, gcK, fixEnv_nil, fixEnv_none, fixEnv_d, fixEnv_c, fixEnv_tp, fixEnv_dead, fixEnv_sl, poison_sl, fixC, poison, poisonC_lst, poisonC_dct, poisonC_frz, poisonC_obj, dropTo0, dropTo1, dropTo2, dropTo3, dropTo4, dropTo5, dropTo6, madeQ, dMake, dMeth, DL.isObj, dFld, fldW, dCon, dSetF, fixO, frzS, diDK, diDP, keepD, oIxD, oInD, oLenD, oListK, oSetD, oPopAt, oIsiT, oInS, oTupleOf, oListOf, sd_inj, refsC_pc, toLocC_pc, unLocC_pc, poisonC_pc, diEnumA, enumV_lst, enumV_tup, dFix, dRev, oClear, dLc2] using hq
        · have hs' : ∀ z, y ≠ .str z := fun z e => hs ⟨z, e⟩
          rw [diffL_nostr hs'] at hd
          rw [hd] at hq
          cases y with
          | str z => exact absurd rfl (hs' z)
          | obj c fs => simp [okV] at hoy
          | oth v => simp [okV] at hoy
          | _ =>
            simp [dSeq, dIfS, dAsg, dIf, dTest, dOp2, dOp1, dOpN, dVar, dC, dCons, dNil, dgName, dRet, dRetN, dDrop, dNext, dLst, dTup, startE, endsD, oI, oInt1, oInt2, oNeg, oIs, oDivmod, dAnd, dOr, dNot, dAndV, dOrV, dNotV, dgSub, dgTup, dgCons, dgNil, oSetL, dPar, dPar3, dFor, diRange1, diRange2, dLc, dCall, dBM, isT, dSl, dP, dNoP, oEq, dChain, oRepr, oIsi, oBools, retD_d, isTy, dDict0, dDict, dPairs, isFl, isFls, isPy, isPys, isPyKV, look_d, look_c, lookC_lst, lookC_dct, lookC_frz, itM_some, oIx_v, ixV_lst, ixV_tup, ixV_scr, ixV_str, oAdd_v, addV_int, addV_str, addV_tup, addV_lst, oMul_v, mulV_int, mulV_lst, oLen_v, lenV_str, lenV_lst, lenV_tup, lenV_scr, oSl_v, slV_str, slV_tup, slV_lst, oIn_v, inV_lst, inV_tup, inV_sign, diSeq_v, seqV_lst, seqV_tup, seqV_str, fixW_d, fixW_c, fixV_frz, fixV_lst, fixV_dct, fixAll_nil, fixAll_cons, gcS, gcK, fixEnv_nil, fixEnv_none, fixEnv_d, fixEnv_c, fixEnv_tp, fixEnv_dead, fixEnv_sl, poison_sl, fixC, poison, poisonC_lst, poisonC_dct, poisonC_frz, poisonC_obj, dropTo0, dropTo1, dropTo2, dropTo3, dropTo4, dropTo5, dropTo6, madeQ, dMake, dMeth, DL.isObj, dFld, fldW, dCon, dSetF, fixO, frzS, diDK, diDP, keepD, oIxD, oInD, oLenD, oListK, oSetD, oPopAt, oIsiT, oInS, oTupleOf, oListOf, sd_inj, refsC_pc, toLocC_pc, unLocC_pc, poisonC_pc, diEnumA, enumV_lst, enumV_tup, dFix, dRev, oClear, dLc2]
            rw [h1]
            simpa [dSeq, dIfS, dAsg, dIf, dTest, dOp2, dOp1, dOpN, dVar, dC, dCons, dNil, dgName, dRet, dRetN, dDrop, dNext, dLst, dTup, startE, endsD, oI, oInt1, oInt2, oNeg, oIs, oDivmod, dAnd, dOr, dNot, dAndV, dOrV, dNotV, dgSub, dgTup, dgCons, dgNil, oSetL, dPar, dPar3, dFor, diRange1, diRange2, dLc, dCall, dBM, isT, dSl, dP, dNoP, oEq, dChain, oRepr, oIsi, oBools, retD_d, isTy, dDict0, dDict, dPairs, isFl, isFls, isPy, isPys, isPyKV, look_d, look_c, lookC_lst, lookC_dct, lookC_frz, itM_some, oIx_v, ixV_lst, ixV_tup, ixV_scr, ixV_str, oAdd_v, addV_int, addV_str, addV_tup, addV_lst, oMul_v, mulV_int, mulV_lst, oLen_v, lenV_str, lenV_lst, lenV_tup, lenV_scr, oSl_v, slV_str, slV_tup, slV_lst, oIn_v, inV_lst, inV_tup, inV_sign, diSeq_v, seqV_lst, seqV_tup, seqV_str, fixW_d, fixW_c, fixV_frz, fixV_lst, fixV_dct, fixAll_nil, fixAll_cons, gcS, gcK, fixEnv_nil, fixEnv_none, fixEnv_d, fixEnv_c, fixEnv_tp, fixEnv_dead, fixEnv_sl, poison_sl, fixC, poison, poisonC_lst, poisonC_dct, poisonC_frz, poisonC_obj, dropTo0, dropTo1, dropTo2, dropTo3, dropTo4, dropTo5, dropTo6, madeQ, dMake, dMeth, DL.isObj, dFld, fldW, dCon, dSetF, fixO, frzS, diDK, diDP, keepD, oIxD, oInD, oLenD, oListK, oSetD, oPopAt, oIsiT, oInS, oTupleOf, oListOf, sd_inj, refsC_pc, toLocC_pc, unLocC_pc, poisonC_pc, diEnumA, enumV_lst, enumV_tup, dFix, dRev, oClear, dLc2] using hq
      · obtain ⟨a, b, pre, rfl, rfl, hp, hd⟩ := hJ
        simp [dSeq, dIfS, dAsg, dIf, dTest, dOp2, dOp1, dOpN, dVar, dC, dCons, dNil, dgName, dRet, dRetN, dDrop, dNext, dLst, dTup, startE, endsD, oI, oInt1, oInt2, oNeg, oIs, oDivmod, dAnd, dOr, dNot, dAndV, dOrV, dNotV, dgSub, dgTup, dgCons, dgNil, oSetL, dPar, dPar3, dFor, diRange1, diRange2, dLc, dCall, dBM, isT, dSl, dP, dNoP, oEq, dChain, oRepr, oIsi, oBools, retD_d, isTy, dDict0, dDict, dPairs, isFl, isFls, isPy, isPys, isPyKV, look_d, look_c, lookC_lst, lookC_dct, lookC_frz, itM_some, oIx_v, ixV_lst, ixV_tup, ixV_scr, ixV_str, oAdd_v, addV_int, addV_str, addV_tup, addV_lst, oMul_v, mulV_int, mulV_lst, oLen_v, lenV_str, lenV_lst, lenV_tup, lenV_scr, oSl_v, slV_str, slV_tup, slV_lst, oIn_v, inV_lst, inV_tup, inV_sign, diSeq_v, seqV_lst, seqV_tup, seqV_str, fixW_d, fixW_c, fixV_frz, fixV_lst, fixV_dct, fixAll_nil, fixAll_cons, gcS, gcK, fixEnv_nil, fixEnv_none, fixEnv_d, fixEnv_c, fixEnv_tp, fixEnv_dead, fixEnv_sl, poison_sl, fixC, poison, poisonC_lst, poisonC_dct, poisonC_frz, poisonC_obj, dropTo0, dropTo1, dropTo2, dropTo3, dropTo4, dropTo5, dropTo6, madeQ, dMake, dMeth, DL.isObj, dFld, fldW, dCon, dSetF, fixO, frzS, diDK, diDP, keepD, oIxD, oInD, oLenD, oListK, oSetD, oPopAt, oIsiT, oInS, oTupleOf, oListOf, sd_inj, refsC_pc, toLocC_pc, unLocC_pc, poisonC_pc, diEnumA, enumV_lst, enumV_tup, dFix, dRev, oClear, dLc2]
        simp [diffB, hd, pairUp_length, diffL] at hq
        exact hq
    | obj c fs => simp [okV] at ho
    | oth v => simp [okV] at ho
    | _ =>
      simp [dSeq, dIfS, dAsg, dIf, dTest, dOp2, dOp1, dOpN, dVar, dC, dCons, dNil, dgName, dRet, dRetN, dDrop, dNext, dLst, dTup, startE, endsD, oI, oInt1, oInt2, oNeg, oIs, oDivmod, dAnd, dOr, dNot, dAndV, dOrV, dNotV, dgSub, dgTup, dgCons, dgNil, oSetL, dPar, dPar3, dFor, diRange1, diRange2, dLc, dCall, dBM, isT, dSl, dP, dNoP, oEq, dChain, oRepr, oIsi, oBools, retD_d, isTy, dDict0, dDict, dPairs, isFl, isFls, isPy, isPys, isPyKV, look_d, look_c, lookC_lst, lookC_dct, lookC_frz, itM_some, oIx_v, ixV_lst, ixV_tup, ixV_scr, ixV_str, oAdd_v, addV_int, addV_str, addV_tup, addV_lst, oMul_v, mulV_int, mulV_lst, oLen_v, lenV_str, lenV_lst, lenV_tup, lenV_scr, oSl_v, slV_str, slV_tup, slV_lst, oIn_v, inV_lst, inV_tup, inV_sign, diSeq_v, seqV_lst, seqV_tup, seqV_str, fixW_d, fixW_c, fixV_frz, fixV_lst, fixV_dct, fixAll_nil, fixAll_cons, gcS, gcK, fixEnv_nil, fixEnv_none, fixEnv_d, fixEnv_c, fixEnv_tp, fixEnv_dead, fixEnv_sl, poison_sl, fixC, poison, poisonC_lst, poisonC_dct, poisonC_frz, poisonC_obj, dropTo0, dropTo1, dropTo2, dropTo3, dropTo4, dropTo5, dropTo6, madeQ, dMake, dMeth, DL.isObj, dFld, fldW, dCon, dSetF, fixO, frzS, diDK, diDP, keepD, oIxD, oInD, oLenD, oListK, oSetD, oPopAt, oIsiT, oInS, oTupleOf, oListOf, sd_inj, refsC_pc, toLocC_pc, unLocC_pc, poisonC_pc, diEnumA, enumV_lst, enumV_tup, dFix, dRev, oClear, dLc2, t_are_different_classes]
      simpa [diffB] using hq
end DH
namespace DH
open PySem PySem.Spec L2 DL
theorem isn0 {x : D} {cs : Cs} {Q : DQ} {E : DX} (ho : okV x = true) (h : Q (.d (.bl (nm x))) cs) : sp_is_name [.d x] cs Q E := by
  simp [sp_is_name, loc, locAt, locJ, namesOf, refsC_pc, refsC_lst, refsC_dct, refsC_frz, toLocC_pc, toLocC_lst, toLocC_dct, toLocC_frz, unLocC_pc, unLocC_lst, unLocC_dct, unLocC_frz, getCs, inJ, toLoc, unLoc, putC, sl_is_name]
  exact ⟨ho, h⟩
theorem are0 {x : D} {m : List (Str × D)} {o : Obj} {g : Cs} {Q : DQ} {E : DX} (ho : okV x = true) (h : Q (.d (.bl (diffB (m.map (·.1)) x))) (.dct (sd m) o :: g)) : sp_are_different_classes [.d x, .c 0] (.dct (sd m) o :: g) Q E := by
  simp [sp_are_different_classes, loc, locAt, locJ, namesOf, refsC_pc, refsC_lst, refsC_dct, refsC_frz, toLocC_pc, toLocC_lst, toLocC_dct, toLocC_frz, unLocC_pc, unLocC_lst, unLocC_dct, unLocC_frz, getCs, inJ, toLoc, unLoc, putC, sl_are_different_classes]
  exact ⟨x, .c 0, ⟨rfl, rfl⟩, m, .inl ⟨rfl, o, rfl⟩, ho, by simpa using h⟩
theorem areD {x : D} {m : List (Str × D)} {g : Cs} {Q : DQ} {E : DX} (ho : okV x = true) (h : Q (.d (.bl (diffB (m.map (·.1)) x))) g) : sp_are_different_classes [.d x, .d (.dct (sd m))] g Q E := by
  simp [sp_are_different_classes, loc, locAt, locJ, namesOf, refsC_pc, refsC_lst, refsC_dct, refsC_frz, toLocC_pc, toLocC_lst, toLocC_dct, toLocC_frz, unLocC_pc, unLocC_lst, unLocC_dct, unLocC_frz, getCs, inJ, toLoc, unLoc, putC, sl_are_different_classes]
  exact ⟨x, .d (.dct (sd m)), ⟨rfl, rfl⟩, m, .inr ⟨rfl, rfl⟩, ho, by simpa using h⟩
theorem p_element_problem : ∀ ws cs Q E, sl_element_problem ws cs Q E → t_element_problem (endsD cs.length Q E) (startE N_element_problem ws) cs := by
  rintro ws cs Q E ⟨x, w, m, rfl, hat, ho, hq⟩
  rcases hat with ⟨rfl, o, rfl⟩ | ⟨rfl, rfl⟩
  · cases x with
    | tup xs =>
      match xs with
      | [] => 
        simp [dSeq, dIfS, dAsg, dIf, dTest, dOp2, dOp1, dOpN, dVar, dC, dCons, dNil, dgName, dRet, dRetN, dDrop, dNext, dLst, dTup, startE, endsD, oI, oInt1, oInt2, oNeg, oIs, oDivmod, dAnd, dOr, dNot, dAndV, dOrV, dNotV, dgSub, dgTup, dgCons, dgNil, oSetL, dPar, dPar3, dFor, diRange1, diRange2, dLc, dCall, dBM, isT, dSl, dP, dNoP, oEq, dChain, oRepr, oIsi, oBools, retD_d, isTy, dDict0, dDict, dPairs, isFl, isFls, isPy, isPys, isPyKV, look_d, look_c, lookC_lst, lookC_dct, lookC_frz, itM_some, oIx_v, ixV_lst, ixV_tup, ixV_scr, ixV_str, oAdd_v, addV_int, addV_str, addV_tup, addV_lst, oMul_v, mulV_int, mulV_lst, oLen_v, lenV_str, lenV_lst, lenV_tup, lenV_scr, oSl_v, slV_str, slV_tup, slV_lst, oIn_v, inV_lst, inV_tup, inV_sign, diSeq_v, seqV_lst, seqV_tup, seqV_str, fixW_d, fixW_c, fixV_frz, fixV_lst, fixV_dct, fixAll_nil, fixAll_cons, gcS, gcK, fixEnv_nil, fixEnv_none, fixEnv_d, fixEnv_c, fixEnv_tp, fixEnv_dead, fixEnv_sl, poison_sl, fixC, poison, poisonC_lst, poisonC_dct, poisonC_frz, poisonC_obj, dropTo0, dropTo1, dropTo2, dropTo3, dropTo4, dropTo5, dropTo6, madeQ, dMake, dMeth, DL.isObj, dFld, fldW, dCon, dSetF, fixO, frzS, diDK, diDP, keepD, oIxD, oInD, oLenD, oListK, oSetD, oPopAt, oIsiT, oInS, oTupleOf, oListOf, sd_inj, refsC_pc, toLocC_pc, unLocC_pc, poisonC_pc, diEnumA, enumV_lst, enumV_tup, dFix, dRev, oClear, dLc2, t_element_problem]
        simpa [elemP] using hq
      | [a] =>
        simp [dSeq, dIfS, dAsg, dIf, dTest, dOp2, dOp1, dOpN, dVar, dC, dCons, dNil, dgName, dRet, dRetN, dDrop, dNext, dLst, dTup, startE, endsD, oI, oInt1, oInt2, oNeg, oIs, oDivmod, dAnd, dOr, dNot, dAndV, dOrV, dNotV, dgSub, dgTup, dgCons, dgNil, oSetL, dPar, dPar3, dFor, diRange1, diRange2, dLc, dCall, dBM, isT, dSl, dP, dNoP, oEq, dChain, oRepr, oIsi, oBools, retD_d, isTy, dDict0, dDict, dPairs, isFl, isFls, isPy, isPys, isPyKV, look_d, look_c, lookC_lst, lookC_dct, lookC_frz, itM_some, oIx_v, ixV_lst, ixV_tup, ixV_scr, ixV_str, oAdd_v, addV_int, addV_str, addV_tup, addV_lst, oMul_v, mulV_int, mulV_lst, oLen_v, lenV_str, lenV_lst, lenV_tup, lenV_scr, oSl_v, slV_str, slV_tup, slV_lst, oIn_v, inV_lst, inV_tup, inV_sign, diSeq_v, seqV_lst, seqV_tup, seqV_str, fixW_d, fixW_c, fixV_frz, fixV_lst, fixV_dct, fixAll_nil, fixAll_cons, gcS, gcK, fixEnv_nil, fixEnv_none, fixEnv_d, fixEnv_c, fixEnv_tp, fixEnv_dead, fixEnv_sl, poison_sl, fixC, poison, poisonC_lst, poisonC_dct, poisonC_frz, poisonC_obj, dropTo0, dropTo1, dropTo2, dropTo3, dropTo4, dropTo5, dropTo6, madeQ, dMake, dMeth, DL.isObj, dFld, fldW, dCon, dSetF, fixO, frzS, diDK, diDP, keepD, oIxD, oInD, oLenD, oListK, oSetD, oPopAt, oIsiT, oInS, oTupleOf, oListOf, sd_inj, refsC_pc, toLocC_pc, unLocC_pc, poisonC_pc, diEnumA, enumV_lst, enumV_tup, dFix, dRev, oClear, dLc2, t_element_problem]
        simpa [elemP] using hq
      | [n, s] =>
        simp [okV, okVs] at ho
        simp [dSeq, dIfS, dAsg, dIf, dTest, dOp2, dOp1, dOpN, dVar, dC, dCons, dNil, dgName, dRet, dRetN, dDrop, dNext, dLst, dTup, startE, endsD, oI, oInt1, oInt2, oNeg, oIs, oDivmod, dAnd, dOr, dNot, dAndV, dOrV, dNotV, dgSub, dgTup, dgCons, dgNil, oSetL, dPar, dPar3, dFor, diRange1, diRange2, dLc, dCall, dBM, isT, dSl, dP, dNoP, oEq, dChain, oRepr, oIsi, oBools, retD_d, isTy, dDict0, dDict, dPairs, isFl, isFls, isPy, isPys, isPyKV, look_d, look_c, lookC_lst, lookC_dct, lookC_frz, itM_some, oIx_v, ixV_lst, ixV_tup, ixV_scr, ixV_str, oAdd_v, addV_int, addV_str, addV_tup, addV_lst, oMul_v, mulV_int, mulV_lst, oLen_v, lenV_str, lenV_lst, lenV_tup, lenV_scr, oSl_v, slV_str, slV_tup, slV_lst, oIn_v, inV_lst, inV_tup, inV_sign, diSeq_v, seqV_lst, seqV_tup, seqV_str, fixW_d, fixW_c, fixV_frz, fixV_lst, fixV_dct, fixAll_nil, fixAll_cons, gcS, gcK, fixEnv_nil, fixEnv_none, fixEnv_d, fixEnv_c, fixEnv_tp, fixEnv_dead, fixEnv_sl, poison_sl, fixC, poison, poisonC_lst, poisonC_dct, poisonC_frz, poisonC_obj, dropTo0, dropTo1, dropTo2, dropTo3, dropTo4, dropTo5, dropTo6, madeQ, dMake, dMeth, DL.isObj, dFld, fldW, dCon, dSetF, fixO, frzS, diDK, diDP, keepD, oIxD, oInD, oLenD, oListK, oSetD, oPopAt, oIsiT, oInS, oTupleOf, oListOf, sd_inj, refsC_pc, toLocC_pc, unLocC_pc, poisonC_pc, diEnumA, enumV_lst, enumV_tup, dFix, dRev, oClear, dLc2, t_element_problem]
        refine isn0 ho.1 ?_
        by_cases hn : nm n = true
        · cases n with
          | str z =>
            rw [hn]
            simp [dSeq, dIfS, dAsg, dIf, dTest, dOp2, dOp1, dOpN, dVar, dC, dCons, dNil, dgName, dRet, dRetN, dDrop, dNext, dLst, dTup, startE, endsD, oI, oInt1, oInt2, oNeg, oIs, oDivmod, dAnd, dOr, dNot, dAndV, dOrV, dNotV, dgSub, dgTup, dgCons, dgNil, oSetL, dPar, dPar3, dFor, diRange1, diRange2, dLc, dCall, dBM, isT, dSl, dP, dNoP, oEq, dChain, oRepr, oIsi, oBools, retD_d, isTy, dDict0, dDict, dPairs, isFl, isFls, isPy, isPys, isPyKV, look_d, look_c, lookC_lst, lookC_dct, lookC_frz, itM_some, oIx_v, ixV_lst, ixV_tup, ixV_scr, ixV_str, oAdd_v, addV_int, addV_str, addV_tup, addV_lst, oMul_v, mulV_int, mulV_lst, oLen_v, lenV_str, lenV_lst, lenV_tup, lenV_scr, oSl_v, slV_str, slV_tup, slV_lst, oIn_v, inV_lst, inV_tup, inV_sign, diSeq_v, seqV_lst, seqV_tup, seqV_str, fixW_d, fixW_c, fixV_frz, fixV_lst, fixV_dct, fixAll_nil, fixAll_cons, gcS, gcK, fixEnv_nil, fixEnv_none, fixEnv_d, fixEnv_c, fixEnv_tp, fixEnv_dead, fixEnv_sl, poison_sl, fixC, poison, poisonC_lst, poisonC_dct, poisonC_frz, poisonC_obj, dropTo0, dropTo1, dropTo2, dropTo3, dropTo4, dropTo5, dropTo6, madeQ, dMake, dMeth, DL.isObj, dFld, fldW, dCon, dSetF, fixO, frzS, diDK, diDP, keepD, oIxD, oInD, oLenD, oListK, oSetD, oPopAt, oIsiT, oInS, oTupleOf, oListOf, sd_inj, refsC_pc, toLocC_pc, unLocC_pc, poisonC_pc, diEnumA, enumV_lst, enumV_tup, dFix, dRev, oClear, dLc2]
            by_cases hk : z ∈ m.map (·.1)
            · rw [getS_isSome, decide_eq_true hk]
              simpa [elemP, hn, hk] using hq
            · rw [getS_isSome, decide_eq_false hk]
              simp only [Bool.false_eq_true, if_false]
              simp only [elemP, hn, hk] at hq
              refine are0 ho.2 ?_
              by_cases hd : diffB (m.map (·.1)) s = true
              · simpa [hd, dSeq, dIfS, dAsg, dIf, dTest, dOp2, dOp1, dOpN, dVar, dC, dCons, dNil, dgName, dRet, dRetN, dDrop, dNext, dLst, dTup, startE, endsD, oI, oInt1, oInt2, oNeg, oIs, oDivmod, dAnd, dOr, dNot, dAndV, dOrV, dNotV, dgSub, dgTup, dgCons, dgNil, oSetL, dPar, dPar3, dFor, diRange1, diRange2, dLc, dCall, dBM, isT, dSl, dP, dNoP, oEq, dChain, oRepr, oIsi, oBools, retD_d, isTy, dDict0, dDict, dPairs, isFl, isFls, isPy, isPys, isPyKV, look_d, look_c, lookC_lst, lookC_dct, lookC_frz, itM_some, oIx_v, ixV_lst, ixV_tup, ixV_scr, ixV_str, oAdd_v, addV_int, addV_str, addV_tup, addV_lst, oMul_v, mulV_int, mulV_lst, oLen_v, lenV_str, lenV_lst, lenV_tup, lenV_scr, oSl_v, slV_str, slV_tup, slV_lst, oIn_v, inV_lst, inV_tup, inV_sign, diSeq_v, seqV_lst, seqV_tup, seqV_str, fixW_d, fixW_c, fixV_frz, fixV_lst, fixV_dct, fixAll_nil, fixAll_cons, gcS, gcK, fixEnv_nil, fixEnv_none, fixEnv_d, fixEnv_c, fixEnv_tp, fixEnv_dead, fixEnv_sl, poison_sl, fixC, poison, poisonC_lst, poisonC_dct, poisonC_frz, poisonC_obj, dropTo0, dropTo1, dropTo2, dropTo3, dropTo4, dropTo5, dropTo6, madeQ, dMake, dMeth, DL.isObj, dFld, fldW, dCon, dSetF, fixO, frzS, diDK, diDP, keepD, oIxD, oInD, oLenD, oListK, oSetD, oPopAt, oIsiT, oInS, oTupleOf, oListOf, sd_inj, refsC_pc, toLocC_pc, unLocC_pc, poisonC_pc, diEnumA, enumV_lst, enumV_tup, dFix, dRev, oClear, dLc2] using hq
              · simpa [hd, dSeq, dIfS, dAsg, dIf, dTest, dOp2, dOp1, dOpN, dVar, dC, dCons, dNil, dgName, dRet, dRetN, dDrop, dNext, dLst, dTup, startE, endsD, oI, oInt1, oInt2, oNeg, oIs, oDivmod, dAnd, dOr, dNot, dAndV, dOrV, dNotV, dgSub, dgTup, dgCons, dgNil, oSetL, dPar, dPar3, dFor, diRange1, diRange2, dLc, dCall, dBM, isT, dSl, dP, dNoP, oEq, dChain, oRepr, oIsi, oBools, retD_d, isTy, dDict0, dDict, dPairs, isFl, isFls, isPy, isPys, isPyKV, look_d, look_c, lookC_lst, lookC_dct, lookC_frz, itM_some, oIx_v, ixV_lst, ixV_tup, ixV_scr, ixV_str, oAdd_v, addV_int, addV_str, addV_tup, addV_lst, oMul_v, mulV_int, mulV_lst, oLen_v, lenV_str, lenV_lst, lenV_tup, lenV_scr, oSl_v, slV_str, slV_tup, slV_lst, oIn_v, inV_lst, inV_tup, inV_sign, diSeq_v, seqV_lst, seqV_tup, seqV_str, fixW_d, fixW_c, fixV_frz, fixV_lst, fixV_dct, fixAll_nil, fixAll_cons, gcS, gcK, fixEnv_nil, fixEnv_none, fixEnv_d, fixEnv_c, fixEnv_tp, fixEnv_dead, fixEnv_sl, poison_sl, fixC, poison, poisonC_lst, poisonC_dct, poisonC_frz, poisonC_obj, dropTo0, dropTo1, dropTo2, dropTo3, dropTo4, dropTo5, dropTo6, madeQ, dMake, dMeth, DL.isObj, dFld, fldW, dCon, dSetF, fixO, frzS, diDK, diDP, keepD, oIxD, oInD, oLenD, oListK, oSetD, oPopAt, oIsiT, oInS, oTupleOf, oListOf, sd_inj, refsC_pc, toLocC_pc, unLocC_pc, poisonC_pc, diEnumA, enumV_lst, enumV_tup, dFix, dRev, oClear, dLc2] using hq
          | _ => simp [nm] at hn
        · simp only [Bool.not_eq_true] at hn
          rw [hn]
          simpa [elemP, hn, dSeq, dIfS, dAsg, dIf, dTest, dOp2, dOp1, dOpN, dVar, dC, dCons, dNil, dgName, dRet, dRetN, dDrop, dNext, dLst, dTup, startE, endsD, oI, oInt1, oInt2, oNeg, oIs, oDivmod, dAnd, dOr, dNot, dAndV, dOrV, dNotV, dgSub, dgTup, dgCons, dgNil, oSetL, dPar, dPar3, dFor, diRange1, diRange2, dLc, dCall, dBM, isT, dSl, dP, dNoP, oEq, dChain, oRepr, oIsi, oBools, retD_d, isTy, dDict0, dDict, dPairs, isFl, isFls, isPy, isPys, isPyKV, look_d, look_c, lookC_lst, lookC_dct, lookC_frz, itM_some, oIx_v, ixV_lst, ixV_tup, ixV_scr, ixV_str, oAdd_v, addV_int, addV_str, addV_tup, addV_lst, oMul_v, mulV_int, mulV_lst, oLen_v, lenV_str, lenV_lst, lenV_tup, lenV_scr, oSl_v, slV_str, slV_tup, slV_lst, oIn_v, inV_lst, inV_tup, inV_sign, diSeq_v, seqV_lst, seqV_tup, seqV_str, fixW_d, fixW_c, fixV_frz, fixV_lst, fixV_dct, fixAll_nil, fixAll_cons, gcS, gcK, fixEnv_nil, fixEnv_none, fixEnv_d, fixEnv_c, fixEnv_tp, fixEnv_dead, fixEnv_sl, poison_sl, fixC, poison, poisonC_lst, poisonC_dct, poisonC_frz, poisonC_obj, dropTo0, dropTo1, dropTo2, dropTo3, dropTo4, dropTo5, dropTo6, madeQ, dMake, dMeth, DL.isObj, dFld, fldW, dCon, dSetF, fixO, frzS, diDK, diDP, keepD, oIxD, oInD, oLenD, oListK, oSetD, oPopAt, oIsiT, oInS, oTupleOf, oListOf, sd_inj, refsC_pc, toLocC_pc, unLocC_pc, poisonC_pc, diEnumA, enumV_lst, enumV_tup, dFix, dRev, oClear, dLc2] using hq
      | a :: b :: c :: r =>
        simp [dSeq, dIfS, dAsg, dIf, dTest, dOp2, dOp1, dOpN, dVar, dC, dCons, dNil, dgName, dRet, dRetN, dDrop, dNext, dLst, dTup, startE, endsD, oI, oInt1, oInt2, oNeg, oIs, oDivmod, dAnd, dOr, dNot, dAndV, dOrV, dNotV, dgSub, dgTup, dgCons, dgNil, oSetL, dPar, dPar3, dFor, diRange1, diRange2, dLc, dCall, dBM, isT, dSl, dP, dNoP, oEq, dChain, oRepr, oIsi, oBools, retD_d, isTy, dDict0, dDict, dPairs, isFl, isFls, isPy, isPys, isPyKV, look_d, look_c, lookC_lst, lookC_dct, lookC_frz, itM_some, oIx_v, ixV_lst, ixV_tup, ixV_scr, ixV_str, oAdd_v, addV_int, addV_str, addV_tup, addV_lst, oMul_v, mulV_int, mulV_lst, oLen_v, lenV_str, lenV_lst, lenV_tup, lenV_scr, oSl_v, slV_str, slV_tup, slV_lst, oIn_v, inV_lst, inV_tup, inV_sign, diSeq_v, seqV_lst, seqV_tup, seqV_str, fixW_d, fixW_c, fixV_frz, fixV_lst, fixV_dct, fixAll_nil, fixAll_cons, gcS, gcK, fixEnv_nil, fixEnv_none, fixEnv_d, fixEnv_c, fixEnv_tp, fixEnv_dead, fixEnv_sl, poison_sl, fixC, poison, poisonC_lst, poisonC_dct, poisonC_frz, poisonC_obj, dropTo0, dropTo1, dropTo2, dropTo3, dropTo4, dropTo5, dropTo6, madeQ, dMake, dMeth, DL.isObj, dFld, fldW, dCon, dSetF, fixO, frzS, diDK, diDP, keepD, oIxD, oInD, oLenD, oListK, oSetD, oPopAt, oIsiT, oInS, oTupleOf, oListOf, sd_inj, refsC_pc, toLocC_pc, unLocC_pc, poisonC_pc, diEnumA, enumV_lst, enumV_tup, dFix, dRev, oClear, dLc2, t_element_problem]
        refine ⟨by omega, ?_⟩
        simpa [elemP] using hq
    | obj c fs => simp [okV] at ho
    | oth v => simp [okV] at ho
    | _ =>
      simp [dSeq, dIfS, dAsg, dIf, dTest, dOp2, dOp1, dOpN, dVar, dC, dCons, dNil, dgName, dRet, dRetN, dDrop, dNext, dLst, dTup, startE, endsD, oI, oInt1, oInt2, oNeg, oIs, oDivmod, dAnd, dOr, dNot, dAndV, dOrV, dNotV, dgSub, dgTup, dgCons, dgNil, oSetL, dPar, dPar3, dFor, diRange1, diRange2, dLc, dCall, dBM, isT, dSl, dP, dNoP, oEq, dChain, oRepr, oIsi, oBools, retD_d, isTy, dDict0, dDict, dPairs, isFl, isFls, isPy, isPys, isPyKV, look_d, look_c, lookC_lst, lookC_dct, lookC_frz, itM_some, oIx_v, ixV_lst, ixV_tup, ixV_scr, ixV_str, oAdd_v, addV_int, addV_str, addV_tup, addV_lst, oMul_v, mulV_int, mulV_lst, oLen_v, lenV_str, lenV_lst, lenV_tup, lenV_scr, oSl_v, slV_str, slV_tup, slV_lst, oIn_v, inV_lst, inV_tup, inV_sign, diSeq_v, seqV_lst, seqV_tup, seqV_str, fixW_d, fixW_c, fixV_frz, fixV_lst, fixV_dct, fixAll_nil, fixAll_cons, gcS, gcK, fixEnv_nil, fixEnv_none, fixEnv_d, fixEnv_c, fixEnv_tp, fixEnv_dead, fixEnv_sl, poison_sl, fixC, poison, poisonC_lst, poisonC_dct, poisonC_frz, poisonC_obj, dropTo0, dropTo1, dropTo2, dropTo3, dropTo4, dropTo5, dropTo6, madeQ, dMake, dMeth, DL.isObj, dFld, fldW, dCon, dSetF, fixO, frzS, diDK, diDP, keepD, oIxD, oInD, oLenD, oListK, oSetD, oPopAt, oIsiT, oInS, oTupleOf, oListOf, sd_inj, refsC_pc, toLocC_pc, unLocC_pc, poisonC_pc, diEnumA, enumV_lst, enumV_tup, dFix, dRev, oClear, dLc2, t_element_problem]
      simpa [elemP] using hq
  · cases x with
    | tup xs =>
      match xs with
      | [] => 
        simp [dSeq, dIfS, dAsg, dIf, dTest, dOp2, dOp1, dOpN, dVar, dC, dCons, dNil, dgName, dRet, dRetN, dDrop, dNext, dLst, dTup, startE, endsD, oI, oInt1, oInt2, oNeg, oIs, oDivmod, dAnd, dOr, dNot, dAndV, dOrV, dNotV, dgSub, dgTup, dgCons, dgNil, oSetL, dPar, dPar3, dFor, diRange1, diRange2, dLc, dCall, dBM, isT, dSl, dP, dNoP, oEq, dChain, oRepr, oIsi, oBools, retD_d, isTy, dDict0, dDict, dPairs, isFl, isFls, isPy, isPys, isPyKV, look_d, look_c, lookC_lst, lookC_dct, lookC_frz, itM_some, oIx_v, ixV_lst, ixV_tup, ixV_scr, ixV_str, oAdd_v, addV_int, addV_str, addV_tup, addV_lst, oMul_v, mulV_int, mulV_lst, oLen_v, lenV_str, lenV_lst, lenV_tup, lenV_scr, oSl_v, slV_str, slV_tup, slV_lst, oIn_v, inV_lst, inV_tup, inV_sign, diSeq_v, seqV_lst, seqV_tup, seqV_str, fixW_d, fixW_c, fixV_frz, fixV_lst, fixV_dct, fixAll_nil, fixAll_cons, gcS, gcK, fixEnv_nil, fixEnv_none, fixEnv_d, fixEnv_c, fixEnv_tp, fixEnv_dead, fixEnv_sl, poison_sl, fixC, poison, poisonC_lst, poisonC_dct, poisonC_frz, poisonC_obj, dropTo0, dropTo1, dropTo2, dropTo3, dropTo4, dropTo5, dropTo6, madeQ, dMake, dMeth, DL.isObj, dFld, fldW, dCon, dSetF, fixO, frzS, diDK, diDP, keepD, oIxD, oInD, oLenD, oListK, oSetD, oPopAt, oIsiT, oInS, oTupleOf, oListOf, sd_inj, refsC_pc, toLocC_pc, unLocC_pc, poisonC_pc, diEnumA, enumV_lst, enumV_tup, dFix, dRev, oClear, dLc2, t_element_problem]
        simpa [elemP] using hq
      | [a] =>
        simp [dSeq, dIfS, dAsg, dIf, dTest, dOp2, dOp1, dOpN, dVar, dC, dCons, dNil, dgName, dRet, dRetN, dDrop, dNext, dLst, dTup, startE, endsD, oI, oInt1, oInt2, oNeg, oIs, oDivmod, dAnd, dOr, dNot, dAndV, dOrV, dNotV, dgSub, dgTup, dgCons, dgNil, oSetL, dPar, dPar3, dFor, diRange1, diRange2, dLc, dCall, dBM, isT, dSl, dP, dNoP, oEq, dChain, oRepr, oIsi, oBools, retD_d, isTy, dDict0, dDict, dPairs, isFl, isFls, isPy, isPys, isPyKV, look_d, look_c, lookC_lst, lookC_dct, lookC_frz, itM_some, oIx_v, ixV_lst, ixV_tup, ixV_scr, ixV_str, oAdd_v, addV_int, addV_str, addV_tup, addV_lst, oMul_v, mulV_int, mulV_lst, oLen_v, lenV_str, lenV_lst, lenV_tup, lenV_scr, oSl_v, slV_str, slV_tup, slV_lst, oIn_v, inV_lst, inV_tup, inV_sign, diSeq_v, seqV_lst, seqV_tup, seqV_str, fixW_d, fixW_c, fixV_frz, fixV_lst, fixV_dct, fixAll_nil, fixAll_cons, gcS, gcK, fixEnv_nil, fixEnv_none, fixEnv_d, fixEnv_c, fixEnv_tp, fixEnv_dead, fixEnv_sl, poison_sl, fixC, poison, poisonC_lst, poisonC_dct, poisonC_frz, poisonC_obj, dropTo0, dropTo1, dropTo2, dropTo3, dropTo4, dropTo5, dropTo6, madeQ, dMake, dMeth, DL.isObj, dFld, fldW, dCon, dSetF, fixO, frzS, diDK, diDP, keepD, oIxD, oInD, oLenD, oListK, oSetD, oPopAt, oIsiT, oInS, oTupleOf, oListOf, sd_inj, refsC_pc, toLocC_pc, unLocC_pc, poisonC_pc, diEnumA, enumV_lst, enumV_tup, dFix, dRev, oClear, dLc2, t_element_problem]
        simpa [elemP] using hq
      | [n, s] =>
        simp [okV, okVs] at ho
        simp [dSeq, dIfS, dAsg, dIf, dTest, dOp2, dOp1, dOpN, dVar, dC, dCons, dNil, dgName, dRet, dRetN, dDrop, dNext, dLst, dTup, startE, endsD, oI, oInt1, oInt2, oNeg, oIs, oDivmod, dAnd, dOr, dNot, dAndV, dOrV, dNotV, dgSub, dgTup, dgCons, dgNil, oSetL, dPar, dPar3, dFor, diRange1, diRange2, dLc, dCall, dBM, isT, dSl, dP, dNoP, oEq, dChain, oRepr, oIsi, oBools, retD_d, isTy, dDict0, dDict, dPairs, isFl, isFls, isPy, isPys, isPyKV, look_d, look_c, lookC_lst, lookC_dct, lookC_frz, itM_some, oIx_v, ixV_lst, ixV_tup, ixV_scr, ixV_str, oAdd_v, addV_int, addV_str, addV_tup, addV_lst, oMul_v, mulV_int, mulV_lst, oLen_v, lenV_str, lenV_lst, lenV_tup, lenV_scr, oSl_v, slV_str, slV_tup, slV_lst, oIn_v, inV_lst, inV_tup, inV_sign, diSeq_v, seqV_lst, seqV_tup, seqV_str, fixW_d, fixW_c, fixV_frz, fixV_lst, fixV_dct, fixAll_nil, fixAll_cons, gcS, gcK, fixEnv_nil, fixEnv_none, fixEnv_d, fixEnv_c, fixEnv_tp, fixEnv_dead, fixEnv_sl, poison_sl, fixC, poison, poisonC_lst, poisonC_dct, poisonC_frz, poisonC_obj, dropTo0, dropTo1, dropTo2, dropTo3, dropTo4, dropTo5, dropTo6, madeQ, dMake, dMeth, DL.isObj, dFld, fldW, dCon, dSetF, fixO, frzS, diDK, diDP, keepD, oIxD, oInD, oLenD, oListK, oSetD, oPopAt, oIsiT, oInS, oTupleOf, oListOf, sd_inj, refsC_pc, toLocC_pc, unLocC_pc, poisonC_pc, diEnumA, enumV_lst, enumV_tup, dFix, dRev, oClear, dLc2, t_element_problem]
        refine isn0 ho.1 ?_
        by_cases hn : nm n = true
        · cases n with
          | str z =>
            rw [hn]
            simp [dSeq, dIfS, dAsg, dIf, dTest, dOp2, dOp1, dOpN, dVar, dC, dCons, dNil, dgName, dRet, dRetN, dDrop, dNext, dLst, dTup, startE, endsD, oI, oInt1, oInt2, oNeg, oIs, oDivmod, dAnd, dOr, dNot, dAndV, dOrV, dNotV, dgSub, dgTup, dgCons, dgNil, oSetL, dPar, dPar3, dFor, diRange1, diRange2, dLc, dCall, dBM, isT, dSl, dP, dNoP, oEq, dChain, oRepr, oIsi, oBools, retD_d, isTy, dDict0, dDict, dPairs, isFl, isFls, isPy, isPys, isPyKV, look_d, look_c, lookC_lst, lookC_dct, lookC_frz, itM_some, oIx_v, ixV_lst, ixV_tup, ixV_scr, ixV_str, oAdd_v, addV_int, addV_str, addV_tup, addV_lst, oMul_v, mulV_int, mulV_lst, oLen_v, lenV_str, lenV_lst, lenV_tup, lenV_scr, oSl_v, slV_str, slV_tup, slV_lst, oIn_v, inV_lst, inV_tup, inV_sign, diSeq_v, seqV_lst, seqV_tup, seqV_str, fixW_d, fixW_c, fixV_frz, fixV_lst, fixV_dct, fixAll_nil, fixAll_cons, gcS, gcK, fixEnv_nil, fixEnv_none, fixEnv_d, fixEnv_c, fixEnv_tp, fixEnv_dead, fixEnv_sl, poison_sl, fixC, poison, poisonC_lst, poisonC_dct, poisonC_frz, poisonC_obj, dropTo0, dropTo1, dropTo2, dropTo3, dropTo4, dropTo5, dropTo6, madeQ, dMake, dMeth, DL.isObj, dFld, fldW, dCon, dSetF, fixO, frzS, diDK, diDP, keepD, oIxD, oInD, oLenD, oListK, oSetD, oPopAt, oIsiT, oInS, oTupleOf, oListOf, sd_inj, refsC_pc, toLocC_pc, unLocC_pc, poisonC_pc, diEnumA, enumV_lst, enumV_tup, dFix, dRev, oClear, dLc2]
            by_cases hk : z ∈ m.map (·.1)
            · rw [getS_isSome, decide_eq_true hk]
              simpa [elemP, hn, hk] using hq
            · rw [getS_isSome, decide_eq_false hk]
              simp only [Bool.false_eq_true, if_false]
              simp only [elemP, hn, hk] at hq
              refine areD ho.2 ?_
              by_cases hd : diffB (m.map (·.1)) s = true
              · simpa [hd, dSeq, dIfS, dAsg, dIf, dTest, dOp2, dOp1, dOpN, dVar, dC, dCons, dNil, dgName, dRet, dRetN, dDrop, dNext, dLst, dTup, startE, endsD, oI, oInt1, oInt2, oNeg, oIs, oDivmod, dAnd, dOr, dNot, dAndV, dOrV, dNotV, dgSub, dgTup, dgCons, dgNil, oSetL, dPar, dPar3, dFor, diRange1, diRange2, dLc, dCall, dBM, isT, dSl, dP, dNoP, oEq, dChain, oRepr, oIsi, oBools, retD_d, isTy, dDict0, dDict, dPairs, isFl, isFls, isPy, isPys, isPyKV, look_d, look_c, lookC_lst, lookC_dct, lookC_frz, itM_some, oIx_v, ixV_lst, ixV_tup, ixV_scr, ixV_str, oAdd_v, addV_int, addV_str, addV_tup, addV_lst, oMul_v, mulV_int, mulV_lst, oLen_v, lenV_str, lenV_lst, lenV_tup, lenV_scr, oSl_v, slV_str, slV_tup, slV_lst, oIn_v, inV_lst, inV_tup, inV_sign, diSeq_v, seqV_lst, seqV_tup, seqV_str, fixW_d, fixW_c, fixV_frz, fixV_lst, fixV_dct, fixAll_nil, fixAll_cons, gcS, gcK, fixEnv_nil, fixEnv_none, fixEnv_d, fixEnv_c, fixEnv_tp, fixEnv_dead, fixEnv_sl, poison_sl, fixC, poison, poisonC_lst, poisonC_dct, poisonC_frz, poisonC_obj, dropTo0, dropTo1, dropTo2, dropTo3, dropTo4, dropTo5, dropTo6, madeQ, dMake, dMeth, DL.isObj, dFld, fldW, dCon, dSetF, fixO, frzS, diDK, diDP, keepD, oIxD, oInD, oLenD, oListK, oSetD, oPopAt, oIsiT, oInS, oTupleOf, oListOf, sd_inj, refsC_pc, toLocC_pc, unLocC_pc, poisonC_pc, diEnumA, enumV_lst, enumV_tup, dFix, dRev, oClear, dLc2] using hq
              · simpa [hd, dSeq, dIfS, dAsg, dIf, dTest, dOp2, dOp1, dOpN, dVar, dC, dCons, dNil, dgName, dRet, dRetN, dDrop, dNext, dLst, dTup, startE, endsD, oI, oInt1, oInt2, oNeg, oIs, oDivmod, dAnd, dOr, dNot, dAndV, dOrV, dNotV, dgSub, dgTup, dgCons, dgNil, oSetL, dPar, dPar3, dFor, diRange1, diRange2, dLc, dCall, dBM, isT, dSl, dP, dNoP, oEq, dChain, oRepr, oIsi, oBools, retD_d, isTy, dDict0, dDict, dPairs, isFl, isFls, isPy, isPys, isPyKV, look_d, look_c, lookC_lst, lookC_dct, lookC_frz, itM_some, oIx_v, ixV_lst, ixV_tup, ixV_scr, ixV_str, oAdd_v, addV_int, addV_str, addV_tup, addV_lst, oMul_v, mulV_int, mulV_lst, oLen_v, lenV_str, lenV_lst, lenV_tup, lenV_scr, oSl_v, slV_str, slV_tup, slV_lst, oIn_v, inV_lst, inV_tup, inV_sign, diSeq_v, seqV_lst, seqV_tup, seqV_str, fixW_d, fixW_c, fixV_frz, fixV_lst, fixV_dct, fixAll_nil, fixAll_cons, gcS, gcK, fixEnv_nil, fixEnv_none, fixEnv_d, fixEnv_c, fixEnv_tp, fixEnv_dead, fixEnv_sl, poison_sl, fixC, poison, poisonC_lst, poisonC_dct, poisonC_frz, poisonC_obj, dropTo0, dropTo1, dropTo2, dropTo3, dropTo4, dropTo5, dropTo6, madeQ, dMake, dMeth, DL.isObj, dFld, fldW, dCon, dSetF, fixO, frzS, diDK, diDP, keepD, oIxD, oInD, oLenD, oListK, oSetD, oPopAt, oIsiT, oInS, oTupleOf, oListOf, sd_inj, refsC_pc, toLocC_pc, unLocC_pc, poisonC_pc, diEnumA, enumV_lst, enumV_tup, dFix, dRev, oClear, dLc2] using hq
          | _ => simp [nm] at hn
        · simp only [Bool.not_eq_true] at hn
          rw [hn]
          simpa [elemP, hn, dSeq, dIfS, dAsg, dIf, dTest, dOp2, dOp1, dOpN, dVar, dC, dCons, dNil, dgName, dRet, dRetN, dDrop, dNext, dLst, dTup, startE, endsD, oI, oInt1, oInt2, oNeg, oIs, oDivmod, dAnd, dOr, dNot, dAndV, dOrV, dNotV, dgSub, dgTup, dgCons, dgNil, oSetL, dPar, dPar3, dFor, diRange1, diRange2, dLc, dCall, dBM, isT, dSl, dP, dNoP, oEq, dChain, oRepr, oIsi, oBools, retD_d, isTy, dDict0, dDict, dPairs, isFl, isFls, isPy, isPys, isPyKV, look_d, look_c, lookC_lst, lookC_dct, lookC_frz, itM_some, oIx_v, ixV_lst, ixV_tup, ixV_scr, ixV_str, oAdd_v, addV_int, addV_str, addV_tup, addV_lst, oMul_v, mulV_int, mulV_lst, oLen_v, lenV_str, lenV_lst, lenV_tup, lenV_scr, oSl_v, slV_str, slV_tup, slV_lst, oIn_v, inV_lst, inV_tup, inV_sign, diSeq_v, seqV_lst, seqV_tup, seqV_str, fixW_d, fixW_c, fixV_frz, fixV_lst, fixV_dct, fixAll_nil, fixAll_cons, gcS, gcK, fixEnv_nil, fixEnv_none, fixEnv_d, fixEnv_c, fixEnv_tp, fixEnv_dead, fixEnv_sl, poison_sl, fixC, poison, poisonC_lst, poisonC_dct, poisonC_frz, poisonC_obj, dropTo0, dropTo1, dropTo2, dropTo3, dropTo4, dropTo5, dropTo6, madeQ, dMake, dMeth, DL.isObj, dFld, fldW, dCon, dSetF, fixO, frzS, diDK, diDP, keepD, oIxD, oInD, oLenD, oListK, oSetD, oPopAt, oIsiT, oInS, oTupleOf, oListOf, sd_inj, refsC_pc, toLocC_pc, unLocC_pc, poisonC_pc, diEnumA, enumV_lst, enumV_tup, dFix, dRev, oClear, dLc2] using hq
      | a :: b :: c :: r =>
        simp [dSeq, dIfS, dAsg, dIf, dTest, dOp2, dOp1, dOpN, dVar, dC, dCons, dNil, dgName, dRet, dRetN, dDrop, dNext, dLst, dTup, startE, endsD, oI, oInt1, oInt2, oNeg, oIs, oDivmod, dAnd, dOr, dNot, dAndV, dOrV, dNotV, dgSub, dgTup, dgCons, dgNil, oSetL, dPar, dPar3, dFor, diRange1, diRange2, dLc, dCall, dBM, isT, dSl, dP, dNoP, oEq, dChain, oRepr, oIsi, oBools, retD_d, isTy, dDict0, dDict, dPairs, isFl, isFls, isPy, isPys, isPyKV, look_d, look_c, lookC_lst, lookC_dct, lookC_frz, itM_some, oIx_v, ixV_lst, ixV_tup, ixV_scr, ixV_str, oAdd_v, addV_int, addV_str, addV_tup, addV_lst, oMul_v, mulV_int, mulV_lst, oLen_v, lenV_str, lenV_lst, lenV_tup, lenV_scr, oSl_v, slV_str, slV_tup, slV_lst, oIn_v, inV_lst, inV_tup, inV_sign, diSeq_v, seqV_lst, seqV_tup, seqV_str, fixW_d, fixW_c, fixV_frz, fixV_lst, fixV_dct, fixAll_nil, fixAll_cons, gcS, gcK, fixEnv_nil, fixEnv_none, fixEnv_d, fixEnv_c, fixEnv_tp, fixEnv_dead, fixEnv_sl, poison_sl, fixC, poison, poisonC_lst, poisonC_dct, poisonC_frz, poisonC_obj, dropTo0, dropTo1, dropTo2, dropTo3, dropTo4, dropTo5, dropTo6, madeQ, dMake, dMeth, DL.isObj, dFld, fldW, dCon, dSetF, fixO, frzS, diDK, diDP, keepD, oIxD, oInD, oLenD, oListK, oSetD, oPopAt, oIsiT, oInS, oTupleOf, oListOf, sd_inj, refsC_pc, toLocC_pc, unLocC_pc, poisonC_pc, diEnumA, enumV_lst, enumV_tup, dFix, dRev, oClear, dLc2, t_element_problem]
        refine ⟨by omega, ?_⟩
        simpa [elemP] using hq
    | obj c fs => simp [okV] at ho
    | oth v => simp [okV] at ho
    | _ =>
      simp [dSeq, dIfS, dAsg, dIf, dTest, dOp2, dOp1, dOpN, dVar, dC, dCons, dNil, dgName, dRet, dRetN, dDrop, dNext, dLst, dTup, startE, endsD, oI, oInt1, oInt2, oNeg, oIs, oDivmod, dAnd, dOr, dNot, dAndV, dOrV, dNotV, dgSub, dgTup, dgCons, dgNil, oSetL, dPar, dPar3, dFor, diRange1, diRange2, dLc, dCall, dBM, isT, dSl, dP, dNoP, oEq, dChain, oRepr, oIsi, oBools, retD_d, isTy, dDict0, dDict, dPairs, isFl, isFls, isPy, isPys, isPyKV, look_d, look_c, lookC_lst, lookC_dct, lookC_frz, itM_some, oIx_v, ixV_lst, ixV_tup, ixV_scr, ixV_str, oAdd_v, addV_int, addV_str, addV_tup, addV_lst, oMul_v, mulV_int, mulV_lst, oLen_v, lenV_str, lenV_lst, lenV_tup, lenV_scr, oSl_v, slV_str, slV_tup, slV_lst, oIn_v, inV_lst, inV_tup, inV_sign, diSeq_v, seqV_lst, seqV_tup, seqV_str, fixW_d, fixW_c, fixV_frz, fixV_lst, fixV_dct, fixAll_nil, fixAll_cons, gcS, gcK, fixEnv_nil, fixEnv_none, fixEnv_d, fixEnv_c, fixEnv_tp, fixEnv_dead, fixEnv_sl, poison_sl, fixC, poison, poisonC_lst, poisonC_dct, poisonC_frz, poisonC_obj, dropTo0, dropTo1, dropTo2, dropTo3, dropTo4, dropTo5, dropTo6, madeQ, dMake, dMeth, DL.isObj, dFld, fldW, dCon, dSetF, fixO, frzS, diDK, diDP, keepD, oIxD, oInD, oLenD, oListK, oSetD, oPopAt, oIsiT, oInS, oTupleOf, oListOf, sd_inj, refsC_pc, toLocC_pc, unLocC_pc, poisonC_pc, diEnumA, enumV_lst, enumV_tup, dFix, dRev, oClear, dLc2, t_element_problem]
      simpa [elemP] using hq
end DH
namespace DH
open PySem PySem.Spec L2 DL
theorem getS_hd {R : List Row} {r : Row} (nd : (namesR R).Nodup) (h : r ∈ R) : getS (hd1 R) r.1 = some (.tup (r.2.map .str)) := by
  induction R with
  | nil => cases h
  | cons a t ih =>
    simp only [namesR, List.map_cons, List.nodup_cons] at nd
    simp only [hd1, List.map_cons, getS]
    rcases List.mem_cons.mp h with rfl | h
    · simp
    · have hm : r.1 ∈ namesR t := List.mem_map_of_mem h
      rw [if_neg fun (e : a.1 = r.1) => nd.1 (e ▸ hm)]
      exact ih nd.2 h
theorem getS_anc {A : List Row} {s : Str} (h : s ∈ namesR A) : getS (lstD A) s = some (.lst ((getA A s).map .str)) := by
  induction A with
  | nil => cases h
  | cons a t ih =>
    obtain ⟨n, l⟩ := a
    simp only [lstD, List.map_cons, getS, getA, List.lookup_cons]
    by_cases e : n = s
    · subst e; simp
    · rw [if_neg e]
      have : (s == n) = false := by simp [Ne.symm e]
      rw [this]
      simp only [namesR, List.map_cons, List.mem_cons] at h
      exact ih (h.resolve_left fun q => e q.symm)
theorem getA_len {A : List Row} {s : Str} {n : Nat} (h : ∀ a ∈ A, a.2.length ≤ n) : (getA A s).length ≤ n := by
  induction A with
  | nil => simp [getA]
  | cons a t ih =>
    obtain ⟨m, l⟩ := a
    simp only [getA, List.lookup_cons]
    cases s == m
    · exact ih fun b hb => h b (List.mem_cons_of_mem _ hb)
    · exact h (m, l) List.mem_cons_self
theorem flat_len {α β : Type} {f : α → List β} {n : Nat} : ∀ {xs : List α}, (∀ x ∈ xs, (f x).length ≤ n) → (xs.flatMap f).length ≤ xs.length * n
  | [], _ => by simp
  | x :: r, h => by
    have := flat_len (xs := r) fun y hy => h y (List.mem_cons_of_mem _ hy)
    have := h x List.mem_cons_self
    simp only [List.flatMap_cons, List.length_append, List.length_cons, Nat.add_mul]
    omega
theorem hd1_keys {R : List Row} : (hd1 R).map (·.1) = namesR R := by simp [hd1, namesR, Function.comp_def]
def pIn (ns : List Str) : W → Bool
  | .d (.str z) => decide (z ∈ ns)
  | _ => false
theorem in_eq {R : List Row} (ns : List Str) : ((((sd (hd1 R)).map fun p => W.d p.1).filter (pIn ns)).map unW) = ((namesR R).filter fun k => decide (k ∈ ns)).map .str := by
  simp [sd, hd1, namesR, List.filter_map, Function.comp_def, unW, pIn]
theorem p_Hierarchy_ancestors_of_new : ∀ ws cs Q E, sl_Hierarchy_ancestors_of_new ws cs Q E → t_Hierarchy_ancestors_of_new (endsD cs.length Q E) (startE N_Hierarchy_ancestors_of_new ws) cs := by
  rintro ws cs Q E ⟨R, A, o1, o2, r, rfl, rfl, hR, hl, hr, hs, hA, hq⟩
  have sz := sz6
  simp [dSeq, dIfS, dAsg, dIf, dTest, dOp2, dOp1, dOpN, dVar, dC, dCons, dNil, dgName, dRet, dRetN, dDrop, dNext, dLst, dTup, startE, endsD, oI, oInt1, oInt2, oNeg, oIs, oDivmod, dAnd, dOr, dNot, dAndV, dOrV, dNotV, dgSub, dgTup, dgCons, dgNil, oSetL, dPar, dPar3, dFor, diRange1, diRange2, dLc, dCall, dBM, isT, dSl, dP, dNoP, oEq, dChain, oRepr, oIsi, oBools, retD_d, isTy, dDict0, dDict, dPairs, isFl, isFls, isPy, isPys, isPyKV, look_d, look_c, lookC_lst, lookC_dct, lookC_frz, itM_some, oIx_v, ixV_lst, ixV_tup, ixV_scr, ixV_str, oAdd_v, addV_int, addV_str, addV_tup, addV_lst, oMul_v, mulV_int, mulV_lst, oLen_v, lenV_str, lenV_lst, lenV_tup, lenV_scr, oSl_v, slV_str, slV_tup, slV_lst, oIn_v, inV_lst, inV_tup, inV_sign, diSeq_v, seqV_lst, seqV_tup, seqV_str, fixW_d, fixW_c, fixV_frz, fixV_lst, fixV_dct, fixAll_nil, fixAll_cons, gcS, gcK, fixEnv_nil, fixEnv_none, fixEnv_d, fixEnv_c, fixEnv_tp, fixEnv_dead, fixEnv_sl, poison_sl, fixC, poison, poisonC_lst, poisonC_dct, poisonC_frz, poisonC_obj, dropTo0, dropTo1, dropTo2, dropTo3, dropTo4, dropTo5, dropTo6, madeQ, dMake, dMeth, DL.isObj, dFld, fldW, dCon, dSetF, fixO, frzS, diDK, diDP, keepD, oIxD, oInD, oLenD, oListK, oSetD, oPopAt, oIsiT, oInS, oTupleOf, oListOf, sd_inj, refsC_pc, toLocC_pc, unLocC_pc, poisonC_pc, diEnumA, enumV_lst, enumV_tup, dFix, dRev, oClear, dLc2, t_Hierarchy_ancestors_of_new]
  refine ⟨by omega, _, getS_hd hR.nd hr, ?_⟩
  simp [dSeq, dIfS, dAsg, dIf, dTest, dOp2, dOp1, dOpN, dVar, dC, dCons, dNil, dgName, dRet, dRetN, dDrop, dNext, dLst, dTup, startE, endsD, oI, oInt1, oInt2, oNeg, oIs, oDivmod, dAnd, dOr, dNot, dAndV, dOrV, dNotV, dgSub, dgTup, dgCons, dgNil, oSetL, dPar, dPar3, dFor, diRange1, diRange2, dLc, dCall, dBM, isT, dSl, dP, dNoP, oEq, dChain, oRepr, oIsi, oBools, retD_d, isTy, dDict0, dDict, dPairs, isFl, isFls, isPy, isPys, isPyKV, look_d, look_c, lookC_lst, lookC_dct, lookC_frz, itM_some, oIx_v, ixV_lst, ixV_tup, ixV_scr, ixV_str, oAdd_v, addV_int, addV_str, addV_tup, addV_lst, oMul_v, mulV_int, mulV_lst, oLen_v, lenV_str, lenV_lst, lenV_tup, lenV_scr, oSl_v, slV_str, slV_tup, slV_lst, oIn_v, inV_lst, inV_tup, inV_sign, diSeq_v, seqV_lst, seqV_tup, seqV_str, fixW_d, fixW_c, fixV_frz, fixV_lst, fixV_dct, fixAll_nil, fixAll_cons, gcS, gcK, fixEnv_nil, fixEnv_none, fixEnv_d, fixEnv_c, fixEnv_tp, fixEnv_dead, fixEnv_sl, poison_sl, fixC, poison, poisonC_lst, poisonC_dct, poisonC_frz, poisonC_obj, dropTo0, dropTo1, dropTo2, dropTo3, dropTo4, dropTo5, dropTo6, madeQ, dMake, dMeth, DL.isObj, dFld, fldW, dCon, dSetF, fixO, frzS, diDK, diDP, keepD, oIxD, oInD, oLenD, oListK, oSetD, oPopAt, oIsiT, oInS, oTupleOf, oListOf, sd_inj, refsC_pc, toLocC_pc, unLocC_pc, poisonC_pc, diEnumA, enumV_lst, enumV_tup, dFix, dRev, oClear, dLc2]
  have hr2 : r.2.length ≤ 25 := by
    obtain ⟨a, b, e⟩ := List.append_of_mem hr
    exact (hR.sup a r b e).2.2
  refine forD_inv (fun i env c => ∃ a, env = [some (.c 0), some (.d (.str r.1)), some (.c 3), a, none] ∧ c = [.obj 0 [some (.c 1), some (.c 2)], .dct (sd (hd1 R)) o1, .dct (sd (lstD A)) o2, .lst ((r.1 :: (r.2.take i).flatMap (getA A)).map .str)]) (fun _ _ _ _ => True.intro) _ 0 _ _ ⟨_, rfl, rfl⟩ (fun j x hx env c hJ D' h1 h2 h3 h4 h5 => ?_) fun env c hJ => ?_
  · obtain ⟨a, rfl, rfl⟩ := hJ
    have hx : ∃ s, r.2[j]? = some s ∧ x = .d (.str s) := by simp at hx; obtain ⟨s, h, rfl⟩ := hx; exact ⟨s, h, rfl⟩
    obtain ⟨s, hs2, rfl⟩ := hx
    have hsm := hs s (List.mem_of_getElem? hs2)
    have hf := flat_len (f := getA A) (n := 100) (xs := r.2.take (0 + j)) fun x _ => getA_len hA
    have hg := getA_len (s := s) hA
    have hj : (r.2.take (0 + j)).length ≤ 25 := by simp; omega
    clear h1 h2 h3 h5
    simp [dSeq, dIfS, dAsg, dIf, dTest, dOp2, dOp1, dOpN, dVar, dC, dCons, dNil, dgName, dRet, dRetN, dDrop, dNext, dLst, dTup, startE, endsD, oI, oInt1, oInt2, oNeg, oIs, oDivmod, dAnd, dOr, dNot, dAndV, dOrV, dNotV, dgSub, dgTup, dgCons, dgNil, oSetL, dPar, dPar3, dFor, diRange1, diRange2, dLc, dCall, dBM, isT, dSl, dP, dNoP, oEq, dChain, oRepr, oIsi, oBools, retD_d, isTy, dDict0, dDict, dPairs, isFl, isFls, isPy, isPys, isPyKV, look_d, look_c, lookC_lst, lookC_dct, lookC_frz, itM_some, oIx_v, ixV_lst, ixV_tup, ixV_scr, ixV_str, oAdd_v, addV_int, addV_str, addV_tup, addV_lst, oMul_v, mulV_int, mulV_lst, oLen_v, lenV_str, lenV_lst, lenV_tup, lenV_scr, oSl_v, slV_str, slV_tup, slV_lst, oIn_v, inV_lst, inV_tup, inV_sign, diSeq_v, seqV_lst, seqV_tup, seqV_str, fixW_d, fixW_c, fixV_frz, fixV_lst, fixV_dct, fixAll_nil, fixAll_cons, gcS, gcK, fixEnv_nil, fixEnv_none, fixEnv_d, fixEnv_c, fixEnv_tp, fixEnv_dead, fixEnv_sl, poison_sl, fixC, poison, poisonC_lst, poisonC_dct, poisonC_frz, poisonC_obj, dropTo0, dropTo1, dropTo2, dropTo3, dropTo4, dropTo5, dropTo6, madeQ, dMake, dMeth, DL.isObj, dFld, fldW, dCon, dSetF, fixO, frzS, diDK, diDP, keepD, oIxD, oInD, oLenD, oListK, oSetD, oPopAt, oIsiT, oInS, oTupleOf, oListOf, sd_inj, refsC_pc, toLocC_pc, unLocC_pc, poisonC_pc, diEnumA, enumV_lst, enumV_tup, dFix, dRev, oClear, dLc2, oExtend]
    refine ⟨_, getS_anc hsm, ?_⟩
    simp [dSeq, dIfS, dAsg, dIf, dTest, dOp2, dOp1, dOpN, dVar, dC, dCons, dNil, dgName, dRet, dRetN, dDrop, dNext, dLst, dTup, startE, endsD, oI, oInt1, oInt2, oNeg, oIs, oDivmod, dAnd, dOr, dNot, dAndV, dOrV, dNotV, dgSub, dgTup, dgCons, dgNil, oSetL, dPar, dPar3, dFor, diRange1, diRange2, dLc, dCall, dBM, isT, dSl, dP, dNoP, oEq, dChain, oRepr, oIsi, oBools, retD_d, isTy, dDict0, dDict, dPairs, isFl, isFls, isPy, isPys, isPyKV, look_d, look_c, lookC_lst, lookC_dct, lookC_frz, itM_some, oIx_v, ixV_lst, ixV_tup, ixV_scr, ixV_str, oAdd_v, addV_int, addV_str, addV_tup, addV_lst, oMul_v, mulV_int, mulV_lst, oLen_v, lenV_str, lenV_lst, lenV_tup, lenV_scr, oSl_v, slV_str, slV_tup, slV_lst, oIn_v, inV_lst, inV_tup, inV_sign, diSeq_v, seqV_lst, seqV_tup, seqV_str, fixW_d, fixW_c, fixV_frz, fixV_lst, fixV_dct, fixAll_nil, fixAll_cons, gcS, gcK, fixEnv_nil, fixEnv_none, fixEnv_d, fixEnv_c, fixEnv_tp, fixEnv_dead, fixEnv_sl, poison_sl, fixC, poison, poisonC_lst, poisonC_dct, poisonC_frz, poisonC_obj, dropTo0, dropTo1, dropTo2, dropTo3, dropTo4, dropTo5, dropTo6, madeQ, dMake, dMeth, DL.isObj, dFld, fldW, dCon, dSetF, fixO, frzS, diDK, diDP, keepD, oIxD, oInD, oLenD, oListK, oSetD, oPopAt, oIsiT, oInS, oTupleOf, oListOf, sd_inj, refsC_pc, toLocC_pc, unLocC_pc, poisonC_pc, diEnumA, enumV_lst, enumV_tup, dFix, dRev, oClear, dLc2]
    have hn : (r.2.take (0 + j)).length * 100 ≤ 2500 := by omega
    simp at hf hn
    refine ⟨by omega, h4 _ _ ⟨_, rfl, ?_⟩⟩
    rw [show 0 + j + 1 = j + 1 by omega, List.take_add_one, hs2]
    simp
  · obtain ⟨a, rfl, rfl⟩ := hJ
    simp [dSeq, dIfS, dAsg, dIf, dTest, dOp2, dOp1, dOpN, dVar, dC, dCons, dNil, dgName, dRet, dRetN, dDrop, dNext, dLst, dTup, startE, endsD, oI, oInt1, oInt2, oNeg, oIs, oDivmod, dAnd, dOr, dNot, dAndV, dOrV, dNotV, dgSub, dgTup, dgCons, dgNil, oSetL, dPar, dPar3, dFor, diRange1, diRange2, dLc, dCall, dBM, isT, dSl, dP, dNoP, oEq, dChain, oRepr, oIsi, oBools, retD_d, isTy, dDict0, dDict, dPairs, isFl, isFls, isPy, isPys, isPyKV, look_d, look_c, lookC_lst, lookC_dct, lookC_frz, itM_some, oIx_v, ixV_lst, ixV_tup, ixV_scr, ixV_str, oAdd_v, addV_int, addV_str, addV_tup, addV_lst, oMul_v, mulV_int, mulV_lst, oLen_v, lenV_str, lenV_lst, lenV_tup, lenV_scr, oSl_v, slV_str, slV_tup, slV_lst, oIn_v, inV_lst, inV_tup, inV_sign, diSeq_v, seqV_lst, seqV_tup, seqV_str, fixW_d, fixW_c, fixV_frz, fixV_lst, fixV_dct, fixAll_nil, fixAll_cons, gcS, gcK, fixEnv_nil, fixEnv_none, fixEnv_d, fixEnv_c, fixEnv_tp, fixEnv_dead, fixEnv_sl, poison_sl, fixC, poison, poisonC_lst, poisonC_dct, poisonC_frz, poisonC_obj, dropTo0, dropTo1, dropTo2, dropTo3, dropTo4, dropTo5, dropTo6, madeQ, dMake, dMeth, DL.isObj, dFld, fldW, dCon, dSetF, fixO, frzS, diDK, diDP, keepD, oIxD, oInD, oLenD, oListK, oSetD, oPopAt, oIsiT, oInS, oTupleOf, oListOf, sd_inj, refsC_pc, toLocC_pc, unLocC_pc, poisonC_pc, diEnumA, enumV_lst, enumV_tup, dFix, dRev, oClear, dLc2, retD]
    refine lcD_filt (pIn (r.1 :: r.2.flatMap (getA A))) unW rfl rfl rfl (by simp [sd, hd1]; omega) (fun w hw K K' hK hK' => ?_) ?_
    · simp [sd, hd1] at hw
      obtain ⟨z, -, rfl⟩ := hw
      simp [dSeq, dIfS, dAsg, dIf, dTest, dOp2, dOp1, dOpN, dVar, dC, dCons, dNil, dgName, dRet, dRetN, dDrop, dNext, dLst, dTup, startE, endsD, oI, oInt1, oInt2, oNeg, oIs, oDivmod, dAnd, dOr, dNot, dAndV, dOrV, dNotV, dgSub, dgTup, dgCons, dgNil, oSetL, dPar, dPar3, dFor, diRange1, diRange2, dLc, dCall, dBM, isT, dSl, dP, dNoP, oEq, dChain, oRepr, oIsi, oBools, retD_d, isTy, dDict0, dDict, dPairs, isFl, isFls, isPy, isPys, isPyKV, look_d, look_c, lookC_lst, lookC_dct, lookC_frz, itM_some, oIx_v, ixV_lst, ixV_tup, ixV_scr, ixV_str, oAdd_v, addV_int, addV_str, addV_tup, addV_lst, oMul_v, mulV_int, mulV_lst, oLen_v, lenV_str, lenV_lst, lenV_tup, lenV_scr, oSl_v, slV_str, slV_tup, slV_lst, oIn_v, inV_lst, inV_tup, inV_sign, diSeq_v, seqV_lst, seqV_tup, seqV_str, fixW_d, fixW_c, fixV_frz, fixV_lst, fixV_dct, fixAll_nil, fixAll_cons, gcS, gcK, fixEnv_nil, fixEnv_none, fixEnv_d, fixEnv_c, fixEnv_tp, fixEnv_dead, fixEnv_sl, poison_sl, fixC, poison, poisonC_lst, poisonC_dct, poisonC_frz, poisonC_obj, dropTo0, dropTo1, dropTo2, dropTo3, dropTo4, dropTo5, dropTo6, madeQ, dMake, dMeth, DL.isObj, dFld, fldW, dCon, dSetF, fixO, frzS, diDK, diDP, keepD, oIxD, oInD, oLenD, oListK, oSetD, oPopAt, oIsiT, oInS, oTupleOf, oListOf, sd_inj, refsC_pc, toLocC_pc, unLocC_pc, poisonC_pc, diEnumA, enumV_lst, enumV_tup, dFix, dRev, oClear, dLc2, wipeE]
      rw [oIn_lst (ns := r.1 :: r.2.flatMap (getA A)) (by simp [dSeq, dIfS, dAsg, dIf, dTest, dOp2, dOp1, dOpN, dVar, dC, dCons, dNil, dgName, dRet, dRetN, dDrop, dNext, dLst, dTup, startE, endsD, oI, oInt1, oInt2, oNeg, oIs, oDivmod, dAnd, dOr, dNot, dAndV, dOrV, dNotV, dgSub, dgTup, dgCons, dgNil, oSetL, dPar, dPar3, dFor, diRange1, diRange2, dLc, dCall, dBM, isT, dSl, dP, dNoP, oEq, dChain, oRepr, oIsi, oBools, retD_d, isTy, dDict0, dDict, dPairs, isFl, isFls, isPy, isPys, isPyKV, look_d, look_c, lookC_lst, lookC_dct, lookC_frz, itM_some, oIx_v, ixV_lst, ixV_tup, ixV_scr, ixV_str, oAdd_v, addV_int, addV_str, addV_tup, addV_lst, oMul_v, mulV_int, mulV_lst, oLen_v, lenV_str, lenV_lst, lenV_tup, lenV_scr, oSl_v, slV_str, slV_tup, slV_lst, oIn_v, inV_lst, inV_tup, inV_sign, diSeq_v, seqV_lst, seqV_tup, seqV_str, fixW_d, fixW_c, fixV_frz, fixV_lst, fixV_dct, fixAll_nil, fixAll_cons, gcS, gcK, fixEnv_nil, fixEnv_none, fixEnv_d, fixEnv_c, fixEnv_tp, fixEnv_dead, fixEnv_sl, poison_sl, fixC, poison, poisonC_lst, poisonC_dct, poisonC_frz, poisonC_obj, dropTo0, dropTo1, dropTo2, dropTo3, dropTo4, dropTo5, dropTo6, madeQ, dMake, dMeth, DL.isObj, dFld, fldW, dCon, dSetF, fixO, frzS, diDK, diDP, keepD, oIxD, oInD, oLenD, oListK, oSetD, oPopAt, oIsiT, oInS, oTupleOf, oListOf, sd_inj, refsC_pc, toLocC_pc, unLocC_pc, poisonC_pc, diEnumA, enumV_lst, enumV_tup, dFix, dRev, oClear, dLc2])]
      simp only [pIn, unW_d] at hK hK'
      by_cases hc : z ∈ r.1 :: r.2.flatMap (getA A)
      · rw [decide_eq_true hc] at hK ⊢
        simpa using hK rfl []
      · rw [decide_eq_false hc] at hK' ⊢
        simpa using hK' rfl []
    · rw [in_eq]
      simp [dSeq, dIfS, dAsg, dIf, dTest, dOp2, dOp1, dOpN, dVar, dC, dCons, dNil, dgName, dRet, dRetN, dDrop, dNext, dLst, dTup, startE, endsD, oI, oInt1, oInt2, oNeg, oIs, oDivmod, dAnd, dOr, dNot, dAndV, dOrV, dNotV, dgSub, dgTup, dgCons, dgNil, oSetL, dPar, dPar3, dFor, diRange1, diRange2, dLc, dCall, dBM, isT, dSl, dP, dNoP, oEq, dChain, oRepr, oIsi, oBools, retD_d, isTy, dDict0, dDict, dPairs, isFl, isFls, isPy, isPys, isPyKV, look_d, look_c, lookC_lst, lookC_dct, lookC_frz, itM_some, oIx_v, ixV_lst, ixV_tup, ixV_scr, ixV_str, oAdd_v, addV_int, addV_str, addV_tup, addV_lst, oMul_v, mulV_int, mulV_lst, oLen_v, lenV_str, lenV_lst, lenV_tup, lenV_scr, oSl_v, slV_str, slV_tup, slV_lst, oIn_v, inV_lst, inV_tup, inV_sign, diSeq_v, seqV_lst, seqV_tup, seqV_str, fixW_d, fixW_c, fixV_frz, fixV_lst, fixV_dct, fixAll_nil, fixAll_cons, gcS, gcK, fixEnv_nil, fixEnv_none, fixEnv_d, fixEnv_c, fixEnv_tp, fixEnv_dead, fixEnv_sl, poison_sl, fixC, poison, poisonC_lst, poisonC_dct, poisonC_frz, poisonC_obj, dropTo0, dropTo1, dropTo2, dropTo3, dropTo4, dropTo5, dropTo6, madeQ, dMake, dMeth, DL.isObj, dFld, fldW, dCon, dSetF, fixO, frzS, diDK, diDP, keepD, oIxD, oInD, oLenD, oListK, oSetD, oPopAt, oIsiT, oInS, oTupleOf, oListOf, sd_inj, refsC_pc, toLocC_pc, unLocC_pc, poisonC_pc, diEnumA, enumV_lst, enumV_tup, dFix, dRev, oClear, dLc2]
      simpa [ancN] using hq
end DH
namespace DH
open PySem PySem.Spec L2 DL
theorem elem_at {x : D} {m : List (Str × D)} {o : Obj} {k : Nat} {g : Cs} {Q : DQ} {E : DX} (hk : g[k]? = some (.dct (sd m) o)) (ho : okV x = true) (h : Q (.d (elemP (m.map (·.1)) x)) g) : sp_element_problem [.d x, .c k] g Q E := by
  have e : g.set k (.dct (sd m) o) = g := by
    obtain ⟨h1, h2⟩ := List.getElem?_eq_some_iff.mp hk
    rw [← h2, List.set_getElem_self]
  have ek : List.idxOf k [k] = 0 := by simp [List.idxOf_cons]
  simp [sp_element_problem, loc, locAt, locJ, namesOf, refsC_pc, refsC_lst, refsC_dct, refsC_frz, toLocC_pc, toLocC_lst, toLocC_dct, toLocC_frz, unLocC_pc, unLocC_lst, unLocC_dct, unLocC_frz, getCs, inJ, toLoc, unLoc, putC, hk, ek, sl_element_problem]
  refine ⟨x, .c 0, ⟨rfl, rfl⟩, m, .inl ⟨rfl, o, rfl⟩, ho, ?_⟩
  simpa [loc, locAt, locJ, namesOf, refsC_pc, refsC_lst, refsC_dct, refsC_frz, toLocC_pc, toLocC_lst, toLocC_dct, toLocC_frz, unLocC_pc, unLocC_lst, unLocC_dct, unLocC_frz, getCs, inJ, toLoc, unLoc, putC, e] using h
theorem putS_new {m : List (Str × D)} {k : Str} {x : D} (h : ¬ k ∈ m.map (·.1)) : putS m k x = m ++ [(k, x)] := by
  induction m with
  | nil => rfl
  | cons a r ih =>
    obtain ⟨b, y⟩ := a
    simp only [List.map_cons, List.mem_cons, not_or] at h
    simp only [putS]
    rw [if_neg fun e => h.1 e.symm, ih h.2]
    rfl
theorem ancF_snoc (ns : List Str) (r : Row) : ∀ (xs A : List Row), ancF ns (xs ++ [r]) A = ancF ns xs A ++ [(r.1, ancN ns (ancF ns xs A) r)]
  | [], A => rfl
  | x :: xs, A => by
    simp only [List.cons_append, ancF]
    exact ancF_snoc ns r xs _
theorem ancF_names (ns : List Str) : ∀ (xs A : List Row), namesR (ancF ns xs A) = namesR A ++ namesR xs
  | [], A => by simp [ancF, namesR]
  | x :: xs, A => by
    simp only [ancF]
    rw [ancF_names ns xs]
    simp [namesR]
theorem ancF_len (ns : List Str) : ∀ (xs A : List Row), (∀ a ∈ A, a.2.length ≤ ns.length) → ∀ a ∈ ancF ns xs A, a.2.length ≤ ns.length
  | [], A, h => h
  | x :: xs, A, h => ancF_len ns xs _ fun a ha => by
    rcases List.mem_append.mp ha with ha | ha
    · exact h a ha
    · simp at ha
      subst ha
      exact List.length_filter_le _ _
theorem diffL_ok {ks : List Str} : ∀ {s pre : List Str}, s.Nodup → (∀ x ∈ s, x ∈ ks) → (∀ x ∈ s, x ∉ pre) → diffL ks (s.map .str) pre = true
  | [], _, _, _, _ => rfl
  | x :: r, pre, nd, h1, h2 => by
    rw [List.nodup_cons] at nd
    simp only [List.map_cons, diffL, Bool.and_eq_true, decide_eq_true_eq, Bool.not_eq_true', decide_eq_false_iff_not]
    refine ⟨h1 x List.mem_cons_self, h2 x List.mem_cons_self, diffL_ok nd.2 (fun y hy => h1 y (List.mem_cons_of_mem _ hy)) fun y hy => ?_⟩
    rw [List.mem_append]
    rintro (h | h)
    · exact h2 y (List.mem_cons_of_mem _ hy) h
    · simp at h; subst h; exact nd.1 hy
theorem elem_row {R : List Row} (hR : RowsOk R) {j : Nat} {r : Row} (h : R[j]? = some r) : elemP ((hd1 (R.take j)).map (·.1)) (rowD r) = .non ∧ okV (rowD r) = true ∧ ¬ r.1 ∈ (hd1 (R.take j)).map (·.1) ∧ ∀ s ∈ r.2, s ∈ namesR (R.take j) := by
  obtain ⟨hj, hjr⟩ := List.getElem?_eq_some_iff.mp h
  have e : R = R.take j ++ r :: R.drop (j + 1) := by
    rw [← hjr, ← List.drop_eq_getElem_cons hj, List.take_append_drop]
  obtain ⟨h1, h2, h3⟩ := hR.sup _ _ _ e
  have hn := (hR.nm r (List.mem_of_getElem? h)).1
  have hnd := hR.nd
  rw [e] at hnd
  simp only [namesR, List.map_append, List.map_cons] at hnd
  have hnot : ¬ r.1 ∈ namesR (R.take j) := fun hm => (List.nodup_append.mp hnd).2.2 _ hm r.1 (by simp) rfl
  rw [hd1_keys]
  refine ⟨?_, ?_, hnot, h2⟩
  · simp [elemP, rowD, hn, hnot, diffB, diffL_ok h1 h2 (fun _ _ => List.not_mem_nil)]
  · have hw : ∀ x : Str, wordOk x → okV (.str x) = true := fun x hx => by
      have := hx.1
      simp [nm] at this
      simp [okV]; omega
    have hs : ∀ {l : List Str}, (∀ x ∈ l, wordOk x) → okVs (l.map .str) = true := fun {l} hl => by
      induction l with
      | nil => rfl
      | cons a t ih =>
        simp only [List.map_cons, okVs, Bool.and_eq_true]
        exact ⟨hw a (hl a List.mem_cons_self), ih fun y hy => hl y (List.mem_cons_of_mem _ hy)⟩
    have hsw : ∀ x ∈ r.2, wordOk x := fun x hx => by
      have := h2 x hx
      obtain ⟨q, hq, rfl⟩ := List.mem_map.mp this
      exact hR.nm q (List.mem_of_mem_take hq)
    simp [rowD, okV, okVs, hs hsw]
    have := hw _ (hR.nm r (List.mem_of_getElem? h))
    simp [okV] at this
    omega
theorem refsC_obj {c : Nat} {fs : List (Option W)} : refsC (.obj c fs) = fs.filterMap id := rfl
theorem toLocC_obj {js : List Nat} {c : Nat} {fs : List (Option W)} : toLocC js (.obj c fs) = .obj c (fs.map (Option.map (toLoc js))) := rfl
theorem unLocC_obj {js : List Nat} {n c : Nat} {fs : List (Option W)} : unLocC js n (.obj c fs) = .obj c (fs.map (Option.map (unLoc js n))) := rfl
theorem ancL {R A : List Row} {r : Row} {x : Cell} {o1 o2 : Obj} {Q : DQ} {E : DX} (hR : RowsOk R) (hl : R.length ≤ 100) (hr : r ∈ R) (hs : ∀ s ∈ r.2, s ∈ namesR A) (hA : ∀ a ∈ A, a.2.length ≤ 100)
    (h : Q (.c 4) [.obj 0 [some (.c 2), some (.c 3)], x, .dct (sd (hd1 R)) o1, .dct (sd (lstD A)) o2, .lst ((ancN (namesR R) A r).map .str)]) : sp_Hierarchy_ancestors_of_new [.c 0, .d (.str r.1)] [.obj 0 [some (.c 2), some (.c 3)], x, .dct (sd (hd1 R)) o1, .dct (sd (lstD A)) o2] Q E := by
  simp [sp_Hierarchy_ancestors_of_new, loc, locAt, locJ, namesOf, refsC_pc, refsC_lst, refsC_dct, refsC_frz, toLocC_pc, toLocC_lst, toLocC_dct, toLocC_frz, unLocC_pc, unLocC_lst, unLocC_dct, unLocC_frz, getCs, inJ, toLoc, unLoc, putC, refsC_obj, toLocC_obj, unLocC_obj, List.idxOf_cons]
  exact ⟨R, A, o1, o2, r, rfl, rfl, hR, hl, hr, hs, hA, by simpa [loc, locAt, locJ, namesOf, refsC_pc, refsC_lst, refsC_dct, refsC_frz, toLocC_pc, toLocC_lst, toLocC_dct, toLocC_frz, unLocC_pc, unLocC_lst, unLocC_dct, unLocC_frz, getCs, inJ, toLoc, unLoc, putC, unLocC_obj] using h⟩
theorem ancT {R A : List Row} {r : Row} {o1 o2 : Obj} {Q : DQ} {E : DX} (hR : RowsOk R) (hl : R.length ≤ 100) (hr : r ∈ R) (hs : ∀ s ∈ r.2, s ∈ namesR A) (hA : ∀ a ∈ A, a.2.length ≤ 100)
    (h : Q (.c 3) [.obj 0 [some (.c 1), some (.c 2)], .dct (sd (hd1 R)) o1, .dct (sd (lstD A)) o2, .lst ((ancN (namesR R) A r).map .str)]) : sp_Hierarchy_ancestors_of_new [.c 0, .d (.str r.1)] [.obj 0 [some (.c 1), some (.c 2)], .dct (sd (hd1 R)) o1, .dct (sd (lstD A)) o2] Q E := by
  simp [sp_Hierarchy_ancestors_of_new, loc, locAt, locJ, namesOf, refsC_pc, refsC_lst, refsC_dct, refsC_frz, toLocC_pc, toLocC_lst, toLocC_dct, toLocC_frz, unLocC_pc, unLocC_lst, unLocC_dct, unLocC_frz, getCs, inJ, toLoc, unLoc, putC, refsC_obj, toLocC_obj, unLocC_obj, List.idxOf_cons]
  exact ⟨R, A, o1, o2, r, rfl, rfl, hR, hl, hr, hs, hA, by simpa [loc, locAt, locJ, namesOf, refsC_pc, refsC_lst, refsC_dct, refsC_frz, toLocC_pc, toLocC_lst, toLocC_dct, toLocC_frz, unLocC_pc, unLocC_lst, unLocC_dct, unLocC_frz, getCs, inJ, toLoc, unLoc, putC, unLocC_obj] using h⟩
theorem p_Hierarchy_init : ∀ ws cs Q E, sl_Hierarchy_init ws cs Q E → t_Hierarchy_init (endsD cs.length Q E) (startE N_Hierarchy_init ws) cs := by
  rintro ws cs Q E ⟨w, g, R, rfl, rfl, hat, hR, hl, hq⟩
  have sz := sz6
  rcases hat with ⟨rfl, rfl⟩ | ⟨rfl, rfl⟩
  · simp [dSeq, dIfS, dAsg, dIf, dTest, dOp2, dOp1, dOpN, dVar, dC, dCons, dNil, dgName, dRet, dRetN, dDrop, dNext, dLst, dTup, startE, endsD, oI, oInt1, oInt2, oNeg, oIs, oDivmod, dAnd, dOr, dNot, dAndV, dOrV, dNotV, dgSub, dgTup, dgCons, dgNil, oSetL, dPar, dPar3, dFor, diRange1, diRange2, dLc, dCall, dBM, isT, dSl, dP, dNoP, oEq, dChain, oRepr, oIsi, oBools, retD_d, isTy, dDict0, dDict, dPairs, isFl, isFls, isPy, isPys, isPyKV, look_d, look_c, lookC_lst, lookC_dct, lookC_frz, itM_some, oIx_v, ixV_lst, ixV_tup, ixV_scr, ixV_str, oAdd_v, addV_int, addV_str, addV_tup, addV_lst, oMul_v, mulV_int, mulV_lst, oLen_v, lenV_str, lenV_lst, lenV_tup, lenV_scr, oSl_v, slV_str, slV_tup, slV_lst, oIn_v, inV_lst, inV_tup, inV_sign, diSeq_v, seqV_lst, seqV_tup, seqV_str, fixW_d, fixW_c, fixV_frz, fixV_lst, fixV_dct, fixAll_nil, fixAll_cons, gcS, gcK, fixEnv_nil, fixEnv_none, fixEnv_d, fixEnv_c, fixEnv_tp, fixEnv_dead, fixEnv_sl, poison_sl, fixC, poison, poisonC_lst, poisonC_dct, poisonC_frz, poisonC_obj, dropTo0, dropTo1, dropTo2, dropTo3, dropTo4, dropTo5, dropTo6, madeQ, dMake, dMeth, DL.isObj, dFld, fldW, dCon, dSetF, fixO, frzS, diDK, diDP, keepD, oIxD, oInD, oLenD, oListK, oSetD, oPopAt, oIsiT, oInS, oTupleOf, oListOf, sd_inj, refsC_pc, toLocC_pc, unLocC_pc, poisonC_pc, diEnumA, enumV_lst, enumV_tup, dFix, dRev, oClear, dLc2, t_Hierarchy_init]
    refine ⟨by omega, ?_⟩
    refine forD_inv (fun i env c => ∃ a b d e f o, env = [some (.c 0), some (.c 1), slt a, slt b, slt d, slt e, slt f] ∧ c = [.obj 0 [some (.c 2), none], .lst (R.map rowD), .dct (sd (hd1 (R.take i))) o]) (fun _ _ _ hJ => ?_) _ 0 _ _ ⟨none, none, none, none, none, _, rfl, rfl⟩ (fun j x hx env c hJ D' h1 h2 h3 h4 h5 => ?_) fun env c hJ => ?_
    · obtain ⟨a, b, d, e, f, o, rfl, rfl⟩ := hJ
      rfl
    · obtain ⟨a, b, d, e, f, o, rfl, rfl⟩ := hJ
      rw [pairUp_get] at hx
      have hx : ∃ r, R[j]? = some r ∧ x = .tp [.int (j : Nat), rowD r] := by
        cases e : R[j]? with
        | none => simp [e] at hx
        | some y => simp [e] at hx; exact ⟨y, rfl, hx.symm⟩
      obtain ⟨r, hr, rfl⟩ := hx
      obtain ⟨q1, q2, q3, q4⟩ := elem_row hR hr
      clear h1 h2 h3 h5
      rw [show 0 + j = j by omega]
      simp [dSeq, dIfS, dAsg, dIf, dTest, dOp2, dOp1, dOpN, dVar, dC, dCons, dNil, dgName, dRet, dRetN, dDrop, dNext, dLst, dTup, startE, endsD, oI, oInt1, oInt2, oNeg, oIs, oDivmod, dAnd, dOr, dNot, dAndV, dOrV, dNotV, dgSub, dgTup, dgCons, dgNil, oSetL, dPar, dPar3, dFor, diRange1, diRange2, dLc, dCall, dBM, isT, dSl, dP, dNoP, oEq, dChain, oRepr, oIsi, oBools, retD_d, isTy, dDict0, dDict, dPairs, isFl, isFls, isPy, isPys, isPyKV, look_d, look_c, lookC_lst, lookC_dct, lookC_frz, itM_some, oIx_v, ixV_lst, ixV_tup, ixV_scr, ixV_str, oAdd_v, addV_int, addV_str, addV_tup, addV_lst, oMul_v, mulV_int, mulV_lst, oLen_v, lenV_str, lenV_lst, lenV_tup, lenV_scr, oSl_v, slV_str, slV_tup, slV_lst, oIn_v, inV_lst, inV_tup, inV_sign, diSeq_v, seqV_lst, seqV_tup, seqV_str, fixW_d, fixW_c, fixV_frz, fixV_lst, fixV_dct, fixAll_nil, fixAll_cons, gcS, gcK, fixEnv_nil, fixEnv_none, fixEnv_d, fixEnv_c, fixEnv_tp, fixEnv_dead, fixEnv_sl, poison_sl, fixC, poison, poisonC_lst, poisonC_dct, poisonC_frz, poisonC_obj, dropTo0, dropTo1, dropTo2, dropTo3, dropTo4, dropTo5, dropTo6, madeQ, dMake, dMeth, DL.isObj, dFld, fldW, dCon, dSetF, fixO, frzS, diDK, diDP, keepD, oIxD, oInD, oLenD, oListK, oSetD, oPopAt, oIsiT, oInS, oTupleOf, oListOf, sd_inj, refsC_pc, toLocC_pc, unLocC_pc, poisonC_pc, diEnumA, enumV_lst, enumV_tup, dFix, dRev, oClear, dLc2]
      refine elem_at rfl q2 ?_
      rw [q1]
      simp [dSeq, dIfS, dAsg, dIf, dTest, dOp2, dOp1, dOpN, dVar, dC, dCons, dNil, dgName, dRet, dRetN, dDrop, dNext, dLst, dTup, startE, endsD, oI, oInt1, oInt2, oNeg, oIs, oDivmod, dAnd, dOr, dNot, dAndV, dOrV, dNotV, dgSub, dgTup, dgCons, dgNil, oSetL, dPar, dPar3, dFor, diRange1, diRange2, dLc, dCall, dBM, isT, dSl, dP, dNoP, oEq, dChain, oRepr, oIsi, oBools, retD_d, isTy, dDict0, dDict, dPairs, isFl, isFls, isPy, isPys, isPyKV, look_d, look_c, lookC_lst, lookC_dct, lookC_frz, itM_some, oIx_v, ixV_lst, ixV_tup, ixV_scr, ixV_str, oAdd_v, addV_int, addV_str, addV_tup, addV_lst, oMul_v, mulV_int, mulV_lst, oLen_v, lenV_str, lenV_lst, lenV_tup, lenV_scr, oSl_v, slV_str, slV_tup, slV_lst, oIn_v, inV_lst, inV_tup, inV_sign, diSeq_v, seqV_lst, seqV_tup, seqV_str, fixW_d, fixW_c, fixV_frz, fixV_lst, fixV_dct, fixAll_nil, fixAll_cons, gcS, gcK, fixEnv_nil, fixEnv_none, fixEnv_d, fixEnv_c, fixEnv_tp, fixEnv_dead, fixEnv_sl, poison_sl, fixC, poison, poisonC_lst, poisonC_dct, poisonC_frz, poisonC_obj, dropTo0, dropTo1, dropTo2, dropTo3, dropTo4, dropTo5, dropTo6, madeQ, dMake, dMeth, DL.isObj, dFld, fldW, dCon, dSetF, fixO, frzS, diDK, diDP, keepD, oIxD, oInD, oLenD, oListK, oSetD, oPopAt, oIsiT, oInS, oTupleOf, oListOf, sd_inj, refsC_pc, toLocC_pc, unLocC_pc, poisonC_pc, diEnumA, enumV_lst, enumV_tup, dFix, dRev, oClear, dLc2, rowD]
      refine ⟨by simp [hd1]; omega, fun o' => h4 _ _ ⟨some _, some _, some _, some _, some _, o', rfl, ?_⟩⟩
      rw [putS_new q3, show 0 + j + 1 = j + 1 by omega, List.take_add_one, hr]
      simp [hd1]
    · obtain ⟨a, b, d, e, f, o, rfl, rfl⟩ := hJ
      rw [pairUp_length, List.length_map, Nat.zero_add, List.take_length]
      simp [dSeq, dIfS, dAsg, dIf, dTest, dOp2, dOp1, dOpN, dVar, dC, dCons, dNil, dgName, dRet, dRetN, dDrop, dNext, dLst, dTup, startE, endsD, oI, oInt1, oInt2, oNeg, oIs, oDivmod, dAnd, dOr, dNot, dAndV, dOrV, dNotV, dgSub, dgTup, dgCons, dgNil, oSetL, dPar, dPar3, dFor, diRange1, diRange2, dLc, dCall, dBM, isT, dSl, dP, dNoP, oEq, dChain, oRepr, oIsi, oBools, retD_d, isTy, dDict0, dDict, dPairs, isFl, isFls, isPy, isPys, isPyKV, look_d, look_c, lookC_lst, lookC_dct, lookC_frz, itM_some, oIx_v, ixV_lst, ixV_tup, ixV_scr, ixV_str, oAdd_v, addV_int, addV_str, addV_tup, addV_lst, oMul_v, mulV_int, mulV_lst, oLen_v, lenV_str, lenV_lst, lenV_tup, lenV_scr, oSl_v, slV_str, slV_tup, slV_lst, oIn_v, inV_lst, inV_tup, inV_sign, diSeq_v, seqV_lst, seqV_tup, seqV_str, fixW_d, fixW_c, fixV_frz, fixV_lst, fixV_dct, fixAll_nil, fixAll_cons, gcS, gcK, fixEnv_nil, fixEnv_none, fixEnv_d, fixEnv_c, fixEnv_tp, fixEnv_dead, fixEnv_sl, poison_sl, fixC, poison, poisonC_lst, poisonC_dct, poisonC_frz, poisonC_obj, dropTo0, dropTo1, dropTo2, dropTo3, dropTo4, dropTo5, dropTo6, madeQ, dMake, dMeth, DL.isObj, dFld, fldW, dCon, dSetF, fixO, frzS, diDK, diDP, keepD, oIxD, oInD, oLenD, oListK, oSetD, oPopAt, oIsiT, oInS, oTupleOf, oListOf, sd_inj, refsC_pc, toLocC_pc, unLocC_pc, poisonC_pc, diEnumA, enumV_lst, enumV_tup, dFix, dRev, oClear, dLc2]
      rw [if_neg (by simp [hd1]; omega)]
      refine forD_inv (fun i env c => ∃ a b d e f o2, env = [some (.c 0), some (.c 1), slt a, slt b, slt d, slt e, slt f] ∧ c = [.obj 0 [some (.c 2), some (.c 3)], .lst (R.map rowD), .dct (sd (hd1 R)) o, .dct (sd (lstD (ancF (namesR R) (R.take i) []))) o2]) (fun _ _ _ hJ => ?_) _ 0 _ _ ⟨a, b, d, e, f, _, rfl, rfl⟩ (fun j x hx env c hJ D' h1 h2 h3 h4 h5 => ?_) fun env c hJ => ?_
      · obtain ⟨a, b, d, e, f, o2, rfl, rfl⟩ := hJ
        rfl
      · obtain ⟨a, b, d, e, f, o2, rfl, rfl⟩ := hJ
        have hx : ∃ r, R[j]? = some r ∧ x = .d (.str r.1) := by simp [sd, hd1] at hx; obtain ⟨a, ⟨b, h⟩, rfl⟩ := hx; exact ⟨_, h, rfl⟩
        obtain ⟨r, hr, rfl⟩ := hx
        obtain ⟨q1, q2, q3, q4⟩ := elem_row hR hr
        clear h1 h2 h3 h5
        rw [show 0 + j = j by omega]
        simp [dSeq, dIfS, dAsg, dIf, dTest, dOp2, dOp1, dOpN, dVar, dC, dCons, dNil, dgName, dRet, dRetN, dDrop, dNext, dLst, dTup, startE, endsD, oI, oInt1, oInt2, oNeg, oIs, oDivmod, dAnd, dOr, dNot, dAndV, dOrV, dNotV, dgSub, dgTup, dgCons, dgNil, oSetL, dPar, dPar3, dFor, diRange1, diRange2, dLc, dCall, dBM, isT, dSl, dP, dNoP, oEq, dChain, oRepr, oIsi, oBools, retD_d, isTy, dDict0, dDict, dPairs, isFl, isFls, isPy, isPys, isPyKV, look_d, look_c, lookC_lst, lookC_dct, lookC_frz, itM_some, oIx_v, ixV_lst, ixV_tup, ixV_scr, ixV_str, oAdd_v, addV_int, addV_str, addV_tup, addV_lst, oMul_v, mulV_int, mulV_lst, oLen_v, lenV_str, lenV_lst, lenV_tup, lenV_scr, oSl_v, slV_str, slV_tup, slV_lst, oIn_v, inV_lst, inV_tup, inV_sign, diSeq_v, seqV_lst, seqV_tup, seqV_str, fixW_d, fixW_c, fixV_frz, fixV_lst, fixV_dct, fixAll_nil, fixAll_cons, gcS, gcK, fixEnv_nil, fixEnv_none, fixEnv_d, fixEnv_c, fixEnv_tp, fixEnv_dead, fixEnv_sl, poison_sl, fixC, poison, poisonC_lst, poisonC_dct, poisonC_frz, poisonC_obj, dropTo0, dropTo1, dropTo2, dropTo3, dropTo4, dropTo5, dropTo6, madeQ, dMake, dMeth, DL.isObj, dFld, fldW, dCon, dSetF, fixO, frzS, diDK, diDP, keepD, oIxD, oInD, oLenD, oListK, oSetD, oPopAt, oIsiT, oInS, oTupleOf, oListOf, sd_inj, refsC_pc, toLocC_pc, unLocC_pc, poisonC_pc, diEnumA, enumV_lst, enumV_tup, dFix, dRev, oClear, dLc2]
        refine ancL hR (by omega) (List.mem_of_getElem? hr) (fun s hs => ?_) (fun a ha => ?_) ?_
        · rw [ancF_names]; exact List.mem_append_right _ (q4 s hs)
        · have := ancF_len (namesR R) (R.take j) [] (by simp) a ha
          simp [namesR] at this; omega
        · simp [dSeq, dIfS, dAsg, dIf, dTest, dOp2, dOp1, dOpN, dVar, dC, dCons, dNil, dgName, dRet, dRetN, dDrop, dNext, dLst, dTup, startE, endsD, oI, oInt1, oInt2, oNeg, oIs, oDivmod, dAnd, dOr, dNot, dAndV, dOrV, dNotV, dgSub, dgTup, dgCons, dgNil, oSetL, dPar, dPar3, dFor, diRange1, diRange2, dLc, dCall, dBM, isT, dSl, dP, dNoP, oEq, dChain, oRepr, oIsi, oBools, retD_d, isTy, dDict0, dDict, dPairs, isFl, isFls, isPy, isPys, isPyKV, look_d, look_c, lookC_lst, lookC_dct, lookC_frz, itM_some, oIx_v, ixV_lst, ixV_tup, ixV_scr, ixV_str, oAdd_v, addV_int, addV_str, addV_tup, addV_lst, oMul_v, mulV_int, mulV_lst, oLen_v, lenV_str, lenV_lst, lenV_tup, lenV_scr, oSl_v, slV_str, slV_tup, slV_lst, oIn_v, inV_lst, inV_tup, inV_sign, diSeq_v, seqV_lst, seqV_tup, seqV_str, fixW_d, fixW_c, fixV_frz, fixV_lst, fixV_dct, fixAll_nil, fixAll_cons, gcS, gcK, fixEnv_nil, fixEnv_none, fixEnv_d, fixEnv_c, fixEnv_tp, fixEnv_dead, fixEnv_sl, poison_sl, fixC, poison, poisonC_lst, poisonC_dct, poisonC_frz, poisonC_obj, dropTo0, dropTo1, dropTo2, dropTo3, dropTo4, dropTo5, dropTo6, madeQ, dMake, dMeth, DL.isObj, dFld, fldW, dCon, dSetF, fixO, frzS, diDK, diDP, keepD, oIxD, oInD, oLenD, oListK, oSetD, oPopAt, oIsiT, oInS, oTupleOf, oListOf, sd_inj, refsC_pc, toLocC_pc, unLocC_pc, poisonC_pc, diEnumA, enumV_lst, enumV_tup, dFix, dRev, oClear, dLc2]
          have hkn : (lstD (ancF (namesR R) (R.take j) [])).map (·.1) = namesR (R.take j) := by
            have := ancF_names (namesR R) (R.take j) []
            simp [namesR] at this
            simpa [lstD, namesR, Function.comp_def] using this
          have hln : (lstD (ancF (namesR R) (R.take j) [])).length ≤ 20 := by
            have := congrArg List.length hkn
            rw [List.length_map] at this
            rw [this]; simp [namesR]; omega
          refine ⟨by omega, fun o' => h4 _ _ ⟨a, b, d, some _, f, o', rfl, ?_⟩⟩
          rw [putS_new (by rw [hkn]; rw [hd1_keys] at q3; exact q3), show 0 + j + 1 = j + 1 by omega, List.take_add_one, hr]
          simp [ancF_snoc, lstD]
      · obtain ⟨a, b, d, e, f, o2, rfl, rfl⟩ := hJ
        have e9 : R.take (0 + ((sd (hd1 R)).map fun p => W.d p.1).length) = R := by simp [sd, hd1]
        rw [e9]
        simp [dSeq, dIfS, dAsg, dIf, dTest, dOp2, dOp1, dOpN, dVar, dC, dCons, dNil, dgName, dRet, dRetN, dDrop, dNext, dLst, dTup, startE, endsD, oI, oInt1, oInt2, oNeg, oIs, oDivmod, dAnd, dOr, dNot, dAndV, dOrV, dNotV, dgSub, dgTup, dgCons, dgNil, oSetL, dPar, dPar3, dFor, diRange1, diRange2, dLc, dCall, dBM, isT, dSl, dP, dNoP, oEq, dChain, oRepr, oIsi, oBools, retD_d, isTy, dDict0, dDict, dPairs, isFl, isFls, isPy, isPys, isPyKV, look_d, look_c, lookC_lst, lookC_dct, lookC_frz, itM_some, oIx_v, ixV_lst, ixV_tup, ixV_scr, ixV_str, oAdd_v, addV_int, addV_str, addV_tup, addV_lst, oMul_v, mulV_int, mulV_lst, oLen_v, lenV_str, lenV_lst, lenV_tup, lenV_scr, oSl_v, slV_str, slV_tup, slV_lst, oIn_v, inV_lst, inV_tup, inV_sign, diSeq_v, seqV_lst, seqV_tup, seqV_str, fixW_d, fixW_c, fixV_frz, fixV_lst, fixV_dct, fixAll_nil, fixAll_cons, gcS, gcK, fixEnv_nil, fixEnv_none, fixEnv_d, fixEnv_c, fixEnv_tp, fixEnv_dead, fixEnv_sl, poison_sl, fixC, poison, poisonC_lst, poisonC_dct, poisonC_frz, poisonC_obj, dropTo0, dropTo1, dropTo2, dropTo3, dropTo4, dropTo5, dropTo6, madeQ, dMake, dMeth, DL.isObj, dFld, fldW, dCon, dSetF, fixO, frzS, diDK, diDP, keepD, oIxD, oInD, oLenD, oListK, oSetD, oPopAt, oIsiT, oInS, oTupleOf, oListOf, sd_inj, refsC_pc, toLocC_pc, unLocC_pc, poisonC_pc, diEnumA, enumV_lst, enumV_tup, dFix, dRev, oClear, dLc2]
        refine ⟨[.c 2, .c 3], rfl, ?_⟩
        simp [dSeq, dIfS, dAsg, dIf, dTest, dOp2, dOp1, dOpN, dVar, dC, dCons, dNil, dgName, dRet, dRetN, dDrop, dNext, dLst, dTup, startE, endsD, oI, oInt1, oInt2, oNeg, oIs, oDivmod, dAnd, dOr, dNot, dAndV, dOrV, dNotV, dgSub, dgTup, dgCons, dgNil, oSetL, dPar, dPar3, dFor, diRange1, diRange2, dLc, dCall, dBM, isT, dSl, dP, dNoP, oEq, dChain, oRepr, oIsi, oBools, retD_d, isTy, dDict0, dDict, dPairs, isFl, isFls, isPy, isPys, isPyKV, look_d, look_c, lookC_lst, lookC_dct, lookC_frz, itM_some, oIx_v, ixV_lst, ixV_tup, ixV_scr, ixV_str, oAdd_v, addV_int, addV_str, addV_tup, addV_lst, oMul_v, mulV_int, mulV_lst, oLen_v, lenV_str, lenV_lst, lenV_tup, lenV_scr, oSl_v, slV_str, slV_tup, slV_lst, oIn_v, inV_lst, inV_tup, inV_sign, diSeq_v, seqV_lst, seqV_tup, seqV_str, fixW_d, fixW_c, fixV_frz, fixV_lst, fixV_dct, fixAll_nil, fixAll_cons, gcS, gcK, fixEnv_nil, fixEnv_none, fixEnv_d, fixEnv_c, fixEnv_tp, fixEnv_dead, fixEnv_sl, poison_sl, fixC, poison, poisonC_lst, poisonC_dct, poisonC_frz, poisonC_obj, dropTo0, dropTo1, dropTo2, dropTo3, dropTo4, dropTo5, dropTo6, madeQ, dMake, dMeth, DL.isObj, dFld, fldW, dCon, dSetF, fixO, frzS, diDK, diDP, keepD, oIxD, oInD, oLenD, oListK, oSetD, oPopAt, oIsiT, oInS, oTupleOf, oListOf, sd_inj, refsC_pc, toLocC_pc, unLocC_pc, poisonC_pc, diEnumA, enumV_lst, enumV_tup, dFix, dRev, oClear, dLc2]
        simpa [hier, ancR] using hq
  · simp [dSeq, dIfS, dAsg, dIf, dTest, dOp2, dOp1, dOpN, dVar, dC, dCons, dNil, dgName, dRet, dRetN, dDrop, dNext, dLst, dTup, startE, endsD, oI, oInt1, oInt2, oNeg, oIs, oDivmod, dAnd, dOr, dNot, dAndV, dOrV, dNotV, dgSub, dgTup, dgCons, dgNil, oSetL, dPar, dPar3, dFor, diRange1, diRange2, dLc, dCall, dBM, isT, dSl, dP, dNoP, oEq, dChain, oRepr, oIsi, oBools, retD_d, isTy, dDict0, dDict, dPairs, isFl, isFls, isPy, isPys, isPyKV, look_d, look_c, lookC_lst, lookC_dct, lookC_frz, itM_some, oIx_v, ixV_lst, ixV_tup, ixV_scr, ixV_str, oAdd_v, addV_int, addV_str, addV_tup, addV_lst, oMul_v, mulV_int, mulV_lst, oLen_v, lenV_str, lenV_lst, lenV_tup, lenV_scr, oSl_v, slV_str, slV_tup, slV_lst, oIn_v, inV_lst, inV_tup, inV_sign, diSeq_v, seqV_lst, seqV_tup, seqV_str, fixW_d, fixW_c, fixV_frz, fixV_lst, fixV_dct, fixAll_nil, fixAll_cons, gcS, gcK, fixEnv_nil, fixEnv_none, fixEnv_d, fixEnv_c, fixEnv_tp, fixEnv_dead, fixEnv_sl, poison_sl, fixC, poison, poisonC_lst, poisonC_dct, poisonC_frz, poisonC_obj, dropTo0, dropTo1, dropTo2, dropTo3, dropTo4, dropTo5, dropTo6, madeQ, dMake, dMeth, DL.isObj, dFld, fldW, dCon, dSetF, fixO, frzS, diDK, diDP, keepD, oIxD, oInD, oLenD, oListK, oSetD, oPopAt, oIsiT, oInS, oTupleOf, oListOf, sd_inj, refsC_pc, toLocC_pc, unLocC_pc, poisonC_pc, diEnumA, enumV_lst, enumV_tup, dFix, dRev, oClear, dLc2, t_Hierarchy_init]
    refine ⟨by omega, ?_⟩
    refine forD_inv (fun i env c => ∃ a b d e f o, env = [some (.c 0), some (.d (.tup (R.map rowD))), slt a, slt b, slt d, slt e, slt f] ∧ c = [.obj 0 [some (.c 1), none], .dct (sd (hd1 (R.take i))) o]) (fun _ _ _ hJ => ?_) _ 0 _ _ ⟨none, none, none, none, none, _, rfl, rfl⟩ (fun j x hx env c hJ D' h1 h2 h3 h4 h5 => ?_) fun env c hJ => ?_
    · exact True.intro
    · obtain ⟨a, b, d, e, f, o, rfl, rfl⟩ := hJ
      rw [pairUp_get] at hx
      have hx : ∃ r, R[j]? = some r ∧ x = .tp [.int (j : Nat), rowD r] := by
        cases e : R[j]? with
        | none => simp [e] at hx
        | some y => simp [e] at hx; exact ⟨y, rfl, hx.symm⟩
      obtain ⟨r, hr, rfl⟩ := hx
      obtain ⟨q1, q2, q3, q4⟩ := elem_row hR hr
      clear h1 h2 h3 h5
      rw [show 0 + j = j by omega]
      simp [dSeq, dIfS, dAsg, dIf, dTest, dOp2, dOp1, dOpN, dVar, dC, dCons, dNil, dgName, dRet, dRetN, dDrop, dNext, dLst, dTup, startE, endsD, oI, oInt1, oInt2, oNeg, oIs, oDivmod, dAnd, dOr, dNot, dAndV, dOrV, dNotV, dgSub, dgTup, dgCons, dgNil, oSetL, dPar, dPar3, dFor, diRange1, diRange2, dLc, dCall, dBM, isT, dSl, dP, dNoP, oEq, dChain, oRepr, oIsi, oBools, retD_d, isTy, dDict0, dDict, dPairs, isFl, isFls, isPy, isPys, isPyKV, look_d, look_c, lookC_lst, lookC_dct, lookC_frz, itM_some, oIx_v, ixV_lst, ixV_tup, ixV_scr, ixV_str, oAdd_v, addV_int, addV_str, addV_tup, addV_lst, oMul_v, mulV_int, mulV_lst, oLen_v, lenV_str, lenV_lst, lenV_tup, lenV_scr, oSl_v, slV_str, slV_tup, slV_lst, oIn_v, inV_lst, inV_tup, inV_sign, diSeq_v, seqV_lst, seqV_tup, seqV_str, fixW_d, fixW_c, fixV_frz, fixV_lst, fixV_dct, fixAll_nil, fixAll_cons, gcS, gcK, fixEnv_nil, fixEnv_none, fixEnv_d, fixEnv_c, fixEnv_tp, fixEnv_dead, fixEnv_sl, poison_sl, fixC, poison, poisonC_lst, poisonC_dct, poisonC_frz, poisonC_obj, dropTo0, dropTo1, dropTo2, dropTo3, dropTo4, dropTo5, dropTo6, madeQ, dMake, dMeth, DL.isObj, dFld, fldW, dCon, dSetF, fixO, frzS, diDK, diDP, keepD, oIxD, oInD, oLenD, oListK, oSetD, oPopAt, oIsiT, oInS, oTupleOf, oListOf, sd_inj, refsC_pc, toLocC_pc, unLocC_pc, poisonC_pc, diEnumA, enumV_lst, enumV_tup, dFix, dRev, oClear, dLc2]
      refine elem_at rfl q2 ?_
      rw [q1]
      simp [dSeq, dIfS, dAsg, dIf, dTest, dOp2, dOp1, dOpN, dVar, dC, dCons, dNil, dgName, dRet, dRetN, dDrop, dNext, dLst, dTup, startE, endsD, oI, oInt1, oInt2, oNeg, oIs, oDivmod, dAnd, dOr, dNot, dAndV, dOrV, dNotV, dgSub, dgTup, dgCons, dgNil, oSetL, dPar, dPar3, dFor, diRange1, diRange2, dLc, dCall, dBM, isT, dSl, dP, dNoP, oEq, dChain, oRepr, oIsi, oBools, retD_d, isTy, dDict0, dDict, dPairs, isFl, isFls, isPy, isPys, isPyKV, look_d, look_c, lookC_lst, lookC_dct, lookC_frz, itM_some, oIx_v, ixV_lst, ixV_tup, ixV_scr, ixV_str, oAdd_v, addV_int, addV_str, addV_tup, addV_lst, oMul_v, mulV_int, mulV_lst, oLen_v, lenV_str, lenV_lst, lenV_tup, lenV_scr, oSl_v, slV_str, slV_tup, slV_lst, oIn_v, inV_lst, inV_tup, inV_sign, diSeq_v, seqV_lst, seqV_tup, seqV_str, fixW_d, fixW_c, fixV_frz, fixV_lst, fixV_dct, fixAll_nil, fixAll_cons, gcS, gcK, fixEnv_nil, fixEnv_none, fixEnv_d, fixEnv_c, fixEnv_tp, fixEnv_dead, fixEnv_sl, poison_sl, fixC, poison, poisonC_lst, poisonC_dct, poisonC_frz, poisonC_obj, dropTo0, dropTo1, dropTo2, dropTo3, dropTo4, dropTo5, dropTo6, madeQ, dMake, dMeth, DL.isObj, dFld, fldW, dCon, dSetF, fixO, frzS, diDK, diDP, keepD, oIxD, oInD, oLenD, oListK, oSetD, oPopAt, oIsiT, oInS, oTupleOf, oListOf, sd_inj, refsC_pc, toLocC_pc, unLocC_pc, poisonC_pc, diEnumA, enumV_lst, enumV_tup, dFix, dRev, oClear, dLc2, rowD]
      refine ⟨by simp [hd1]; omega, fun o' => h4 _ _ ⟨some _, some _, some _, some _, some _, o', rfl, ?_⟩⟩
      rw [putS_new q3, show 0 + j + 1 = j + 1 by omega, List.take_add_one, hr]
      simp [hd1]
    · obtain ⟨a, b, d, e, f, o, rfl, rfl⟩ := hJ
      rw [pairUp_length, List.length_map, Nat.zero_add, List.take_length]
      simp [dSeq, dIfS, dAsg, dIf, dTest, dOp2, dOp1, dOpN, dVar, dC, dCons, dNil, dgName, dRet, dRetN, dDrop, dNext, dLst, dTup, startE, endsD, oI, oInt1, oInt2, oNeg, oIs, oDivmod, dAnd, dOr, dNot, dAndV, dOrV, dNotV, dgSub, dgTup, dgCons, dgNil, oSetL, dPar, dPar3, dFor, diRange1, diRange2, dLc, dCall, dBM, isT, dSl, dP, dNoP, oEq, dChain, oRepr, oIsi, oBools, retD_d, isTy, dDict0, dDict, dPairs, isFl, isFls, isPy, isPys, isPyKV, look_d, look_c, lookC_lst, lookC_dct, lookC_frz, itM_some, oIx_v, ixV_lst, ixV_tup, ixV_scr, ixV_str, oAdd_v, addV_int, addV_str, addV_tup, addV_lst, oMul_v, mulV_int, mulV_lst, oLen_v, lenV_str, lenV_lst, lenV_tup, lenV_scr, oSl_v, slV_str, slV_tup, slV_lst, oIn_v, inV_lst, inV_tup, inV_sign, diSeq_v, seqV_lst, seqV_tup, seqV_str, fixW_d, fixW_c, fixV_frz, fixV_lst, fixV_dct, fixAll_nil, fixAll_cons, gcS, gcK, fixEnv_nil, fixEnv_none, fixEnv_d, fixEnv_c, fixEnv_tp, fixEnv_dead, fixEnv_sl, poison_sl, fixC, poison, poisonC_lst, poisonC_dct, poisonC_frz, poisonC_obj, dropTo0, dropTo1, dropTo2, dropTo3, dropTo4, dropTo5, dropTo6, madeQ, dMake, dMeth, DL.isObj, dFld, fldW, dCon, dSetF, fixO, frzS, diDK, diDP, keepD, oIxD, oInD, oLenD, oListK, oSetD, oPopAt, oIsiT, oInS, oTupleOf, oListOf, sd_inj, refsC_pc, toLocC_pc, unLocC_pc, poisonC_pc, diEnumA, enumV_lst, enumV_tup, dFix, dRev, oClear, dLc2]
      rw [if_neg (by simp [hd1]; omega)]
      refine forD_inv (fun i env c => ∃ a b d e f o2, env = [some (.c 0), some (.d (.tup (R.map rowD))), slt a, slt b, slt d, slt e, slt f] ∧ c = [.obj 0 [some (.c 1), some (.c 2)], .dct (sd (hd1 R)) o, .dct (sd (lstD (ancF (namesR R) (R.take i) []))) o2]) (fun _ _ _ hJ => ?_) _ 0 _ _ ⟨a, b, d, e, f, _, rfl, rfl⟩ (fun j x hx env c hJ D' h1 h2 h3 h4 h5 => ?_) fun env c hJ => ?_
      · obtain ⟨a, b, d, e, f, o2, rfl, rfl⟩ := hJ
        rfl
      · obtain ⟨a, b, d, e, f, o2, rfl, rfl⟩ := hJ
        have hx : ∃ r, R[j]? = some r ∧ x = .d (.str r.1) := by simp [sd, hd1] at hx; obtain ⟨a, ⟨b, h⟩, rfl⟩ := hx; exact ⟨_, h, rfl⟩
        obtain ⟨r, hr, rfl⟩ := hx
        obtain ⟨q1, q2, q3, q4⟩ := elem_row hR hr
        clear h1 h2 h3 h5
        rw [show 0 + j = j by omega]
        simp [dSeq, dIfS, dAsg, dIf, dTest, dOp2, dOp1, dOpN, dVar, dC, dCons, dNil, dgName, dRet, dRetN, dDrop, dNext, dLst, dTup, startE, endsD, oI, oInt1, oInt2, oNeg, oIs, oDivmod, dAnd, dOr, dNot, dAndV, dOrV, dNotV, dgSub, dgTup, dgCons, dgNil, oSetL, dPar, dPar3, dFor, diRange1, diRange2, dLc, dCall, dBM, isT, dSl, dP, dNoP, oEq, dChain, oRepr, oIsi, oBools, retD_d, isTy, dDict0, dDict, dPairs, isFl, isFls, isPy, isPys, isPyKV, look_d, look_c, lookC_lst, lookC_dct, lookC_frz, itM_some, oIx_v, ixV_lst, ixV_tup, ixV_scr, ixV_str, oAdd_v, addV_int, addV_str, addV_tup, addV_lst, oMul_v, mulV_int, mulV_lst, oLen_v, lenV_str, lenV_lst, lenV_tup, lenV_scr, oSl_v, slV_str, slV_tup, slV_lst, oIn_v, inV_lst, inV_tup, inV_sign, diSeq_v, seqV_lst, seqV_tup, seqV_str, fixW_d, fixW_c, fixV_frz, fixV_lst, fixV_dct, fixAll_nil, fixAll_cons, gcS, gcK, fixEnv_nil, fixEnv_none, fixEnv_d, fixEnv_c, fixEnv_tp, fixEnv_dead, fixEnv_sl, poison_sl, fixC, poison, poisonC_lst, poisonC_dct, poisonC_frz, poisonC_obj, dropTo0, dropTo1, dropTo2, dropTo3, dropTo4, dropTo5, dropTo6, madeQ, dMake, dMeth, DL.isObj, dFld, fldW, dCon, dSetF, fixO, frzS, diDK, diDP, keepD, oIxD, oInD, oLenD, oListK, oSetD, oPopAt, oIsiT, oInS, oTupleOf, oListOf, sd_inj, refsC_pc, toLocC_pc, unLocC_pc, poisonC_pc, diEnumA, enumV_lst, enumV_tup, dFix, dRev, oClear, dLc2]
        refine ancT hR (by omega) (List.mem_of_getElem? hr) (fun s hs => ?_) (fun a ha => ?_) ?_
        · rw [ancF_names]; exact List.mem_append_right _ (q4 s hs)
        · have := ancF_len (namesR R) (R.take j) [] (by simp) a ha
          simp [namesR] at this; omega
        · simp [dSeq, dIfS, dAsg, dIf, dTest, dOp2, dOp1, dOpN, dVar, dC, dCons, dNil, dgName, dRet, dRetN, dDrop, dNext, dLst, dTup, startE, endsD, oI, oInt1, oInt2, oNeg, oIs, oDivmod, dAnd, dOr, dNot, dAndV, dOrV, dNotV, dgSub, dgTup, dgCons, dgNil, oSetL, dPar, dPar3, dFor, diRange1, diRange2, dLc, dCall, dBM, isT, dSl, dP, dNoP, oEq, dChain, oRepr, oIsi, oBools, retD_d, isTy, dDict0, dDict, dPairs, isFl, isFls, isPy, isPys, isPyKV, look_d, look_c, lookC_lst, lookC_dct, lookC_frz, itM_some, oIx_v, ixV_lst, ixV_tup, ixV_scr, ixV_str, oAdd_v, addV_int, addV_str, addV_tup, addV_lst, oMul_v, mulV_int, mulV_lst, oLen_v, lenV_str, lenV_lst, lenV_tup, lenV_scr, oSl_v, slV_str, slV_tup, slV_lst, oIn_v, inV_lst, inV_tup, inV_sign, diSeq_v, seqV_lst, seqV_tup, seqV_str, fixW_d, fixW_c, fixV_frz, fixV_lst, fixV_dct, fixAll_nil, fixAll_cons, gcS, gcK, fixEnv_nil, fixEnv_none, fixEnv_d, fixEnv_c, fixEnv_tp, fixEnv_dead, fixEnv_sl, poison_sl, fixC, poison, poisonC_lst, poisonC_dct, poisonC_frz, poisonC_obj, dropTo0, dropTo1, dropTo2, dropTo3, dropTo4, dropTo5, dropTo6, madeQ, dMake, dMeth, DL.isObj, dFld, fldW, dCon, dSetF, fixO, frzS, diDK, diDP, keepD, oIxD, oInD, oLenD, oListK, oSetD, oPopAt, oIsiT, oInS, oTupleOf, oListOf, sd_inj, refsC_pc, toLocC_pc, unLocC_pc, poisonC_pc, diEnumA, enumV_lst, enumV_tup, dFix, dRev, oClear, dLc2]
          have hkn : (lstD (ancF (namesR R) (R.take j) [])).map (·.1) = namesR (R.take j) := by
            have := ancF_names (namesR R) (R.take j) []
            simp [namesR] at this
            simpa [lstD, namesR, Function.comp_def] using this
          have hln : (lstD (ancF (namesR R) (R.take j) [])).length ≤ 20 := by
            have := congrArg List.length hkn
            rw [List.length_map] at this
            rw [this]; simp [namesR]; omega
          refine ⟨by omega, fun o' => h4 _ _ ⟨a, b, d, some _, f, o', rfl, ?_⟩⟩
          rw [putS_new (by rw [hkn]; rw [hd1_keys] at q3; exact q3), show 0 + j + 1 = j + 1 by omega, List.take_add_one, hr]
          simp [ancF_snoc, lstD]
      · obtain ⟨a, b, d, e, f, o2, rfl, rfl⟩ := hJ
        have e9 : R.take (0 + ((sd (hd1 R)).map fun p => W.d p.1).length) = R := by simp [sd, hd1]
        rw [e9]
        simp [dSeq, dIfS, dAsg, dIf, dTest, dOp2, dOp1, dOpN, dVar, dC, dCons, dNil, dgName, dRet, dRetN, dDrop, dNext, dLst, dTup, startE, endsD, oI, oInt1, oInt2, oNeg, oIs, oDivmod, dAnd, dOr, dNot, dAndV, dOrV, dNotV, dgSub, dgTup, dgCons, dgNil, oSetL, dPar, dPar3, dFor, diRange1, diRange2, dLc, dCall, dBM, isT, dSl, dP, dNoP, oEq, dChain, oRepr, oIsi, oBools, retD_d, isTy, dDict0, dDict, dPairs, isFl, isFls, isPy, isPys, isPyKV, look_d, look_c, lookC_lst, lookC_dct, lookC_frz, itM_some, oIx_v, ixV_lst, ixV_tup, ixV_scr, ixV_str, oAdd_v, addV_int, addV_str, addV_tup, addV_lst, oMul_v, mulV_int, mulV_lst, oLen_v, lenV_str, lenV_lst, lenV_tup, lenV_scr, oSl_v, slV_str, slV_tup, slV_lst, oIn_v, inV_lst, inV_tup, inV_sign, diSeq_v, seqV_lst, seqV_tup, seqV_str, fixW_d, fixW_c, fixV_frz, fixV_lst, fixV_dct, fixAll_nil, fixAll_cons, gcS, gcK, fixEnv_nil, fixEnv_none, fixEnv_d, fixEnv_c, fixEnv_tp, fixEnv_dead, fixEnv_sl, poison_sl, fixC, poison, poisonC_lst, poisonC_dct, poisonC_frz, poisonC_obj, dropTo0, dropTo1, dropTo2, dropTo3, dropTo4, dropTo5, dropTo6, madeQ, dMake, dMeth, DL.isObj, dFld, fldW, dCon, dSetF, fixO, frzS, diDK, diDP, keepD, oIxD, oInD, oLenD, oListK, oSetD, oPopAt, oIsiT, oInS, oTupleOf, oListOf, sd_inj, refsC_pc, toLocC_pc, unLocC_pc, poisonC_pc, diEnumA, enumV_lst, enumV_tup, dFix, dRev, oClear, dLc2]
        refine ⟨[.c 1, .c 2], rfl, ?_⟩
        simp [dSeq, dIfS, dAsg, dIf, dTest, dOp2, dOp1, dOpN, dVar, dC, dCons, dNil, dgName, dRet, dRetN, dDrop, dNext, dLst, dTup, startE, endsD, oI, oInt1, oInt2, oNeg, oIs, oDivmod, dAnd, dOr, dNot, dAndV, dOrV, dNotV, dgSub, dgTup, dgCons, dgNil, oSetL, dPar, dPar3, dFor, diRange1, diRange2, dLc, dCall, dBM, isT, dSl, dP, dNoP, oEq, dChain, oRepr, oIsi, oBools, retD_d, isTy, dDict0, dDict, dPairs, isFl, isFls, isPy, isPys, isPyKV, look_d, look_c, lookC_lst, lookC_dct, lookC_frz, itM_some, oIx_v, ixV_lst, ixV_tup, ixV_scr, ixV_str, oAdd_v, addV_int, addV_str, addV_tup, addV_lst, oMul_v, mulV_int, mulV_lst, oLen_v, lenV_str, lenV_lst, lenV_tup, lenV_scr, oSl_v, slV_str, slV_tup, slV_lst, oIn_v, inV_lst, inV_tup, inV_sign, diSeq_v, seqV_lst, seqV_tup, seqV_str, fixW_d, fixW_c, fixV_frz, fixV_lst, fixV_dct, fixAll_nil, fixAll_cons, gcS, gcK, fixEnv_nil, fixEnv_none, fixEnv_d, fixEnv_c, fixEnv_tp, fixEnv_dead, fixEnv_sl, poison_sl, fixC, poison, poisonC_lst, poisonC_dct, poisonC_frz, poisonC_obj, dropTo0, dropTo1, dropTo2, dropTo3, dropTo4, dropTo5, dropTo6, madeQ, dMake, dMeth, DL.isObj, dFld, fldW, dCon, dSetF, fixO, frzS, diDK, diDP, keepD, oIxD, oInD, oLenD, oListK, oSetD, oPopAt, oIsiT, oInS, oTupleOf, oListOf, sd_inj, refsC_pc, toLocC_pc, unLocC_pc, poisonC_pc, diEnumA, enumV_lst, enumV_tup, dFix, dRev, oClear, dLc2]
        simpa [hier, ancR] using hq
end DH
namespace DH
open PySem PySem.Spec L2 DL
theorem p_Hierarchy_has_class : ∀ ws cs Q E, sl_Hierarchy_has_class ws cs Q E → t_Hierarchy_has_class (endsD cs.length Q E) (startE N_Hierarchy_has_class ws) cs := by
  rintro ws cs Q E ⟨R, x, rfl, rfl, ho, hq⟩
  have ht := okV_tag ho
  cases x with
  | str z =>
    simp [dSeq, dIfS, dAsg, dIf, dTest, dOp2, dOp1, dOpN, dVar, dC, dCons, dNil, dgName, dRet, dRetN, dDrop, dNext, dLst, dTup, startE, endsD, oI, oInt1, oInt2, oNeg, oIs, oDivmod, dAnd, dOr, dNot, dAndV, dOrV, dNotV, dgSub, dgTup, dgCons, dgNil, oSetL, dPar, dPar3, dFor, diRange1, diRange2, dLc, dCall, dBM, isT, dSl, dP, dNoP, oEq, dChain, oRepr, oIsi, oBools, retD_d, isTy, dDict0, dDict, dPairs, isFl, isFls, isPy, isPys, isPyKV, look_d, look_c, lookC_lst, lookC_dct, lookC_frz, itM_some, oIx_v, ixV_lst, ixV_tup, ixV_scr, ixV_str, oAdd_v, addV_int, addV_str, addV_tup, addV_lst, oMul_v, mulV_int, mulV_lst, oLen_v, lenV_str, lenV_lst, lenV_tup, lenV_scr, oSl_v, slV_str, slV_tup, slV_lst, oIn_v, inV_lst, inV_tup, inV_sign, diSeq_v, seqV_lst, seqV_tup, seqV_str, fixW_d, fixW_c, fixV_frz, fixV_lst, fixV_dct, fixAll_nil, fixAll_cons, gcS, gcK, fixEnv_nil, fixEnv_none, fixEnv_d, fixEnv_c, fixEnv_tp, fixEnv_dead, fixEnv_sl, poison_sl, fixC, poison, poisonC_lst, poisonC_dct, poisonC_frz, poisonC_obj, dropTo0, dropTo1, dropTo2, dropTo3, dropTo4, dropTo5, dropTo6, madeQ, dMake, dMeth, DL.isObj, dFld, fldW, dCon, dSetF, fixO, frzS, diDK, diDP, keepD, oIxD, oInD, oLenD, oListK, oSetD, oPopAt, oIsiT, oInS, oTupleOf, oListOf, sd_inj, refsC_pc, toLocC_pc, unLocC_pc, poisonC_pc, diEnumA, enumV_lst, enumV_tup, dFix, dRev, oClear, dLc2, t_Hierarchy_has_class, hier]
    rw [getS_isSome, hd1_keys]
    simpa [hasN] using hq
  | obj c fs => simp [okV] at ho
  | oth v => simp [okV] at ho
  | _ =>
    simp [dSeq, dIfS, dAsg, dIf, dTest, dOp2, dOp1, dOpN, dVar, dC, dCons, dNil, dgName, dRet, dRetN, dDrop, dNext, dLst, dTup, startE, endsD, oI, oInt1, oInt2, oNeg, oIs, oDivmod, dAnd, dOr, dNot, dAndV, dOrV, dNotV, dgSub, dgTup, dgCons, dgNil, oSetL, dPar, dPar3, dFor, diRange1, diRange2, dLc, dCall, dBM, isT, dSl, dP, dNoP, oEq, dChain, oRepr, oIsi, oBools, retD_d, isTy, dDict0, dDict, dPairs, isFl, isFls, isPy, isPys, isPyKV, look_d, look_c, lookC_lst, lookC_dct, lookC_frz, itM_some, oIx_v, ixV_lst, ixV_tup, ixV_scr, ixV_str, oAdd_v, addV_int, addV_str, addV_tup, addV_lst, oMul_v, mulV_int, mulV_lst, oLen_v, lenV_str, lenV_lst, lenV_tup, lenV_scr, oSl_v, slV_str, slV_tup, slV_lst, oIn_v, inV_lst, inV_tup, inV_sign, diSeq_v, seqV_lst, seqV_tup, seqV_str, fixW_d, fixW_c, fixV_frz, fixV_lst, fixV_dct, fixAll_nil, fixAll_cons, gcS, gcK, fixEnv_nil, fixEnv_none, fixEnv_d, fixEnv_c, fixEnv_tp, fixEnv_dead, fixEnv_sl, poison_sl, fixC, poison, poisonC_lst, poisonC_dct, poisonC_frz, poisonC_obj, dropTo0, dropTo1, dropTo2, dropTo3, dropTo4, dropTo5, dropTo6, madeQ, dMake, dMeth, DL.isObj, dFld, fldW, dCon, dSetF, fixO, frzS, diDK, diDP, keepD, oIxD, oInD, oLenD, oListK, oSetD, oPopAt, oIsiT, oInS, oTupleOf, oListOf, sd_inj, refsC_pc, toLocC_pc, unLocC_pc, poisonC_pc, diEnumA, enumV_lst, enumV_tup, dFix, dRev, oClear, dLc2, t_Hierarchy_has_class, hier]
    simpa [hasN] using hq
theorem has0 {R : List Row} {x : D} {g : Cs} {Q : DQ} {E : DX} (ho : okV x = true) (h : Q (.d (.bl (hasN R x))) g) : sp_Hierarchy_has_class [.d (hier R), .d x] g Q E := by
  simp [sp_Hierarchy_has_class, loc, locAt, locJ, namesOf, refsC_pc, refsC_lst, refsC_dct, refsC_frz, toLocC_pc, toLocC_lst, toLocC_dct, toLocC_frz, unLocC_pc, unLocC_lst, unLocC_dct, unLocC_frz, getCs, inJ, toLoc, unLoc, putC, sl_Hierarchy_has_class]
  exact ⟨R, x, ⟨rfl, rfl⟩, ho, by simpa using h⟩
theorem p_is_count : ∀ ws cs Q E, sl_is_count ws cs Q E → t_is_count (endsD cs.length Q E) (startE N_is_count ws) cs := by
  rintro ws cs Q E ⟨x, rfl, rfl, ht, hq⟩
  cases x with
  | int i =>
    simp [dSeq, dIfS, dAsg, dIf, dTest, dOp2, dOp1, dOpN, dVar, dC, dCons, dNil, dgName, dRet, dRetN, dDrop, dNext, dLst, dTup, startE, endsD, oI, oInt1, oInt2, oNeg, oIs, oDivmod, dAnd, dOr, dNot, dAndV, dOrV, dNotV, dgSub, dgTup, dgCons, dgNil, oSetL, dPar, dPar3, dFor, diRange1, diRange2, dLc, dCall, dBM, isT, dSl, dP, dNoP, oEq, dChain, oRepr, oIsi, oBools, retD_d, isTy, dDict0, dDict, dPairs, isFl, isFls, isPy, isPys, isPyKV, look_d, look_c, lookC_lst, lookC_dct, lookC_frz, itM_some, oIx_v, ixV_lst, ixV_tup, ixV_scr, ixV_str, oAdd_v, addV_int, addV_str, addV_tup, addV_lst, oMul_v, mulV_int, mulV_lst, oLen_v, lenV_str, lenV_lst, lenV_tup, lenV_scr, oSl_v, slV_str, slV_tup, slV_lst, oIn_v, inV_lst, inV_tup, inV_sign, diSeq_v, seqV_lst, seqV_tup, seqV_str, fixW_d, fixW_c, fixV_frz, fixV_lst, fixV_dct, fixAll_nil, fixAll_cons, gcS, gcK, fixEnv_nil, fixEnv_none, fixEnv_d, fixEnv_c, fixEnv_tp, fixEnv_dead, fixEnv_sl, poison_sl, fixC, poison, poisonC_lst, poisonC_dct, poisonC_frz, poisonC_obj, dropTo0, dropTo1, dropTo2, dropTo3, dropTo4, dropTo5, dropTo6, madeQ, dMake, dMeth, DL.isObj, dFld, fldW, dCon, dSetF, fixO, frzS, diDK, diDP, keepD, oIxD, oInD, oLenD, oListK, oSetD, oPopAt, oIsiT, oInS, oTupleOf, oListOf, sd_inj, refsC_pc, toLocC_pc, unLocC_pc, poisonC_pc, diEnumA, enumV_lst, enumV_tup, dFix, dRev, oClear, dLc2, t_is_count]
    split
    · rename_i h
      simpa [cntB, h] using hq
    · rename_i h
      simpa [cntB, h] using hq
  | bl b =>
    simp [dSeq, dIfS, dAsg, dIf, dTest, dOp2, dOp1, dOpN, dVar, dC, dCons, dNil, dgName, dRet, dRetN, dDrop, dNext, dLst, dTup, startE, endsD, oI, oInt1, oInt2, oNeg, oIs, oDivmod, dAnd, dOr, dNot, dAndV, dOrV, dNotV, dgSub, dgTup, dgCons, dgNil, oSetL, dPar, dPar3, dFor, diRange1, diRange2, dLc, dCall, dBM, isT, dSl, dP, dNoP, oEq, dChain, oRepr, oIsi, oBools, retD_d, isTy, dDict0, dDict, dPairs, isFl, isFls, isPy, isPys, isPyKV, look_d, look_c, lookC_lst, lookC_dct, lookC_frz, itM_some, oIx_v, ixV_lst, ixV_tup, ixV_scr, ixV_str, oAdd_v, addV_int, addV_str, addV_tup, addV_lst, oMul_v, mulV_int, mulV_lst, oLen_v, lenV_str, lenV_lst, lenV_tup, lenV_scr, oSl_v, slV_str, slV_tup, slV_lst, oIn_v, inV_lst, inV_tup, inV_sign, diSeq_v, seqV_lst, seqV_tup, seqV_str, fixW_d, fixW_c, fixV_frz, fixV_lst, fixV_dct, fixAll_nil, fixAll_cons, gcS, gcK, fixEnv_nil, fixEnv_none, fixEnv_d, fixEnv_c, fixEnv_tp, fixEnv_dead, fixEnv_sl, poison_sl, fixC, poison, poisonC_lst, poisonC_dct, poisonC_frz, poisonC_obj, dropTo0, dropTo1, dropTo2, dropTo3, dropTo4, dropTo5, dropTo6, madeQ, dMake, dMeth, DL.isObj, dFld, fldW, dCon, dSetF, fixO, frzS, diDK, diDP, keepD, oIxD, oInD, oLenD, oListK, oSetD, oPopAt, oIsiT, oInS, oTupleOf, oListOf, sd_inj, refsC_pc, toLocC_pc, unLocC_pc, poisonC_pc, diEnumA, enumV_lst, enumV_tup, dFix, dRev, oClear, dLc2, t_is_count]
    simpa [cntB] using hq
  | oth v => simp [isTag] at ht
  | obj c fs => simp [isTag] at ht
  | _ =>
    simp [dSeq, dIfS, dAsg, dIf, dTest, dOp2, dOp1, dOpN, dVar, dC, dCons, dNil, dgName, dRet, dRetN, dDrop, dNext, dLst, dTup, startE, endsD, oI, oInt1, oInt2, oNeg, oIs, oDivmod, dAnd, dOr, dNot, dAndV, dOrV, dNotV, dgSub, dgTup, dgCons, dgNil, oSetL, dPar, dPar3, dFor, diRange1, diRange2, dLc, dCall, dBM, isT, dSl, dP, dNoP, oEq, dChain, oRepr, oIsi, oBools, retD_d, isTy, dDict0, dDict, dPairs, isFl, isFls, isPy, isPys, isPyKV, look_d, look_c, lookC_lst, lookC_dct, lookC_frz, itM_some, oIx_v, ixV_lst, ixV_tup, ixV_scr, ixV_str, oAdd_v, addV_int, addV_str, addV_tup, addV_lst, oMul_v, mulV_int, mulV_lst, oLen_v, lenV_str, lenV_lst, lenV_tup, lenV_scr, oSl_v, slV_str, slV_tup, slV_lst, oIn_v, inV_lst, inV_tup, inV_sign, diSeq_v, seqV_lst, seqV_tup, seqV_str, fixW_d, fixW_c, fixV_frz, fixV_lst, fixV_dct, fixAll_nil, fixAll_cons, gcS, gcK, fixEnv_nil, fixEnv_none, fixEnv_d, fixEnv_c, fixEnv_tp, fixEnv_dead, fixEnv_sl, poison_sl, fixC, poison, poisonC_lst, poisonC_dct, poisonC_frz, poisonC_obj, dropTo0, dropTo1, dropTo2, dropTo3, dropTo4, dropTo5, dropTo6, madeQ, dMake, dMeth, DL.isObj, dFld, fldW, dCon, dSetF, fixO, frzS, diDK, diDP, keepD, oIxD, oInD, oLenD, oListK, oSetD, oPopAt, oIsiT, oInS, oTupleOf, oListOf, sd_inj, refsC_pc, toLocC_pc, unLocC_pc, poisonC_pc, diEnumA, enumV_lst, enumV_tup, dFix, dRev, oClear, dLc2, t_is_count]
    simpa [cntB] using hq
theorem cnt0 {x : D} {g : Cs} {Q : DQ} {E : DX} (ht : isTag x = true) (h : Q (.d (.bl (cntB x))) g) : sp_is_count [.d x] g Q E := by
  simp [sp_is_count, loc, locAt, locJ, namesOf, refsC_pc, refsC_lst, refsC_dct, refsC_frz, toLocC_pc, toLocC_lst, toLocC_dct, toLocC_frz, unLocC_pc, unLocC_lst, unLocC_dct, unLocC_frz, getCs, inJ, toLoc, unLoc, putC, sl_is_count]
  exact ⟨ht, by simpa using h⟩
theorem p_is_point : ∀ ws cs Q E, sl_is_point ws cs Q E → t_is_point (endsD cs.length Q E) (startE N_is_point ws) cs := by
  rintro ws cs Q E ⟨R, w, x, rfl, hat, ho, hq⟩
  have sz := sz6
  rcases hat with ⟨rfl, rfl⟩ | ⟨xs, rfl, rfl, rfl⟩
  · cases x with
    | tup xs =>
      simp [okV] at ho
      simp [dSeq, dIfS, dAsg, dIf, dTest, dOp2, dOp1, dOpN, dVar, dC, dCons, dNil, dgName, dRet, dRetN, dDrop, dNext, dLst, dTup, startE, endsD, oI, oInt1, oInt2, oNeg, oIs, oDivmod, dAnd, dOr, dNot, dAndV, dOrV, dNotV, dgSub, dgTup, dgCons, dgNil, oSetL, dPar, dPar3, dFor, diRange1, diRange2, dLc, dCall, dBM, isT, dSl, dP, dNoP, oEq, dChain, oRepr, oIsi, oBools, retD_d, isTy, dDict0, dDict, dPairs, isFl, isFls, isPy, isPys, isPyKV, look_d, look_c, lookC_lst, lookC_dct, lookC_frz, itM_some, oIx_v, ixV_lst, ixV_tup, ixV_scr, ixV_str, oAdd_v, addV_int, addV_str, addV_tup, addV_lst, oMul_v, mulV_int, mulV_lst, oLen_v, lenV_str, lenV_lst, lenV_tup, lenV_scr, oSl_v, slV_str, slV_tup, slV_lst, oIn_v, inV_lst, inV_tup, inV_sign, diSeq_v, seqV_lst, seqV_tup, seqV_str, fixW_d, fixW_c, fixV_frz, fixV_lst, fixV_dct, fixAll_nil, fixAll_cons, gcS, gcK, fixEnv_nil, fixEnv_none, fixEnv_d, fixEnv_c, fixEnv_tp, fixEnv_dead, fixEnv_sl, poison_sl, fixC, poison, poisonC_lst, poisonC_dct, poisonC_frz, poisonC_obj, dropTo0, dropTo1, dropTo2, dropTo3, dropTo4, dropTo5, dropTo6, madeQ, dMake, dMeth, DL.isObj, dFld, fldW, dCon, dSetF, fixO, frzS, diDK, diDP, keepD, oIxD, oInD, oLenD, oListK, oSetD, oPopAt, oIsiT, oInS, oTupleOf, oListOf, sd_inj, refsC_pc, toLocC_pc, unLocC_pc, poisonC_pc, diEnumA, enumV_lst, enumV_tup, dFix, dRev, oClear, dLc2, t_is_point]
      refine cnt0 rfl ?_
      by_cases hc : 1 ≤ xs.length ∧ xs.length ≤ 3
      · have e : cntB (.int xs.length) = true := by simp [cntB]; omega
        rw [e]
        simp [dSeq, dIfS, dAsg, dIf, dTest, dOp2, dOp1, dOpN, dVar, dC, dCons, dNil, dgName, dRet, dRetN, dDrop, dNext, dLst, dTup, startE, endsD, oI, oInt1, oInt2, oNeg, oIs, oDivmod, dAnd, dOr, dNot, dAndV, dOrV, dNotV, dgSub, dgTup, dgCons, dgNil, oSetL, dPar, dPar3, dFor, diRange1, diRange2, dLc, dCall, dBM, isT, dSl, dP, dNoP, oEq, dChain, oRepr, oIsi, oBools, retD_d, isTy, dDict0, dDict, dPairs, isFl, isFls, isPy, isPys, isPyKV, look_d, look_c, lookC_lst, lookC_dct, lookC_frz, itM_some, oIx_v, ixV_lst, ixV_tup, ixV_scr, ixV_str, oAdd_v, addV_int, addV_str, addV_tup, addV_lst, oMul_v, mulV_int, mulV_lst, oLen_v, lenV_str, lenV_lst, lenV_tup, lenV_scr, oSl_v, slV_str, slV_tup, slV_lst, oIn_v, inV_lst, inV_tup, inV_sign, diSeq_v, seqV_lst, seqV_tup, seqV_str, fixW_d, fixW_c, fixV_frz, fixV_lst, fixV_dct, fixAll_nil, fixAll_cons, gcS, gcK, fixEnv_nil, fixEnv_none, fixEnv_d, fixEnv_c, fixEnv_tp, fixEnv_dead, fixEnv_sl, poison_sl, fixC, poison, poisonC_lst, poisonC_dct, poisonC_frz, poisonC_obj, dropTo0, dropTo1, dropTo2, dropTo3, dropTo4, dropTo5, dropTo6, madeQ, dMake, dMeth, DL.isObj, dFld, fldW, dCon, dSetF, fixO, frzS, diDK, diDP, keepD, oIxD, oInD, oLenD, oListK, oSetD, oPopAt, oIsiT, oInS, oTupleOf, oListOf, sd_inj, refsC_pc, toLocC_pc, unLocC_pc, poisonC_pc, diEnumA, enumV_lst, enumV_tup, dFix, dRev, oClear, dLc2]
        refine lcD_pure (fun w => .bl (hasN R (unW w))) rfl rfl True.intro (by simp; omega) (fun w hw K hK => ?_) ?_
        · obtain ⟨y, hy, rfl⟩ := List.mem_map.mp hw
          simp [dSeq, dIfS, dAsg, dIf, dTest, dOp2, dOp1, dOpN, dVar, dC, dCons, dNil, dgName, dRet, dRetN, dDrop, dNext, dLst, dTup, startE, endsD, oI, oInt1, oInt2, oNeg, oIs, oDivmod, dAnd, dOr, dNot, dAndV, dOrV, dNotV, dgSub, dgTup, dgCons, dgNil, oSetL, dPar, dPar3, dFor, diRange1, diRange2, dLc, dCall, dBM, isT, dSl, dP, dNoP, oEq, dChain, oRepr, oIsi, oBools, retD_d, isTy, dDict0, dDict, dPairs, isFl, isFls, isPy, isPys, isPyKV, look_d, look_c, lookC_lst, lookC_dct, lookC_frz, itM_some, oIx_v, ixV_lst, ixV_tup, ixV_scr, ixV_str, oAdd_v, addV_int, addV_str, addV_tup, addV_lst, oMul_v, mulV_int, mulV_lst, oLen_v, lenV_str, lenV_lst, lenV_tup, lenV_scr, oSl_v, slV_str, slV_tup, slV_lst, oIn_v, inV_lst, inV_tup, inV_sign, diSeq_v, seqV_lst, seqV_tup, seqV_str, fixW_d, fixW_c, fixV_frz, fixV_lst, fixV_dct, fixAll_nil, fixAll_cons, gcS, gcK, fixEnv_nil, fixEnv_none, fixEnv_d, fixEnv_c, fixEnv_tp, fixEnv_dead, fixEnv_sl, poison_sl, fixC, poison, poisonC_lst, poisonC_dct, poisonC_frz, poisonC_obj, dropTo0, dropTo1, dropTo2, dropTo3, dropTo4, dropTo5, dropTo6, madeQ, dMake, dMeth, DL.isObj, dFld, fldW, dCon, dSetF, fixO, frzS, diDK, diDP, keepD, oIxD, oInD, oLenD, oListK, oSetD, oPopAt, oIsiT, oInS, oTupleOf, oListOf, sd_inj, refsC_pc, toLocC_pc, unLocC_pc, poisonC_pc, diEnumA, enumV_lst, enumV_tup, dFix, dRev, oClear, dLc2, wipeE, hier]
          refine has0 (okVs_mem ho.2 hy) ?_
          simpa [dSeq, dIfS, dAsg, dIf, dTest, dOp2, dOp1, dOpN, dVar, dC, dCons, dNil, dgName, dRet, dRetN, dDrop, dNext, dLst, dTup, startE, endsD, oI, oInt1, oInt2, oNeg, oIs, oDivmod, dAnd, dOr, dNot, dAndV, dOrV, dNotV, dgSub, dgTup, dgCons, dgNil, oSetL, dPar, dPar3, dFor, diRange1, diRange2, dLc, dCall, dBM, isT, dSl, dP, dNoP, oEq, dChain, oRepr, oIsi, oBools, retD_d, isTy, dDict0, dDict, dPairs, isFl, isFls, isPy, isPys, isPyKV, look_d, look_c, lookC_lst, lookC_dct, lookC_frz, itM_some, oIx_v, ixV_lst, ixV_tup, ixV_scr, ixV_str, oAdd_v, addV_int, addV_str, addV_tup, addV_lst, oMul_v, mulV_int, mulV_lst, oLen_v, lenV_str, lenV_lst, lenV_tup, lenV_scr, oSl_v, slV_str, slV_tup, slV_lst, oIn_v, inV_lst, inV_tup, inV_sign, diSeq_v, seqV_lst, seqV_tup, seqV_str, fixW_d, fixW_c, fixV_frz, fixV_lst, fixV_dct, fixAll_nil, fixAll_cons, gcS, gcK, fixEnv_nil, fixEnv_none, fixEnv_d, fixEnv_c, fixEnv_tp, fixEnv_dead, fixEnv_sl, poison_sl, fixC, poison, poisonC_lst, poisonC_dct, poisonC_frz, poisonC_obj, dropTo0, dropTo1, dropTo2, dropTo3, dropTo4, dropTo5, dropTo6, madeQ, dMake, dMeth, DL.isObj, dFld, fldW, dCon, dSetF, fixO, frzS, diDK, diDP, keepD, oIxD, oInD, oLenD, oListK, oSetD, oPopAt, oIsiT, oInS, oTupleOf, oListOf, sd_inj, refsC_pc, toLocC_pc, unLocC_pc, poisonC_pc, diEnumA, enumV_lst, enumV_tup, dFix, dRev, oClear, dLc2, unW] using hK []
        · simp [Function.comp_def, bools_map, unW]
          simpa [dropTo0, ptB, hc.1, hc.2] using hq
      · have e : cntB (.int xs.length) = false := by simp [cntB]; omega
        rw [e]
        simp [dSeq, dIfS, dAsg, dIf, dTest, dOp2, dOp1, dOpN, dVar, dC, dCons, dNil, dgName, dRet, dRetN, dDrop, dNext, dLst, dTup, startE, endsD, oI, oInt1, oInt2, oNeg, oIs, oDivmod, dAnd, dOr, dNot, dAndV, dOrV, dNotV, dgSub, dgTup, dgCons, dgNil, oSetL, dPar, dPar3, dFor, diRange1, diRange2, dLc, dCall, dBM, isT, dSl, dP, dNoP, oEq, dChain, oRepr, oIsi, oBools, retD_d, isTy, dDict0, dDict, dPairs, isFl, isFls, isPy, isPys, isPyKV, look_d, look_c, lookC_lst, lookC_dct, lookC_frz, itM_some, oIx_v, ixV_lst, ixV_tup, ixV_scr, ixV_str, oAdd_v, addV_int, addV_str, addV_tup, addV_lst, oMul_v, mulV_int, mulV_lst, oLen_v, lenV_str, lenV_lst, lenV_tup, lenV_scr, oSl_v, slV_str, slV_tup, slV_lst, oIn_v, inV_lst, inV_tup, inV_sign, diSeq_v, seqV_lst, seqV_tup, seqV_str, fixW_d, fixW_c, fixV_frz, fixV_lst, fixV_dct, fixAll_nil, fixAll_cons, gcS, gcK, fixEnv_nil, fixEnv_none, fixEnv_d, fixEnv_c, fixEnv_tp, fixEnv_dead, fixEnv_sl, poison_sl, fixC, poison, poisonC_lst, poisonC_dct, poisonC_frz, poisonC_obj, dropTo0, dropTo1, dropTo2, dropTo3, dropTo4, dropTo5, dropTo6, madeQ, dMake, dMeth, DL.isObj, dFld, fldW, dCon, dSetF, fixO, frzS, diDK, diDP, keepD, oIxD, oInD, oLenD, oListK, oSetD, oPopAt, oIsiT, oInS, oTupleOf, oListOf, sd_inj, refsC_pc, toLocC_pc, unLocC_pc, poisonC_pc, diEnumA, enumV_lst, enumV_tup, dFix, dRev, oClear, dLc2]
        have e2 : ptB R (.tup xs) = false := by simp only [ptB, decide_eq_false hc, Bool.false_and]
        rw [e2] at hq
        simpa using hq
    | obj c fs => simp [okV] at ho
    | oth v => simp [okV] at ho
    | _ =>
      simp [dSeq, dIfS, dAsg, dIf, dTest, dOp2, dOp1, dOpN, dVar, dC, dCons, dNil, dgName, dRet, dRetN, dDrop, dNext, dLst, dTup, startE, endsD, oI, oInt1, oInt2, oNeg, oIs, oDivmod, dAnd, dOr, dNot, dAndV, dOrV, dNotV, dgSub, dgTup, dgCons, dgNil, oSetL, dPar, dPar3, dFor, diRange1, diRange2, dLc, dCall, dBM, isT, dSl, dP, dNoP, oEq, dChain, oRepr, oIsi, oBools, retD_d, isTy, dDict0, dDict, dPairs, isFl, isFls, isPy, isPys, isPyKV, look_d, look_c, lookC_lst, lookC_dct, lookC_frz, itM_some, oIx_v, ixV_lst, ixV_tup, ixV_scr, ixV_str, oAdd_v, addV_int, addV_str, addV_tup, addV_lst, oMul_v, mulV_int, mulV_lst, oLen_v, lenV_str, lenV_lst, lenV_tup, lenV_scr, oSl_v, slV_str, slV_tup, slV_lst, oIn_v, inV_lst, inV_tup, inV_sign, diSeq_v, seqV_lst, seqV_tup, seqV_str, fixW_d, fixW_c, fixV_frz, fixV_lst, fixV_dct, fixAll_nil, fixAll_cons, gcS, gcK, fixEnv_nil, fixEnv_none, fixEnv_d, fixEnv_c, fixEnv_tp, fixEnv_dead, fixEnv_sl, poison_sl, fixC, poison, poisonC_lst, poisonC_dct, poisonC_frz, poisonC_obj, dropTo0, dropTo1, dropTo2, dropTo3, dropTo4, dropTo5, dropTo6, madeQ, dMake, dMeth, DL.isObj, dFld, fldW, dCon, dSetF, fixO, frzS, diDK, diDP, keepD, oIxD, oInD, oLenD, oListK, oSetD, oPopAt, oIsiT, oInS, oTupleOf, oListOf, sd_inj, refsC_pc, toLocC_pc, unLocC_pc, poisonC_pc, diEnumA, enumV_lst, enumV_tup, dFix, dRev, oClear, dLc2, t_is_point]
      simpa [ptB] using hq
  · simp [dSeq, dIfS, dAsg, dIf, dTest, dOp2, dOp1, dOpN, dVar, dC, dCons, dNil, dgName, dRet, dRetN, dDrop, dNext, dLst, dTup, startE, endsD, oI, oInt1, oInt2, oNeg, oIs, oDivmod, dAnd, dOr, dNot, dAndV, dOrV, dNotV, dgSub, dgTup, dgCons, dgNil, oSetL, dPar, dPar3, dFor, diRange1, diRange2, dLc, dCall, dBM, isT, dSl, dP, dNoP, oEq, dChain, oRepr, oIsi, oBools, retD_d, isTy, dDict0, dDict, dPairs, isFl, isFls, isPy, isPys, isPyKV, look_d, look_c, lookC_lst, lookC_dct, lookC_frz, itM_some, oIx_v, ixV_lst, ixV_tup, ixV_scr, ixV_str, oAdd_v, addV_int, addV_str, addV_tup, addV_lst, oMul_v, mulV_int, mulV_lst, oLen_v, lenV_str, lenV_lst, lenV_tup, lenV_scr, oSl_v, slV_str, slV_tup, slV_lst, oIn_v, inV_lst, inV_tup, inV_sign, diSeq_v, seqV_lst, seqV_tup, seqV_str, fixW_d, fixW_c, fixV_frz, fixV_lst, fixV_dct, fixAll_nil, fixAll_cons, gcS, gcK, fixEnv_nil, fixEnv_none, fixEnv_d, fixEnv_c, fixEnv_tp, fixEnv_dead, fixEnv_sl, poison_sl, fixC, poison, poisonC_lst, poisonC_dct, poisonC_frz, poisonC_obj, dropTo0, dropTo1, dropTo2, dropTo3, dropTo4, dropTo5, dropTo6, madeQ, dMake, dMeth, DL.isObj, dFld, fldW, dCon, dSetF, fixO, frzS, diDK, diDP, keepD, oIxD, oInD, oLenD, oListK, oSetD, oPopAt, oIsiT, oInS, oTupleOf, oListOf, sd_inj, refsC_pc, toLocC_pc, unLocC_pc, poisonC_pc, diEnumA, enumV_lst, enumV_tup, dFix, dRev, oClear, dLc2, t_is_point]
    simpa [ptB] using hq
end DH
namespace DH
open PySem PySem.Spec L2 DL
/-- plain, showable, at most k deep, shown in at most m signs -/
structure Sm (k m : Nat) (x : D) : Prop where
  ok : okV x = true
  py : isPy x = true
  sh : (DL.py x).showable = true
  dp : (DL.py x).depth ≤ k
  ln : (DL.py x).shown.length ≤ m
theorem k1 : (Str.ofString "(").length = 1 := by decide +kernel
theorem k2 : (Str.ofString "[").length = 1 := by decide +kernel
theorem word_len {x : Str} (h : wordOk x) : 1 ≤ x.length ∧ x.length ≤ 8 := by
  have := h.1
  simp only [nm, Bool.and_eq_true, decide_eq_true_eq] at this
  exact this.1
theorem sm_word {x : Str} (h : wordOk x) : Sm 0 82 (.str x) := by
  have hl := word_len h
  refine ⟨by simp [okV]; omega, rfl, by simp [DL.py, PyData.showable], by simp [DL.py, PyData.depth], ?_⟩
  simp only [DL.py, PyData.shown]
  have := PySem.StrLaws.reprText_len x fun c hc => Nat.lt_trans (strOk_mem h.2 c hc) (by decide)
  omega
def smB (k m : Nat) (x : D) : Bool := okV x && (isPy x && ((DL.py x).showable && (decide ((DL.py x).depth ≤ k) && decide ((DL.py x).shown.length ≤ m))))
theorem Sm.of {k m : Nat} {x : D} (h : smB k m x = true) : Sm k m x := by
  simp only [smB, Bool.and_eq_true, decide_eq_true_eq] at h
  exact ⟨h.1, h.2.1, h.2.2.1, h.2.2.2.1, h.2.2.2.2⟩
end DH
namespace DH
open PySem PySem.Spec L2 DL
theorem p_Hierarchy_names : ∀ ws cs Q E, sl_Hierarchy_names ws cs Q E → t_Hierarchy_names (endsD cs.length Q E) (startE N_Hierarchy_names ws) cs := by
  rintro ws cs Q E ⟨R, rfl, rfl, hq⟩
  simp [dSeq, dIfS, dAsg, dIf, dTest, dOp2, dOp1, dOpN, dVar, dC, dCons, dNil, dgName, dRet, dRetN, dDrop, dNext, dLst, dTup, startE, endsD, oI, oInt1, oInt2, oNeg, oIs, oDivmod, dAnd, dOr, dNot, dAndV, dOrV, dNotV, dgSub, dgTup, dgCons, dgNil, oSetL, dPar, dPar3, dFor, diRange1, diRange2, dLc, dCall, dBM, isT, dSl, dP, dNoP, oEq, dChain, oRepr, oIsi, oBools, retD_d, isTy, dDict0, dDict, dPairs, isFl, isFls, isPy, isPys, isPyKV, look_d, look_c, lookC_lst, lookC_dct, lookC_frz, itM_some, oIx_v, ixV_lst, ixV_tup, ixV_scr, ixV_str, oAdd_v, addV_int, addV_str, addV_tup, addV_lst, oMul_v, mulV_int, mulV_lst, oLen_v, lenV_str, lenV_lst, lenV_tup, lenV_scr, oSl_v, slV_str, slV_tup, slV_lst, oIn_v, inV_lst, inV_tup, inV_sign, diSeq_v, seqV_lst, seqV_tup, seqV_str, fixW_d, fixW_c, fixV_frz, fixV_lst, fixV_dct, fixAll_nil, fixAll_cons, gcS, gcK, fixEnv_nil, fixEnv_none, fixEnv_d, fixEnv_c, fixEnv_tp, fixEnv_dead, fixEnv_sl, poison_sl, fixC, poison, poisonC_lst, poisonC_dct, poisonC_frz, poisonC_obj, dropTo0, dropTo1, dropTo2, dropTo3, dropTo4, dropTo5, dropTo6, madeQ, dMake, dMeth, DL.isObj, dFld, fldW, dCon, dSetF, fixO, frzS, diDK, diDP, keepD, oIxD, oInD, oLenD, oListK, oSetD, oPopAt, oIsiT, oInS, oTupleOf, oListOf, sd_inj, refsC_pc, toLocC_pc, unLocC_pc, poisonC_pc, diEnumA, enumV_lst, enumV_tup, dFix, dRev, oClear, dLc2, t_Hierarchy_names, hier, retD]
  simpa [sd, hd1, namesR, Function.comp_def] using hq
theorem names00 {R : List Row} {g : Cs} {Q : DQ} {E : DX} (h : Q (.c g.length) (g ++ [.lst ((namesR R).map .str)])) : sp_Hierarchy_names [.d (hier R)] g Q E := by
  simp [sp_Hierarchy_names, loc, locAt, locJ, namesOf, refsC_pc, refsC_lst, refsC_dct, refsC_frz, toLocC_pc, toLocC_lst, toLocC_dct, toLocC_frz, unLocC_pc, unLocC_lst, unLocC_dct, unLocC_frz, getCs, inJ, toLoc, unLoc, putC, sl_Hierarchy_names]
  exact ⟨R, rfl, by simpa [loc, locAt, locJ, namesOf, refsC_pc, refsC_lst, refsC_dct, refsC_frz, toLocC_pc, toLocC_lst, toLocC_dct, toLocC_frz, unLocC_pc, unLocC_lst, unLocC_dct, unLocC_frz, getCs, inJ, toLoc, unLoc, putC] using h⟩
theorem p_Hierarchy_require_class : ∀ ws cs Q E, sl_Hierarchy_require_class ws cs Q E → t_Hierarchy_require_class (endsD cs.length Q E) (startE N_Hierarchy_require_class ws) cs := by
  rintro ws cs Q E ⟨R, x, rfl, rfl, ho, hh, hq⟩
  simp [dSeq, dIfS, dAsg, dIf, dTest, dOp2, dOp1, dOpN, dVar, dC, dCons, dNil, dgName, dRet, dRetN, dDrop, dNext, dLst, dTup, startE, endsD, oI, oInt1, oInt2, oNeg, oIs, oDivmod, dAnd, dOr, dNot, dAndV, dOrV, dNotV, dgSub, dgTup, dgCons, dgNil, oSetL, dPar, dPar3, dFor, diRange1, diRange2, dLc, dCall, dBM, isT, dSl, dP, dNoP, oEq, dChain, oRepr, oIsi, oBools, retD_d, isTy, dDict0, dDict, dPairs, isFl, isFls, isPy, isPys, isPyKV, look_d, look_c, lookC_lst, lookC_dct, lookC_frz, itM_some, oIx_v, ixV_lst, ixV_tup, ixV_scr, ixV_str, oAdd_v, addV_int, addV_str, addV_tup, addV_lst, oMul_v, mulV_int, mulV_lst, oLen_v, lenV_str, lenV_lst, lenV_tup, lenV_scr, oSl_v, slV_str, slV_tup, slV_lst, oIn_v, inV_lst, inV_tup, inV_sign, diSeq_v, seqV_lst, seqV_tup, seqV_str, fixW_d, fixW_c, fixV_frz, fixV_lst, fixV_dct, fixAll_nil, fixAll_cons, gcS, gcK, fixEnv_nil, fixEnv_none, fixEnv_d, fixEnv_c, fixEnv_tp, fixEnv_dead, fixEnv_sl, poison_sl, fixC, poison, poisonC_lst, poisonC_dct, poisonC_frz, poisonC_obj, dropTo0, dropTo1, dropTo2, dropTo3, dropTo4, dropTo5, dropTo6, madeQ, dMake, dMeth, DL.isObj, dFld, fldW, dCon, dSetF, fixO, frzS, diDK, diDP, keepD, oIxD, oInD, oLenD, oListK, oSetD, oPopAt, oIsiT, oInS, oTupleOf, oListOf, sd_inj, refsC_pc, toLocC_pc, unLocC_pc, poisonC_pc, diEnumA, enumV_lst, enumV_tup, dFix, dRev, oClear, dLc2, t_Hierarchy_require_class, hier]
  refine has0 ho ?_
  rw [hh]
  simpa [dSeq, dIfS, dAsg, dIf, dTest, dOp2, dOp1, dOpN, dVar, dC, dCons, dNil, dgName, dRet, dRetN, dDrop, dNext, dLst, dTup, startE, endsD, oI, oInt1, oInt2, oNeg, oIs, oDivmod, dAnd, dOr, dNot, dAndV, dOrV, dNotV, dgSub, dgTup, dgCons, dgNil, oSetL, dPar, dPar3, dFor, diRange1, diRange2, dLc, dCall, dBM, isT, dSl, dP, dNoP, oEq, dChain, oRepr, oIsi, oBools, retD_d, isTy, dDict0, dDict, dPairs, isFl, isFls, isPy, isPys, isPyKV, look_d, look_c, lookC_lst, lookC_dct, lookC_frz, itM_some, oIx_v, ixV_lst, ixV_tup, ixV_scr, ixV_str, oAdd_v, addV_int, addV_str, addV_tup, addV_lst, oMul_v, mulV_int, mulV_lst, oLen_v, lenV_str, lenV_lst, lenV_tup, lenV_scr, oSl_v, slV_str, slV_tup, slV_lst, oIn_v, inV_lst, inV_tup, inV_sign, diSeq_v, seqV_lst, seqV_tup, seqV_str, fixW_d, fixW_c, fixV_frz, fixV_lst, fixV_dct, fixAll_nil, fixAll_cons, gcS, gcK, fixEnv_nil, fixEnv_none, fixEnv_d, fixEnv_c, fixEnv_tp, fixEnv_dead, fixEnv_sl, poison_sl, fixC, poison, poisonC_lst, poisonC_dct, poisonC_frz, poisonC_obj, dropTo0, dropTo1, dropTo2, dropTo3, dropTo4, dropTo5, dropTo6, madeQ, dMake, dMeth, DL.isObj, dFld, fldW, dCon, dSetF, fixO, frzS, diDK, diDP, keepD, oIxD, oInD, oLenD, oListK, oSetD, oPopAt, oIsiT, oInS, oTupleOf, oListOf, sd_inj, refsC_pc, toLocC_pc, unLocC_pc, poisonC_pc, diEnumA, enumV_lst, enumV_tup, dFix, dRev, oClear, dLc2] using hq
theorem reqc0 {R : List Row} {x : D} {g : Cs} {Q : DQ} {E : DX} (ho : okV x = true) (hh : hasN R x = true) (h : Q (.d .non) g) : sp_Hierarchy_require_class [.d (hier R), .d x] g Q E := by
  simp [sp_Hierarchy_require_class, loc, locAt, locJ, namesOf, refsC_pc, refsC_lst, refsC_dct, refsC_frz, toLocC_pc, toLocC_lst, toLocC_dct, toLocC_frz, unLocC_pc, unLocC_lst, unLocC_dct, unLocC_frz, getCs, inJ, toLoc, unLoc, putC, sl_Hierarchy_require_class]
  exact ⟨R, x, ⟨rfl, rfl⟩, ho, hh, by simpa [loc, locAt, locJ, namesOf, refsC_pc, refsC_lst, refsC_dct, refsC_frz, toLocC_pc, toLocC_lst, toLocC_dct, toLocC_frz, unLocC_pc, unLocC_lst, unLocC_dct, unLocC_frz, getCs, inJ, toLoc, unLoc, putC] using h⟩
theorem p_require_point : ∀ ws cs Q E, sl_require_point ws cs Q E → t_require_point (endsD cs.length Q E) (startE N_require_point ws) cs := by
  rintro ws cs Q E ⟨R, x, rfl, rfl, ho, hh, hq⟩
  simp [dSeq, dIfS, dAsg, dIf, dTest, dOp2, dOp1, dOpN, dVar, dC, dCons, dNil, dgName, dRet, dRetN, dDrop, dNext, dLst, dTup, startE, endsD, oI, oInt1, oInt2, oNeg, oIs, oDivmod, dAnd, dOr, dNot, dAndV, dOrV, dNotV, dgSub, dgTup, dgCons, dgNil, oSetL, dPar, dPar3, dFor, diRange1, diRange2, dLc, dCall, dBM, isT, dSl, dP, dNoP, oEq, dChain, oRepr, oIsi, oBools, retD_d, isTy, dDict0, dDict, dPairs, isFl, isFls, isPy, isPys, isPyKV, look_d, look_c, lookC_lst, lookC_dct, lookC_frz, itM_some, oIx_v, ixV_lst, ixV_tup, ixV_scr, ixV_str, oAdd_v, addV_int, addV_str, addV_tup, addV_lst, oMul_v, mulV_int, mulV_lst, oLen_v, lenV_str, lenV_lst, lenV_tup, lenV_scr, oSl_v, slV_str, slV_tup, slV_lst, oIn_v, inV_lst, inV_tup, inV_sign, diSeq_v, seqV_lst, seqV_tup, seqV_str, fixW_d, fixW_c, fixV_frz, fixV_lst, fixV_dct, fixAll_nil, fixAll_cons, gcS, gcK, fixEnv_nil, fixEnv_none, fixEnv_d, fixEnv_c, fixEnv_tp, fixEnv_dead, fixEnv_sl, poison_sl, fixC, poison, poisonC_lst, poisonC_dct, poisonC_frz, poisonC_obj, dropTo0, dropTo1, dropTo2, dropTo3, dropTo4, dropTo5, dropTo6, madeQ, dMake, dMeth, DL.isObj, dFld, fldW, dCon, dSetF, fixO, frzS, diDK, diDP, keepD, oIxD, oInD, oLenD, oListK, oSetD, oPopAt, oIsiT, oInS, oTupleOf, oListOf, sd_inj, refsC_pc, toLocC_pc, unLocC_pc, poisonC_pc, diEnumA, enumV_lst, enumV_tup, dFix, dRev, oClear, dLc2, t_require_point]
  simp [sp_is_point, loc, locAt, locJ, namesOf, refsC_pc, refsC_lst, refsC_dct, refsC_frz, toLocC_pc, toLocC_lst, toLocC_dct, toLocC_frz, unLocC_pc, unLocC_lst, unLocC_dct, unLocC_frz, getCs, inJ, toLoc, unLoc, putC]
  refine ⟨R, .d x, x, rfl, .inl ⟨rfl, rfl⟩, ho, ?_⟩
  rw [hh]
  simpa [dSeq, dIfS, dAsg, dIf, dTest, dOp2, dOp1, dOpN, dVar, dC, dCons, dNil, dgName, dRet, dRetN, dDrop, dNext, dLst, dTup, startE, endsD, oI, oInt1, oInt2, oNeg, oIs, oDivmod, dAnd, dOr, dNot, dAndV, dOrV, dNotV, dgSub, dgTup, dgCons, dgNil, oSetL, dPar, dPar3, dFor, diRange1, diRange2, dLc, dCall, dBM, isT, dSl, dP, dNoP, oEq, dChain, oRepr, oIsi, oBools, retD_d, isTy, dDict0, dDict, dPairs, isFl, isFls, isPy, isPys, isPyKV, look_d, look_c, lookC_lst, lookC_dct, lookC_frz, itM_some, oIx_v, ixV_lst, ixV_tup, ixV_scr, ixV_str, oAdd_v, addV_int, addV_str, addV_tup, addV_lst, oMul_v, mulV_int, mulV_lst, oLen_v, lenV_str, lenV_lst, lenV_tup, lenV_scr, oSl_v, slV_str, slV_tup, slV_lst, oIn_v, inV_lst, inV_tup, inV_sign, diSeq_v, seqV_lst, seqV_tup, seqV_str, fixW_d, fixW_c, fixV_frz, fixV_lst, fixV_dct, fixAll_nil, fixAll_cons, gcS, gcK, fixEnv_nil, fixEnv_none, fixEnv_d, fixEnv_c, fixEnv_tp, fixEnv_dead, fixEnv_sl, poison_sl, fixC, poison, poisonC_lst, poisonC_dct, poisonC_frz, poisonC_obj, dropTo0, dropTo1, dropTo2, dropTo3, dropTo4, dropTo5, dropTo6, madeQ, dMake, dMeth, DL.isObj, dFld, fldW, dCon, dSetF, fixO, frzS, diDK, diDP, keepD, oIxD, oInD, oLenD, oListK, oSetD, oPopAt, oIsiT, oInS, oTupleOf, oListOf, sd_inj, refsC_pc, toLocC_pc, unLocC_pc, poisonC_pc, diEnumA, enumV_lst, enumV_tup, dFix, dRev, oClear, dLc2] using hq
theorem reqp0 {R : List Row} {x : D} {g : Cs} {Q : DQ} {E : DX} (ho : okV x = true) (hh : ptB R x = true) (h : Q (.d .non) g) : sp_require_point [.d (hier R), .d x] g Q E := by
  simp [sp_require_point, loc, locAt, locJ, namesOf, refsC_pc, refsC_lst, refsC_dct, refsC_frz, toLocC_pc, toLocC_lst, toLocC_dct, toLocC_frz, unLocC_pc, unLocC_lst, unLocC_dct, unLocC_frz, getCs, inJ, toLoc, unLoc, putC, sl_require_point]
  exact ⟨R, x, ⟨rfl, rfl⟩, ho, hh, by simpa [loc, locAt, locJ, namesOf, refsC_pc, refsC_lst, refsC_dct, refsC_frz, toLocC_pc, toLocC_lst, toLocC_dct, toLocC_frz, unLocC_pc, unLocC_lst, unLocC_dct, unLocC_frz, getCs, inJ, toLoc, unLoc, putC] using h⟩
theorem ancR_names (R : List Row) : namesR (ancR R) = namesR R := by
  have := ancF_names (namesR R) R []
  simpa [ancR, namesR] using this
theorem name_ok {R : List Row} (hR : RowsOk R) {z : Str} (h : z ∈ namesR R) : wordOk z := by
  obtain ⟨r, hr, rfl⟩ := List.mem_map.mp h
  exact hR.nm r hr
theorem word_okV {z : Str} (h : wordOk z) : okV (.str z) = true := (sm_word h).ok
theorem look_pair {A : List Row} {k : Str} {l : List Str} (nd : (namesR A).Nodup) (h : (k, l) ∈ A) : getA A k = l := by
  induction A with
  | nil => cases h
  | cons a t ih =>
    obtain ⟨n, m⟩ := a
    simp only [namesR, List.map_cons, List.nodup_cons] at nd
    simp only [getA, List.lookup_cons]
    rcases List.mem_cons.mp h with e | h
    · cases e; simp
    · have hm : k ∈ namesR t := List.mem_map.mpr ⟨_, h, rfl⟩
      have : (k == n) = false := by simp; exact fun e => nd.1 (e ▸ hm)
      rw [this]
      exact ih nd.2 h
end DH
namespace DH
open PySem PySem.Spec L2 DL
theorem paired_map {α : Type} {f : α → D} : ∀ {items : List α} {os : List (Option D)}, Paired (fun x o => o = some (f x)) items os → os.filterMap id = items.map f
  | _, _, .nil => rfl
  | x :: xs, _, .cons h t => by
    subst h
    simp [paired_map t]
theorem lcD_pureA {g : DG} {te : DT} {keep : Cs → Prop} {vs : List Nat} {env : Nv} {n : Nat} {Q : List D → Cs → Prop} (f : W → D) {items : List W} {acc : List D} {cs : Cs} (hn : n = cs.length) (hc : dropTo n cs = cs) (hk : keep cs) (hl : acc.length + items.length ≤ sizeLine)
    (hs : ∀ x ∈ items, ∀ K : D → Cs → Prop, (∀ j, K (f x) (cs ++ j)) → g x (wipeE env vs) cs fun env1 cs1 => te env1 cs1 (fun w cs3 => fixW w cs3 K) noX)
    (hQ : Q (acc ++ items.map f) cs) : lcD g dYes te keep vs env n Q items acc cs := by
  refine lcD_inv (fun c => c = cs) (fun x o => o = some (f x)) (fun _ e => e ▸ hk) items acc cs rfl hl (fun x hx c e K K' h1 h2 => ?_) fun os c hp e => ?_
  · subst e
    have := hs x hx K fun j => h1 _ _ rfl (drop_app hn hc)
    simpa [dYes] using this
  · subst e
    rw [paired_map hp]
    exact hQ
theorem lcD2_flat {g : DG} {ti1 : DI} {g1 : DG} {tt1 : DB} {te : DT} {keep : Cs → Prop} {vs vs1 : List Nat} {env : Nv} {n : Nat} {Q : List D → Cs → Prop} (ys : W → List W) (f : W → W → D) {items : List W} {cs : Cs} (hc : dropTo n cs = cs) (hk : keep cs)
    (hs : ∀ x ∈ items, ∀ (acc : List D) (K : List D → Cs → Prop), acc.length + (ys x).length ≤ sizeLine → K (acc ++ (ys x).map (f x)) cs → g x (wipeE env vs) cs fun env1 cs1 => ti1 env1 cs1 (fun items1 keep1 cs3 => lcD g1 tt1 te keep1 vs1 env1 cs3.length K items1 acc cs3) noX) :
    ∀ (l : List W) (acc : List D), (∀ x ∈ l, x ∈ items) → acc.length + (l.flatMap ys).length ≤ sizeLine → Q (acc ++ l.flatMap fun x => (ys x).map (f x)) cs → lcD2 g dYes ti1 g1 tt1 te keep vs vs1 env n Q l acc cs
  | [], acc, _, _, hQ => ⟨hk, by simpa using hQ⟩
  | x :: r, acc, hm, hl, hQ => by
    refine ⟨hk, ?_⟩
    simp only [List.flatMap_cons, List.length_append] at hl
    have := hs x (hm x List.mem_cons_self) acc (fun acc' cs4 => lcD2 g dYes ti1 g1 tt1 te keep vs vs1 env n Q r acc' (dropTo n cs4)) (by omega) (by
      rw [hc]
      refine lcD2_flat ys f hc hk hs r _ (fun y hy => hm y (List.mem_cons_of_mem _ hy)) ?_ ?_
      · simp; simp at hl; omega
      · simpa [List.append_assoc] using hQ)
    simpa [dYes] using this
theorem prodF_app (F : List (List Str)) : ∀ (A B : List (List Str)), prodF F (A ++ B) = prodF (prodF F A) B
  | [], B => rfl
  | a :: A, B => by
    simp only [List.cons_append, prodF]
    exact prodF_app _ A B
theorem prodL_snoc (A : List (List Str)) (ns : List Str) : prodL (A ++ [ns]) = (prodL A).flatMap fun p => ns.map fun n => p ++ [n] := by
  rw [prodL, prodF_app]
  rfl
theorem prodF_len {n : Nat} : ∀ {L F : List (List Str)}, (∀ p ∈ F, p.length = n) → ∀ p ∈ prodF F L, p.length = n + L.length
  | [], F, h, p, hp => h p hp
  | l :: L, F, h, p, hp => by
    have := prodF_len (n := n + 1) (L := L) (F := F.flatMap fun p => l.map fun n => p ++ [n]) (fun q hq => by
      obtain ⟨r, hr, hq⟩ := List.mem_flatMap.mp hq
      obtain ⟨x, -, rfl⟩ := List.mem_map.mp hq
      simp [h r hr]) p hp
    simp only [List.length_cons]; omega
theorem prodL_len {L : List (List Str)} {p : List Str} (h : p ∈ prodL L) : p.length = L.length := by
  have := prodF_len (n := 0) (L := L) (F := [[]]) (by simp) p h
  omega
def unT : W → List D
  | .d (.tup xs) => xs
  | _ => []
theorem p_combined : ∀ ws cs Q E, sl_combined ws cs Q E → t_combined (endsD cs.length Q E) (startE N_combined ws) cs := by
  rintro ws cs Q E ⟨L, rfl, rfl, hsz, hll, hq⟩
  have sz := sz6
  simp [dSeq, dIfS, dAsg, dIf, dTest, dOp2, dOp1, dOpN, dVar, dC, dCons, dNil, dgName, dRet, dRetN, dDrop, dNext, dLst, dTup, startE, endsD, oI, oInt1, oInt2, oNeg, oIs, oDivmod, dAnd, dOr, dNot, dAndV, dOrV, dNotV, dgSub, dgTup, dgCons, dgNil, oSetL, dPar, dPar3, dFor, diRange1, diRange2, dLc, dCall, dBM, isT, dSl, dP, dNoP, oEq, dChain, oRepr, oIsi, oBools, retD_d, isTy, dDict0, dDict, dPairs, isFl, isFls, isPy, isPys, isPyKV, look_d, look_c, lookC_lst, lookC_dct, lookC_frz, itM_some, oIx_v, ixV_lst, ixV_tup, ixV_scr, ixV_str, oAdd_v, addV_int, addV_str, addV_tup, addV_lst, oMul_v, mulV_int, mulV_lst, oLen_v, lenV_str, lenV_lst, lenV_tup, lenV_scr, oSl_v, slV_str, slV_tup, slV_lst, oIn_v, inV_lst, inV_tup, inV_sign, diSeq_v, seqV_lst, seqV_tup, seqV_str, fixW_d, fixW_c, fixV_frz, fixV_lst, fixV_dct, fixAll_nil, fixAll_cons, gcS, gcK, fixEnv_nil, fixEnv_none, fixEnv_d, fixEnv_c, fixEnv_tp, fixEnv_dead, fixEnv_sl, poison_sl, fixC, poison, poisonC_lst, poisonC_dct, poisonC_frz, poisonC_obj, dropTo0, dropTo1, dropTo2, dropTo3, dropTo4, dropTo5, dropTo6, madeQ, dMake, dMeth, DL.isObj, dFld, fldW, dCon, dSetF, fixO, frzS, diDK, diDP, keepD, oIxD, oInD, oLenD, oListK, oSetD, oPopAt, oIsiT, oInS, oTupleOf, oListOf, sd_inj, refsC_pc, toLocC_pc, unLocC_pc, poisonC_pc, diEnumA, enumV_lst, enumV_tup, dFix, dRev, oClear, dLc2, t_combined]
  refine ⟨by omega, ?_⟩
  refine forD_inv (fun i env c => ∃ k a, env = [some (.c 0), some (.c (k + 1)), a, none, none] ∧ (∀ x ∈ c, plainC x = true) ∧ c.length = k + 2 ∧ c[0]? = some (.lst (L.map fun l => .lst (l.map .str))) ∧ c[k + 1]? = some (.lst ((prodL (L.take i)).map tupS))) (fun _ _ _ hJ => ?_) _ 0 _ _ ⟨0, _, rfl, by simp [plainC], rfl, rfl, rfl⟩ (fun j x hx env c hJ D' h1 h2 h3 h4 h5 => ?_) fun env c hJ => ?_
  · obtain ⟨k, a, rfl, hp, hl, h0, h1⟩ := hJ
    simp [h0, lookC_lst]
  · obtain ⟨k, a, rfl, hp, hl, h0, hk1⟩ := hJ
    have hx : ∃ l, L[j]? = some l ∧ x = .d (.lst (l.map .str)) := by
      rw [List.getElem?_map] at hx
      cases e : L[j]? with
      | none => simp [e] at hx
      | some l => simp [e] at hx; exact ⟨l, rfl, hx.symm⟩
    obtain ⟨l, hlj, rfl⟩ := hx
    rw [show 0 + j = j by omega] at hk1
    clear h1 h2 h3 h5
    have hdc : dropTo c.length c = c := dropTo_all rfl fun x hx => poisonC_plain (hp x hx)
    have hpl : prodL (L.take (j + 1)) = (prodL (L.take j)).flatMap fun p => l.map fun n => p ++ [n] := by
      rw [List.take_add_one, hlj]
      exact prodL_snoc _ _
    have hsz1 := hsz (j + 1)
    rw [hpl] at hsz1
    simp [dSeq, dIfS, dAsg, dIf, dTest, dOp2, dOp1, dOpN, dVar, dC, dCons, dNil, dgName, dRet, dRetN, dDrop, dNext, dLst, dTup, startE, endsD, oI, oInt1, oInt2, oNeg, oIs, oDivmod, dAnd, dOr, dNot, dAndV, dOrV, dNotV, dgSub, dgTup, dgCons, dgNil, oSetL, dPar, dPar3, dFor, diRange1, diRange2, dLc, dCall, dBM, isT, dSl, dP, dNoP, oEq, dChain, oRepr, oIsi, oBools, retD_d, isTy, dDict0, dDict, dPairs, isFl, isFls, isPy, isPys, isPyKV, look_d, look_c, lookC_lst, lookC_dct, lookC_frz, itM_some, oIx_v, ixV_lst, ixV_tup, ixV_scr, ixV_str, oAdd_v, addV_int, addV_str, addV_tup, addV_lst, oMul_v, mulV_int, mulV_lst, oLen_v, lenV_str, lenV_lst, lenV_tup, lenV_scr, oSl_v, slV_str, slV_tup, slV_lst, oIn_v, inV_lst, inV_tup, inV_sign, diSeq_v, seqV_lst, seqV_tup, seqV_str, fixW_d, fixW_c, fixV_frz, fixV_lst, fixV_dct, fixAll_nil, fixAll_cons, gcS, gcK, fixEnv_nil, fixEnv_none, fixEnv_d, fixEnv_c, fixEnv_tp, fixEnv_dead, fixEnv_sl, poison_sl, fixC, poison, poisonC_lst, poisonC_dct, poisonC_frz, poisonC_obj, dropTo0, dropTo1, dropTo2, dropTo3, dropTo4, dropTo5, dropTo6, madeQ, dMake, dMeth, DL.isObj, dFld, fldW, dCon, dSetF, fixO, frzS, diDK, diDP, keepD, oIxD, oInD, oLenD, oListK, oSetD, oPopAt, oIsiT, oInS, oTupleOf, oListOf, sd_inj, refsC_pc, toLocC_pc, unLocC_pc, poisonC_pc, diEnumA, enumV_lst, enumV_tup, dFix, dRev, oClear, dLc2, hk1]
    refine lcD2_flat (fun _ => (l.map D.str).map W.d) (fun x y => .tup (unT x ++ [unW y])) hdc ?_ (fun x hx acc K hle hK => ?_) _ [] (fun x hx => hx) ?_ ?_
    · simp [hk1, lookC_lst]
    · obtain ⟨p, hp2, rfl⟩ := List.mem_map.mp hx
      simp [dSeq, dIfS, dAsg, dIf, dTest, dOp2, dOp1, dOpN, dVar, dC, dCons, dNil, dgName, dRet, dRetN, dDrop, dNext, dLst, dTup, startE, endsD, oI, oInt1, oInt2, oNeg, oIs, oDivmod, dAnd, dOr, dNot, dAndV, dOrV, dNotV, dgSub, dgTup, dgCons, dgNil, oSetL, dPar, dPar3, dFor, diRange1, diRange2, dLc, dCall, dBM, isT, dSl, dP, dNoP, oEq, dChain, oRepr, oIsi, oBools, retD_d, isTy, dDict0, dDict, dPairs, isFl, isFls, isPy, isPys, isPyKV, look_d, look_c, lookC_lst, lookC_dct, lookC_frz, itM_some, oIx_v, ixV_lst, ixV_tup, ixV_scr, ixV_str, oAdd_v, addV_int, addV_str, addV_tup, addV_lst, oMul_v, mulV_int, mulV_lst, oLen_v, lenV_str, lenV_lst, lenV_tup, lenV_scr, oSl_v, slV_str, slV_tup, slV_lst, oIn_v, inV_lst, inV_tup, inV_sign, diSeq_v, seqV_lst, seqV_tup, seqV_str, fixW_d, fixW_c, fixV_frz, fixV_lst, fixV_dct, fixAll_nil, fixAll_cons, gcS, gcK, fixEnv_nil, fixEnv_none, fixEnv_d, fixEnv_c, fixEnv_tp, fixEnv_dead, fixEnv_sl, poison_sl, fixC, poison, poisonC_lst, poisonC_dct, poisonC_frz, poisonC_obj, dropTo0, dropTo1, dropTo2, dropTo3, dropTo4, dropTo5, dropTo6, madeQ, dMake, dMeth, DL.isObj, dFld, fldW, dCon, dSetF, fixO, frzS, diDK, diDP, keepD, oIxD, oInD, oLenD, oListK, oSetD, oPopAt, oIsiT, oInS, oTupleOf, oListOf, sd_inj, refsC_pc, toLocC_pc, unLocC_pc, poisonC_pc, diEnumA, enumV_lst, enumV_tup, dFix, dRev, oClear, dLc2, wipeE, tupS]
      refine lcD_pureA (fun y => .tup (p.map D.str ++ [unW y])) rfl hdc ?_ (by simpa using hle) (fun y hy K2 hK2 => ?_) ?_
      · simp [dSeq, dIfS, dAsg, dIf, dTest, dOp2, dOp1, dOpN, dVar, dC, dCons, dNil, dgName, dRet, dRetN, dDrop, dNext, dLst, dTup, startE, endsD, oI, oInt1, oInt2, oNeg, oIs, oDivmod, dAnd, dOr, dNot, dAndV, dOrV, dNotV, dgSub, dgTup, dgCons, dgNil, oSetL, dPar, dPar3, dFor, diRange1, diRange2, dLc, dCall, dBM, isT, dSl, dP, dNoP, oEq, dChain, oRepr, oIsi, oBools, retD_d, isTy, dDict0, dDict, dPairs, isFl, isFls, isPy, isPys, isPyKV, look_d, look_c, lookC_lst, lookC_dct, lookC_frz, itM_some, oIx_v, ixV_lst, ixV_tup, ixV_scr, ixV_str, oAdd_v, addV_int, addV_str, addV_tup, addV_lst, oMul_v, mulV_int, mulV_lst, oLen_v, lenV_str, lenV_lst, lenV_tup, lenV_scr, oSl_v, slV_str, slV_tup, slV_lst, oIn_v, inV_lst, inV_tup, inV_sign, diSeq_v, seqV_lst, seqV_tup, seqV_str, fixW_d, fixW_c, fixV_frz, fixV_lst, fixV_dct, fixAll_nil, fixAll_cons, gcS, gcK, fixEnv_nil, fixEnv_none, fixEnv_d, fixEnv_c, fixEnv_tp, fixEnv_dead, fixEnv_sl, poison_sl, fixC, poison, poisonC_lst, poisonC_dct, poisonC_frz, poisonC_obj, dropTo0, dropTo1, dropTo2, dropTo3, dropTo4, dropTo5, dropTo6, madeQ, dMake, dMeth, DL.isObj, dFld, fldW, dCon, dSetF, fixO, frzS, diDK, diDP, keepD, oIxD, oInD, oLenD, oListK, oSetD, oPopAt, oIsiT, oInS, oTupleOf, oListOf, sd_inj, refsC_pc, toLocC_pc, unLocC_pc, poisonC_pc, diEnumA, enumV_lst, enumV_tup, dFix, dRev, oClear, dLc2]
      · simp at hy
        obtain ⟨n, -, rfl⟩ := hy
        simp [dSeq, dIfS, dAsg, dIf, dTest, dOp2, dOp1, dOpN, dVar, dC, dCons, dNil, dgName, dRet, dRetN, dDrop, dNext, dLst, dTup, startE, endsD, oI, oInt1, oInt2, oNeg, oIs, oDivmod, dAnd, dOr, dNot, dAndV, dOrV, dNotV, dgSub, dgTup, dgCons, dgNil, oSetL, dPar, dPar3, dFor, diRange1, diRange2, dLc, dCall, dBM, isT, dSl, dP, dNoP, oEq, dChain, oRepr, oIsi, oBools, retD_d, isTy, dDict0, dDict, dPairs, isFl, isFls, isPy, isPys, isPyKV, look_d, look_c, lookC_lst, lookC_dct, lookC_frz, itM_some, oIx_v, ixV_lst, ixV_tup, ixV_scr, ixV_str, oAdd_v, addV_int, addV_str, addV_tup, addV_lst, oMul_v, mulV_int, mulV_lst, oLen_v, lenV_str, lenV_lst, lenV_tup, lenV_scr, oSl_v, slV_str, slV_tup, slV_lst, oIn_v, inV_lst, inV_tup, inV_sign, diSeq_v, seqV_lst, seqV_tup, seqV_str, fixW_d, fixW_c, fixV_frz, fixV_lst, fixV_dct, fixAll_nil, fixAll_cons, gcS, gcK, fixEnv_nil, fixEnv_none, fixEnv_d, fixEnv_c, fixEnv_tp, fixEnv_dead, fixEnv_sl, poison_sl, fixC, poison, poisonC_lst, poisonC_dct, poisonC_frz, poisonC_obj, dropTo0, dropTo1, dropTo2, dropTo3, dropTo4, dropTo5, dropTo6, madeQ, dMake, dMeth, DL.isObj, dFld, fldW, dCon, dSetF, fixO, frzS, diDK, diDP, keepD, oIxD, oInD, oLenD, oListK, oSetD, oPopAt, oIsiT, oInS, oTupleOf, oListOf, sd_inj, refsC_pc, toLocC_pc, unLocC_pc, poisonC_pc, diEnumA, enumV_lst, enumV_tup, dFix, dRev, oClear, dLc2, wipeE]
        refine ⟨by omega, ?_⟩
        have hpl2 := prodL_len hp2
        rw [List.length_take] at hpl2
        simpa [dSeq, dIfS, dAsg, dIf, dTest, dOp2, dOp1, dOpN, dVar, dC, dCons, dNil, dgName, dRet, dRetN, dDrop, dNext, dLst, dTup, startE, endsD, oI, oInt1, oInt2, oNeg, oIs, oDivmod, dAnd, dOr, dNot, dAndV, dOrV, dNotV, dgSub, dgTup, dgCons, dgNil, oSetL, dPar, dPar3, dFor, diRange1, diRange2, dLc, dCall, dBM, isT, dSl, dP, dNoP, oEq, dChain, oRepr, oIsi, oBools, retD_d, isTy, dDict0, dDict, dPairs, isFl, isFls, isPy, isPys, isPyKV, look_d, look_c, lookC_lst, lookC_dct, lookC_frz, itM_some, oIx_v, ixV_lst, ixV_tup, ixV_scr, ixV_str, oAdd_v, addV_int, addV_str, addV_tup, addV_lst, oMul_v, mulV_int, mulV_lst, oLen_v, lenV_str, lenV_lst, lenV_tup, lenV_scr, oSl_v, slV_str, slV_tup, slV_lst, oIn_v, inV_lst, inV_tup, inV_sign, diSeq_v, seqV_lst, seqV_tup, seqV_str, fixW_d, fixW_c, fixV_frz, fixV_lst, fixV_dct, fixAll_nil, fixAll_cons, gcS, gcK, fixEnv_nil, fixEnv_none, fixEnv_d, fixEnv_c, fixEnv_tp, fixEnv_dead, fixEnv_sl, poison_sl, fixC, poison, poisonC_lst, poisonC_dct, poisonC_frz, poisonC_obj, dropTo0, dropTo1, dropTo2, dropTo3, dropTo4, dropTo5, dropTo6, madeQ, dMake, dMeth, DL.isObj, dFld, fldW, dCon, dSetF, fixO, frzS, diDK, diDP, keepD, oIxD, oInD, oLenD, oListK, oSetD, oPopAt, oIsiT, oInS, oTupleOf, oListOf, sd_inj, refsC_pc, toLocC_pc, unLocC_pc, poisonC_pc, diEnumA, enumV_lst, enumV_tup, dFix, dRev, oClear, dLc2, unW_d, show p.length + 1 ≤ sizeLine by omega] using hK2 []
      · simpa [Function.comp_def, unT, tupS] using hK
    · rw [List.length_flatMap] at hsz1 ⊢
      simp [Function.comp_def] at hsz1 ⊢
      omega
    · rw [hl]
      refine h4 _ _ ⟨k + 1, _, rfl, fun x hx => ?_, by simp [hl], ?_, ?_⟩
      · rcases List.mem_append.mp hx with h | h
        · exact hp x h
        · simp at h; subst h; rfl
      · rw [List.getElem?_append_left (by omega)]; exact h0
      · rw [List.getElem?_append_right (by omega), hl, show k + 1 + 1 - (k + 2) = 0 by omega, show 0 + j + 1 = j + 1 by omega, hpl]
        simp [List.map_flatMap, List.flatMap_map, Function.comp_def, unT, tupS, unW_d]
  · obtain ⟨k, a, rfl, hp, hl, h0, hk1⟩ := hJ
    have e9 : L.take (0 + (L.map (W.d ∘ fun l => D.lst (l.map D.str))).length) = L := by simp
    rw [e9] at hk1
    simp [dSeq, dIfS, dAsg, dIf, dTest, dOp2, dOp1, dOpN, dVar, dC, dCons, dNil, dgName, dRet, dRetN, dDrop, dNext, dLst, dTup, startE, endsD, oI, oInt1, oInt2, oNeg, oIs, oDivmod, dAnd, dOr, dNot, dAndV, dOrV, dNotV, dgSub, dgTup, dgCons, dgNil, oSetL, dPar, dPar3, dFor, diRange1, diRange2, dLc, dCall, dBM, isT, dSl, dP, dNoP, oEq, dChain, oRepr, oIsi, oBools, retD_d, isTy, dDict0, dDict, dPairs, isFl, isFls, isPy, isPys, isPyKV, look_d, look_c, lookC_lst, lookC_dct, lookC_frz, itM_some, oIx_v, ixV_lst, ixV_tup, ixV_scr, ixV_str, oAdd_v, addV_int, addV_str, addV_tup, addV_lst, oMul_v, mulV_int, mulV_lst, oLen_v, lenV_str, lenV_lst, lenV_tup, lenV_scr, oSl_v, slV_str, slV_tup, slV_lst, oIn_v, inV_lst, inV_tup, inV_sign, diSeq_v, seqV_lst, seqV_tup, seqV_str, fixW_d, fixW_c, fixV_frz, fixV_lst, fixV_dct, fixAll_nil, fixAll_cons, gcS, gcK, fixEnv_nil, fixEnv_none, fixEnv_d, fixEnv_c, fixEnv_tp, fixEnv_dead, fixEnv_sl, poison_sl, fixC, poison, poisonC_lst, poisonC_dct, poisonC_frz, poisonC_obj, dropTo0, dropTo1, dropTo2, dropTo3, dropTo4, dropTo5, dropTo6, madeQ, dMake, dMeth, DL.isObj, dFld, fldW, dCon, dSetF, fixO, frzS, diDK, diDP, keepD, oIxD, oInD, oLenD, oListK, oSetD, oPopAt, oIsiT, oInS, oTupleOf, oListOf, sd_inj, refsC_pc, toLocC_pc, unLocC_pc, poisonC_pc, diEnumA, enumV_lst, enumV_tup, dFix, dRev, oClear, dLc2, retD, hk1]
    have e8 : dropTo 1 c = [.lst (L.map fun l => .lst (l.map .str))] := by
      cases c with
      | nil => simp at hl
      | cons y c =>
        simp at h0
        subst h0
        rfl
    rw [e8]
    exact hq
end DH
namespace DH
open PySem PySem.Spec L2 DL
theorem flat_length (l : List Str) : ∀ F : List (List Str), (F.flatMap fun p => l.map fun n => p ++ [n]).length = F.length * l.length
  | [] => by simp
  | a :: r => by
    simp only [List.flatMap_cons, List.length_append, flat_length l r, List.length_map, List.length_cons, Nat.add_mul]; omega
theorem prodF_le {b : Nat} : ∀ {L F : List (List Str)}, (∀ l ∈ L, l.length ≤ b) → (prodF F L).length ≤ F.length * b ^ L.length
  | [], F, _ => by simp [prodF]
  | l :: L, F, h => by
    have h1 := prodF_le (b := b) (L := L) (F := F.flatMap fun p => l.map fun n => p ++ [n]) fun x hx => h x (List.mem_cons_of_mem _ hx)
    have h2 := h l List.mem_cons_self
    have h3 : (F.flatMap fun p => l.map fun n => p ++ [n]).length = F.length * l.length := flat_length l F
    rw [h3] at h1
    refine Nat.le_trans h1 ?_
    rw [List.length_cons, Nat.pow_succ, Nat.mul_comm (b ^ L.length) b, ← Nat.mul_assoc]
    exact Nat.mul_le_mul_right _ (Nat.mul_le_mul_left _ h2)
theorem prodL_small {L : List (List Str)} (h : ∀ l ∈ L, l.length ≤ 20) (hl : L.length ≤ 3) (k : Nat) : (prodL (L.take k)).length ≤ 8000 := by
  have h1 := prodF_le (b := 20) (L := L.take k) (F := [[]]) fun x hx => h x (List.mem_of_mem_take hx)
  have h2 : (L.take k).length ≤ 3 := by simp; omega
  have h3 : 20 ^ (L.take k).length ≤ 20 ^ 3 := Nat.pow_le_pow_right (by decide) h2
  have : (prodL (L.take k)).length ≤ 1 * 20 ^ (L.take k).length := h1
  omega
theorem comb_at {L : List (List Str)} {k : Nat} {g : Cs} {Q : DQ} {E : DX} (hk : g[k]? = some (.lst (L.map fun l => .lst (l.map .str)))) (hs : ∀ l ∈ L, l.length ≤ 20) (hl : L.length ≤ 3) (h : Q (.c g.length) (g ++ [.lst ((prodL L).map tupS)])) : sp_combined [.c k] g Q E := by
  have e : g.set k (.lst (L.map fun l => .lst (l.map .str))) = g := by
    obtain ⟨h1, h2⟩ := List.getElem?_eq_some_iff.mp hk
    rw [← h2, List.set_getElem_self]
  have ek : List.idxOf k [k] = 0 := by simp [List.idxOf_cons]
  simp [sp_combined, loc, locAt, locJ, namesOf, refsC_pc, refsC_lst, refsC_dct, refsC_frz, toLocC_pc, toLocC_lst, toLocC_dct, toLocC_frz, unLocC_pc, unLocC_lst, unLocC_dct, unLocC_frz, getCs, inJ, toLoc, unLoc, putC, hk, ek, sl_combined]
  exact ⟨L, rfl, fun k => by have := prodL_small hs hl k; omega, by omega, by simpa [loc, locAt, locJ, namesOf, refsC_pc, refsC_lst, refsC_dct, refsC_frz, toLocC_pc, toLocC_lst, toLocC_dct, toLocC_frz, unLocC_pc, unLocC_lst, unLocC_dct, unLocC_frz, getCs, inJ, toLoc, unLoc, putC, e] using h⟩
theorem p_all_points : ∀ ws cs Q E, sl_all_points ws cs Q E → t_all_points (endsD cs.length Q E) (startE N_all_points ws) cs := by
  rintro ws cs Q E ⟨R, m, rfl, rfl, h0, h1, hl, hq⟩
  have sz := sz6
  simp [dSeq, dIfS, dAsg, dIf, dTest, dOp2, dOp1, dOpN, dVar, dC, dCons, dNil, dgName, dRet, dRetN, dDrop, dNext, dLst, dTup, startE, endsD, oI, oInt1, oInt2, oNeg, oIs, oDivmod, dAnd, dOr, dNot, dAndV, dOrV, dNotV, dgSub, dgTup, dgCons, dgNil, oSetL, dPar, dPar3, dFor, diRange1, diRange2, dLc, dCall, dBM, isT, dSl, dP, dNoP, oEq, dChain, oRepr, oIsi, oBools, retD_d, isTy, dDict0, dDict, dPairs, isFl, isFls, isPy, isPys, isPyKV, look_d, look_c, lookC_lst, lookC_dct, lookC_frz, itM_some, oIx_v, ixV_lst, ixV_tup, ixV_scr, ixV_str, oAdd_v, addV_int, addV_str, addV_tup, addV_lst, oMul_v, mulV_int, mulV_lst, oLen_v, lenV_str, lenV_lst, lenV_tup, lenV_scr, oSl_v, slV_str, slV_tup, slV_lst, oIn_v, inV_lst, inV_tup, inV_sign, diSeq_v, seqV_lst, seqV_tup, seqV_str, fixW_d, fixW_c, fixV_frz, fixV_lst, fixV_dct, fixAll_nil, fixAll_cons, gcS, gcK, fixEnv_nil, fixEnv_none, fixEnv_d, fixEnv_c, fixEnv_tp, fixEnv_dead, fixEnv_sl, poison_sl, fixC, poison, poisonC_lst, poisonC_dct, poisonC_frz, poisonC_obj, dropTo0, dropTo1, dropTo2, dropTo3, dropTo4, dropTo5, dropTo6, madeQ, dMake, dMeth, DL.isObj, dFld, fldW, dCon, dSetF, fixO, frzS, diDK, diDP, keepD, oIxD, oInD, oLenD, oListK, oSetD, oPopAt, oIsiT, oInS, oTupleOf, oListOf, sd_inj, refsC_pc, toLocC_pc, unLocC_pc, poisonC_pc, diEnumA, enumV_lst, enumV_tup, dFix, dRev, oClear, dLc2, t_all_points]
  refine cnt0 rfl ?_
  have e : cntB (.int m) = true := by simp [cntB]; omega
  rw [e]
  simp [dSeq, dIfS, dAsg, dIf, dTest, dOp2, dOp1, dOpN, dVar, dC, dCons, dNil, dgName, dRet, dRetN, dDrop, dNext, dLst, dTup, startE, endsD, oI, oInt1, oInt2, oNeg, oIs, oDivmod, dAnd, dOr, dNot, dAndV, dOrV, dNotV, dgSub, dgTup, dgCons, dgNil, oSetL, dPar, dPar3, dFor, diRange1, diRange2, dLc, dCall, dBM, isT, dSl, dP, dNoP, oEq, dChain, oRepr, oIsi, oBools, retD_d, isTy, dDict0, dDict, dPairs, isFl, isFls, isPy, isPys, isPyKV, look_d, look_c, lookC_lst, lookC_dct, lookC_frz, itM_some, oIx_v, ixV_lst, ixV_tup, ixV_scr, ixV_str, oAdd_v, addV_int, addV_str, addV_tup, addV_lst, oMul_v, mulV_int, mulV_lst, oLen_v, lenV_str, lenV_lst, lenV_tup, lenV_scr, oSl_v, slV_str, slV_tup, slV_lst, oIn_v, inV_lst, inV_tup, inV_sign, diSeq_v, seqV_lst, seqV_tup, seqV_str, fixW_d, fixW_c, fixV_frz, fixV_lst, fixV_dct, fixAll_nil, fixAll_cons, gcS, gcK, fixEnv_nil, fixEnv_none, fixEnv_d, fixEnv_c, fixEnv_tp, fixEnv_dead, fixEnv_sl, poison_sl, fixC, poison, poisonC_lst, poisonC_dct, poisonC_frz, poisonC_obj, dropTo0, dropTo1, dropTo2, dropTo3, dropTo4, dropTo5, dropTo6, madeQ, dMake, dMeth, DL.isObj, dFld, fldW, dCon, dSetF, fixO, frzS, diDK, diDP, keepD, oIxD, oInD, oLenD, oListK, oSetD, oPopAt, oIsiT, oInS, oTupleOf, oListOf, sd_inj, refsC_pc, toLocC_pc, unLocC_pc, poisonC_pc, diEnumA, enumV_lst, enumV_tup, dFix, dRev, oClear, dLc2, hier]
  refine names00 ?_
  simp [dSeq, dIfS, dAsg, dIf, dTest, dOp2, dOp1, dOpN, dVar, dC, dCons, dNil, dgName, dRet, dRetN, dDrop, dNext, dLst, dTup, startE, endsD, oI, oInt1, oInt2, oNeg, oIs, oDivmod, dAnd, dOr, dNot, dAndV, dOrV, dNotV, dgSub, dgTup, dgCons, dgNil, oSetL, dPar, dPar3, dFor, diRange1, diRange2, dLc, dCall, dBM, isT, dSl, dP, dNoP, oEq, dChain, oRepr, oIsi, oBools, retD_d, isTy, dDict0, dDict, dPairs, isFl, isFls, isPy, isPys, isPyKV, look_d, look_c, lookC_lst, lookC_dct, lookC_frz, itM_some, oIx_v, ixV_lst, ixV_tup, ixV_scr, ixV_str, oAdd_v, addV_int, addV_str, addV_tup, addV_lst, oMul_v, mulV_int, mulV_lst, oLen_v, lenV_str, lenV_lst, lenV_tup, lenV_scr, oSl_v, slV_str, slV_tup, slV_lst, oIn_v, inV_lst, inV_tup, inV_sign, diSeq_v, seqV_lst, seqV_tup, seqV_str, fixW_d, fixW_c, fixV_frz, fixV_lst, fixV_dct, fixAll_nil, fixAll_cons, gcS, gcK, fixEnv_nil, fixEnv_none, fixEnv_d, fixEnv_c, fixEnv_tp, fixEnv_dead, fixEnv_sl, poison_sl, fixC, poison, poisonC_lst, poisonC_dct, poisonC_frz, poisonC_obj, dropTo0, dropTo1, dropTo2, dropTo3, dropTo4, dropTo5, dropTo6, madeQ, dMake, dMeth, DL.isObj, dFld, fldW, dCon, dSetF, fixO, frzS, diDK, diDP, keepD, oIxD, oInD, oLenD, oListK, oSetD, oPopAt, oIsiT, oInS, oTupleOf, oListOf, sd_inj, refsC_pc, toLocC_pc, unLocC_pc, poisonC_pc, diEnumA, enumV_lst, enumV_tup, dFix, dRev, oClear, dLc2]
  have hnl : (namesR R).length = R.length := by simp [namesR]
  refine ⟨by omega, by omega, by omega, by omega, comb_at (L := List.replicate m.toNat (namesR R)) (by simp) (fun l hl => ?_) (by simp; omega) ?_⟩
  · obtain ⟨-, rfl⟩ := List.mem_replicate.mp hl
    omega
  · simp [dSeq, dIfS, dAsg, dIf, dTest, dOp2, dOp1, dOpN, dVar, dC, dCons, dNil, dgName, dRet, dRetN, dDrop, dNext, dLst, dTup, startE, endsD, oI, oInt1, oInt2, oNeg, oIs, oDivmod, dAnd, dOr, dNot, dAndV, dOrV, dNotV, dgSub, dgTup, dgCons, dgNil, oSetL, dPar, dPar3, dFor, diRange1, diRange2, dLc, dCall, dBM, isT, dSl, dP, dNoP, oEq, dChain, oRepr, oIsi, oBools, retD_d, isTy, dDict0, dDict, dPairs, isFl, isFls, isPy, isPys, isPyKV, look_d, look_c, lookC_lst, lookC_dct, lookC_frz, itM_some, oIx_v, ixV_lst, ixV_tup, ixV_scr, ixV_str, oAdd_v, addV_int, addV_str, addV_tup, addV_lst, oMul_v, mulV_int, mulV_lst, oLen_v, lenV_str, lenV_lst, lenV_tup, lenV_scr, oSl_v, slV_str, slV_tup, slV_lst, oIn_v, inV_lst, inV_tup, inV_sign, diSeq_v, seqV_lst, seqV_tup, seqV_str, fixW_d, fixW_c, fixV_frz, fixV_lst, fixV_dct, fixAll_nil, fixAll_cons, gcS, gcK, fixEnv_nil, fixEnv_none, fixEnv_d, fixEnv_c, fixEnv_tp, fixEnv_dead, fixEnv_sl, poison_sl, fixC, poison, poisonC_lst, poisonC_dct, poisonC_frz, poisonC_obj, dropTo0, dropTo1, dropTo2, dropTo3, dropTo4, dropTo5, dropTo6, madeQ, dMake, dMeth, DL.isObj, dFld, fldW, dCon, dSetF, fixO, frzS, diDK, diDP, keepD, oIxD, oInD, oLenD, oListK, oSetD, oPopAt, oIsiT, oInS, oTupleOf, oListOf, sd_inj, refsC_pc, toLocC_pc, unLocC_pc, poisonC_pc, diEnumA, enumV_lst, enumV_tup, dFix, dRev, oClear, dLc2, retD]
    exact hq
theorem allp0 {R : List Row} {m : Int} {g : Cs} {Q : DQ} {E : DX} (h0 : 1 ≤ m) (h1 : m ≤ 3) (hl : R.length ≤ 20) (h : Q (.c g.length) (g ++ [.lst ((prodL (List.replicate m.toNat (namesR R))).map tupS)])) : sp_all_points [.d (hier R), .d (.int m)] g Q E := by
  simp [sp_all_points, loc, locAt, locJ, namesOf, refsC_pc, refsC_lst, refsC_dct, refsC_frz, toLocC_pc, toLocC_lst, toLocC_dct, toLocC_frz, unLocC_pc, unLocC_lst, unLocC_dct, unLocC_frz, getCs, inJ, toLoc, unLoc, putC, sl_all_points]
  exact ⟨R, m, ⟨rfl, rfl⟩, h0, h1, hl, by simpa [loc, locAt, locJ, namesOf, refsC_pc, refsC_lst, refsC_dct, refsC_frz, toLocC_pc, toLocC_lst, toLocC_dct, toLocC_frz, unLocC_pc, unLocC_lst, unLocC_dct, unLocC_frz, getCs, inJ, toLoc, unLoc, putC] using h⟩
theorem okVs_names : ∀ {p : List Str}, (∀ z ∈ p, okV (.str z) = true) → okVs (p.map .str) = true
  | [], _ => rfl
  | z :: p, h => by
    simp only [List.map_cons, okVs, Bool.and_eq_true]
    exact ⟨h z List.mem_cons_self, okVs_names fun y hy => h y (List.mem_cons_of_mem _ hy)⟩
theorem ptB_names {R : List Row} {p : List Str} (h1 : 1 ≤ p.length) (h3 : p.length ≤ 3) (hp : ∀ z ∈ p, z ∈ namesR R) : ptB R (tupS p) = true := by
  simp [ptB, tupS, h1, h3, hasN]
  exact hp
end DH
namespace DH
open PySem PySem.Spec L2 DL
def abStep (F : List Str) (r : Row) : List Str := if r.1 ∈ F then F ++ r.2.filter (fun x => decide (x ∉ F)) else F
theorem aboveF_snoc (r : Row) : ∀ (xs : List Row) (F : List Str), aboveF (xs ++ [r]) F = abStep (aboveF xs F) r
  | [], F => rfl
  | x :: xs, F => by
    simp only [List.cons_append, aboveF]
    exact aboveF_snoc r xs _
def pOut (F : List Str) : W → Bool
  | .d (.str z) => !decide (z ∈ F)
  | _ => false
theorem out_eq (F s : List Str) : (((s.map D.str).map W.d).filter (pOut F)).map unW = (s.filter fun x => decide (x ∉ F)).map .str := by
  simp [List.filter_map, Function.comp_def, unW, pOut]
theorem p__law_above : ∀ ws cs Q E, sl__law_above ws cs Q E → t__law_above (endsD cs.length Q E) (startE N__law_above ws) cs := by
  rintro ws cs Q E ⟨R, z, rfl, rfl, hR, hl, hq⟩
  have sz := sz6
  simp [dSeq, dIfS, dAsg, dIf, dTest, dOp2, dOp1, dOpN, dVar, dC, dCons, dNil, dgName, dRet, dRetN, dDrop, dNext, dLst, dTup, startE, endsD, oI, oInt1, oInt2, oNeg, oIs, oDivmod, dAnd, dOr, dNot, dAndV, dOrV, dNotV, dgSub, dgTup, dgCons, dgNil, oSetL, dPar, dPar3, dFor, diRange1, diRange2, dLc, dCall, dBM, isT, dSl, dP, dNoP, oEq, dChain, oRepr, oIsi, oBools, retD_d, isTy, dDict0, dDict, dPairs, isFl, isFls, isPy, isPys, isPyKV, look_d, look_c, lookC_lst, lookC_dct, lookC_frz, itM_some, oIx_v, ixV_lst, ixV_tup, ixV_scr, ixV_str, oAdd_v, addV_int, addV_str, addV_tup, addV_lst, oMul_v, mulV_int, mulV_lst, oLen_v, lenV_str, lenV_lst, lenV_tup, lenV_scr, oSl_v, slV_str, slV_tup, slV_lst, oIn_v, inV_lst, inV_tup, inV_sign, diSeq_v, seqV_lst, seqV_tup, seqV_str, fixW_d, fixW_c, fixV_frz, fixV_lst, fixV_dct, fixAll_nil, fixAll_cons, gcS, gcK, fixEnv_nil, fixEnv_none, fixEnv_d, fixEnv_c, fixEnv_tp, fixEnv_dead, fixEnv_sl, poison_sl, fixC, poison, poisonC_lst, poisonC_dct, poisonC_frz, poisonC_obj, dropTo0, dropTo1, dropTo2, dropTo3, dropTo4, dropTo5, dropTo6, madeQ, dMake, dMeth, DL.isObj, dFld, fldW, dCon, dSetF, fixO, frzS, diDK, diDP, keepD, oIxD, oInD, oLenD, oListK, oSetD, oPopAt, oIsiT, oInS, oTupleOf, oListOf, sd_inj, refsC_pc, toLocC_pc, unLocC_pc, poisonC_pc, diEnumA, enumV_lst, enumV_tup, dFix, dRev, oClear, dLc2, t__law_above]
  refine ⟨by omega, ?_⟩
  have hrow : ∀ r ∈ R, r.2.length ≤ 25 := fun r hr => by
    obtain ⟨a, b, e⟩ := List.append_of_mem hr
    exact (hR.sup a r b e).2.2
  refine forD_inv (fun i env c => ∃ a b F, env = [some (.c 0), some (.d (.str z)), some (.c 1), a, b, none] ∧ c = [.lst (R.map rowD), .lst (F.map .str), .lst (R.map rowD).reverse] ∧ F = aboveF (R.reverse.take i) [z] ∧ F.length ≤ 1 + 25 * i) (fun _ _ _ hJ => ?_) _ 0 _ _ ⟨_, _, [z], rfl, rfl, rfl, by simp⟩ (fun j x hx env c hJ D' h1 h2 h3 h4 h5 => ?_) fun env c hJ => ?_
  · obtain ⟨a, b, F, rfl, rfl, -⟩ := hJ
    simp [dSeq, dIfS, dAsg, dIf, dTest, dOp2, dOp1, dOpN, dVar, dC, dCons, dNil, dgName, dRet, dRetN, dDrop, dNext, dLst, dTup, startE, endsD, oI, oInt1, oInt2, oNeg, oIs, oDivmod, dAnd, dOr, dNot, dAndV, dOrV, dNotV, dgSub, dgTup, dgCons, dgNil, oSetL, dPar, dPar3, dFor, diRange1, diRange2, dLc, dCall, dBM, isT, dSl, dP, dNoP, oEq, dChain, oRepr, oIsi, oBools, retD_d, isTy, dDict0, dDict, dPairs, isFl, isFls, isPy, isPys, isPyKV, look_d, look_c, lookC_lst, lookC_dct, lookC_frz, itM_some, oIx_v, ixV_lst, ixV_tup, ixV_scr, ixV_str, oAdd_v, addV_int, addV_str, addV_tup, addV_lst, oMul_v, mulV_int, mulV_lst, oLen_v, lenV_str, lenV_lst, lenV_tup, lenV_scr, oSl_v, slV_str, slV_tup, slV_lst, oIn_v, inV_lst, inV_tup, inV_sign, diSeq_v, seqV_lst, seqV_tup, seqV_str, fixW_d, fixW_c, fixV_frz, fixV_lst, fixV_dct, fixAll_nil, fixAll_cons, gcS, gcK, fixEnv_nil, fixEnv_none, fixEnv_d, fixEnv_c, fixEnv_tp, fixEnv_dead, fixEnv_sl, poison_sl, fixC, poison, poisonC_lst, poisonC_dct, poisonC_frz, poisonC_obj, dropTo0, dropTo1, dropTo2, dropTo3, dropTo4, dropTo5, dropTo6, madeQ, dMake, dMeth, DL.isObj, dFld, fldW, dCon, dSetF, fixO, frzS, diDK, diDP, keepD, oIxD, oInD, oLenD, oListK, oSetD, oPopAt, oIsiT, oInS, oTupleOf, oListOf, sd_inj, refsC_pc, toLocC_pc, unLocC_pc, poisonC_pc, diEnumA, enumV_lst, enumV_tup, dFix, dRev, oClear, dLc2]
  · obtain ⟨a, b, F, rfl, rfl, hF, hFl⟩ := hJ
    have hx : ∃ r, R.reverse[j]? = some r ∧ x = .d (rowD r) := by
      rw [← List.map_reverse, List.getElem?_map] at hx
      cases e : R.reverse[j]? with
      | none => simp [e] at hx
      | some r => simp [e] at hx; exact ⟨r, rfl, hx.symm⟩
    obtain ⟨r, hr, rfl⟩ := hx
    have hjl := (List.getElem?_eq_some_iff.mp hr).1
    simp at hjl
    have hrl := hrow r (by simpa using List.mem_of_getElem? hr)
    have hn : aboveF (R.reverse.take (0 + j + 1)) [z] = abStep F r := by
      rw [show 0 + j + 1 = j + 1 by omega, List.take_add_one, hr, hF, show 0 + j = j by omega]
      exact aboveF_snoc r _ _
    clear h1 h2 h3 h5
    simp [dSeq, dIfS, dAsg, dIf, dTest, dOp2, dOp1, dOpN, dVar, dC, dCons, dNil, dgName, dRet, dRetN, dDrop, dNext, dLst, dTup, startE, endsD, oI, oInt1, oInt2, oNeg, oIs, oDivmod, dAnd, dOr, dNot, dAndV, dOrV, dNotV, dgSub, dgTup, dgCons, dgNil, oSetL, dPar, dPar3, dFor, diRange1, diRange2, dLc, dCall, dBM, isT, dSl, dP, dNoP, oEq, dChain, oRepr, oIsi, oBools, retD_d, isTy, dDict0, dDict, dPairs, isFl, isFls, isPy, isPys, isPyKV, look_d, look_c, lookC_lst, lookC_dct, lookC_frz, itM_some, oIx_v, ixV_lst, ixV_tup, ixV_scr, ixV_str, oAdd_v, addV_int, addV_str, addV_tup, addV_lst, oMul_v, mulV_int, mulV_lst, oLen_v, lenV_str, lenV_lst, lenV_tup, lenV_scr, oSl_v, slV_str, slV_tup, slV_lst, oIn_v, inV_lst, inV_tup, inV_sign, diSeq_v, seqV_lst, seqV_tup, seqV_str, fixW_d, fixW_c, fixV_frz, fixV_lst, fixV_dct, fixAll_nil, fixAll_cons, gcS, gcK, fixEnv_nil, fixEnv_none, fixEnv_d, fixEnv_c, fixEnv_tp, fixEnv_dead, fixEnv_sl, poison_sl, fixC, poison, poisonC_lst, poisonC_dct, poisonC_frz, poisonC_obj, dropTo0, dropTo1, dropTo2, dropTo3, dropTo4, dropTo5, dropTo6, madeQ, dMake, dMeth, DL.isObj, dFld, fldW, dCon, dSetF, fixO, frzS, diDK, diDP, keepD, oIxD, oInD, oLenD, oListK, oSetD, oPopAt, oIsiT, oInS, oTupleOf, oListOf, sd_inj, refsC_pc, toLocC_pc, unLocC_pc, poisonC_pc, diEnumA, enumV_lst, enumV_tup, dFix, dRev, oClear, dLc2, rowD]
    rw [oIn_lst (ns := F) rfl]
    by_cases hc : r.1 ∈ F
    · rw [decide_eq_true hc]
      simp [dSeq, dIfS, dAsg, dIf, dTest, dOp2, dOp1, dOpN, dVar, dC, dCons, dNil, dgName, dRet, dRetN, dDrop, dNext, dLst, dTup, startE, endsD, oI, oInt1, oInt2, oNeg, oIs, oDivmod, dAnd, dOr, dNot, dAndV, dOrV, dNotV, dgSub, dgTup, dgCons, dgNil, oSetL, dPar, dPar3, dFor, diRange1, diRange2, dLc, dCall, dBM, isT, dSl, dP, dNoP, oEq, dChain, oRepr, oIsi, oBools, retD_d, isTy, dDict0, dDict, dPairs, isFl, isFls, isPy, isPys, isPyKV, look_d, look_c, lookC_lst, lookC_dct, lookC_frz, itM_some, oIx_v, ixV_lst, ixV_tup, ixV_scr, ixV_str, oAdd_v, addV_int, addV_str, addV_tup, addV_lst, oMul_v, mulV_int, mulV_lst, oLen_v, lenV_str, lenV_lst, lenV_tup, lenV_scr, oSl_v, slV_str, slV_tup, slV_lst, oIn_v, inV_lst, inV_tup, inV_sign, diSeq_v, seqV_lst, seqV_tup, seqV_str, fixW_d, fixW_c, fixV_frz, fixV_lst, fixV_dct, fixAll_nil, fixAll_cons, gcS, gcK, fixEnv_nil, fixEnv_none, fixEnv_d, fixEnv_c, fixEnv_tp, fixEnv_dead, fixEnv_sl, poison_sl, fixC, poison, poisonC_lst, poisonC_dct, poisonC_frz, poisonC_obj, dropTo0, dropTo1, dropTo2, dropTo3, dropTo4, dropTo5, dropTo6, madeQ, dMake, dMeth, DL.isObj, dFld, fldW, dCon, dSetF, fixO, frzS, diDK, diDP, keepD, oIxD, oInD, oLenD, oListK, oSetD, oPopAt, oIsiT, oInS, oTupleOf, oListOf, sd_inj, refsC_pc, toLocC_pc, unLocC_pc, poisonC_pc, diEnumA, enumV_lst, enumV_tup, dFix, dRev, oClear, dLc2]
      have es : (r.2.map (W.d ∘ D.str)) = (r.2.map D.str).map W.d := by simp
      rw [es]
      refine lcD_filt (pOut F) unW rfl rfl True.intro (by simp; omega) (fun w hw K K' hK hK' => ?_) ?_
      · simp at hw
        obtain ⟨y, hy, rfl⟩ := hw
        simp [dSeq, dIfS, dAsg, dIf, dTest, dOp2, dOp1, dOpN, dVar, dC, dCons, dNil, dgName, dRet, dRetN, dDrop, dNext, dLst, dTup, startE, endsD, oI, oInt1, oInt2, oNeg, oIs, oDivmod, dAnd, dOr, dNot, dAndV, dOrV, dNotV, dgSub, dgTup, dgCons, dgNil, oSetL, dPar, dPar3, dFor, diRange1, diRange2, dLc, dCall, dBM, isT, dSl, dP, dNoP, oEq, dChain, oRepr, oIsi, oBools, retD_d, isTy, dDict0, dDict, dPairs, isFl, isFls, isPy, isPys, isPyKV, look_d, look_c, lookC_lst, lookC_dct, lookC_frz, itM_some, oIx_v, ixV_lst, ixV_tup, ixV_scr, ixV_str, oAdd_v, addV_int, addV_str, addV_tup, addV_lst, oMul_v, mulV_int, mulV_lst, oLen_v, lenV_str, lenV_lst, lenV_tup, lenV_scr, oSl_v, slV_str, slV_tup, slV_lst, oIn_v, inV_lst, inV_tup, inV_sign, diSeq_v, seqV_lst, seqV_tup, seqV_str, fixW_d, fixW_c, fixV_frz, fixV_lst, fixV_dct, fixAll_nil, fixAll_cons, gcS, gcK, fixEnv_nil, fixEnv_none, fixEnv_d, fixEnv_c, fixEnv_tp, fixEnv_dead, fixEnv_sl, poison_sl, fixC, poison, poisonC_lst, poisonC_dct, poisonC_frz, poisonC_obj, dropTo0, dropTo1, dropTo2, dropTo3, dropTo4, dropTo5, dropTo6, madeQ, dMake, dMeth, DL.isObj, dFld, fldW, dCon, dSetF, fixO, frzS, diDK, diDP, keepD, oIxD, oInD, oLenD, oListK, oSetD, oPopAt, oIsiT, oInS, oTupleOf, oListOf, sd_inj, refsC_pc, toLocC_pc, unLocC_pc, poisonC_pc, diEnumA, enumV_lst, enumV_tup, dFix, dRev, oClear, dLc2, wipeE]
        rw [oIn_lst (ns := F) rfl]
        simp only [pOut, unW_d] at hK hK'
        by_cases hc : y ∈ F
        · rw [decide_eq_true hc] at hK' ⊢
          simpa using hK' rfl []
        · rw [decide_eq_false hc] at hK ⊢
          simpa using hK rfl []
      · rw [out_eq]
        have hfl := List.length_filter_le (fun x => decide (x ∉ F)) r.2
        have hfl2 := hfl
        simp only [decide_not] at hfl2
        simp only [abStep, if_pos hc] at hn
        simp [dSeq, dIfS, dAsg, dIf, dTest, dOp2, dOp1, dOpN, dVar, dC, dCons, dNil, dgName, dRet, dRetN, dDrop, dNext, dLst, dTup, startE, endsD, oI, oInt1, oInt2, oNeg, oIs, oDivmod, dAnd, dOr, dNot, dAndV, dOrV, dNotV, dgSub, dgTup, dgCons, dgNil, oSetL, dPar, dPar3, dFor, diRange1, diRange2, dLc, dCall, dBM, isT, dSl, dP, dNoP, oEq, dChain, oRepr, oIsi, oBools, retD_d, isTy, dDict0, dDict, dPairs, isFl, isFls, isPy, isPys, isPyKV, look_d, look_c, lookC_lst, lookC_dct, lookC_frz, itM_some, oIx_v, ixV_lst, ixV_tup, ixV_scr, ixV_str, oAdd_v, addV_int, addV_str, addV_tup, addV_lst, oMul_v, mulV_int, mulV_lst, oLen_v, lenV_str, lenV_lst, lenV_tup, lenV_scr, oSl_v, slV_str, slV_tup, slV_lst, oIn_v, inV_lst, inV_tup, inV_sign, diSeq_v, seqV_lst, seqV_tup, seqV_str, fixW_d, fixW_c, fixV_frz, fixV_lst, fixV_dct, fixAll_nil, fixAll_cons, gcS, gcK, fixEnv_nil, fixEnv_none, fixEnv_d, fixEnv_c, fixEnv_tp, fixEnv_dead, fixEnv_sl, poison_sl, fixC, poison, poisonC_lst, poisonC_dct, poisonC_frz, poisonC_obj, dropTo0, dropTo1, dropTo2, dropTo3, dropTo4, dropTo5, dropTo6, madeQ, dMake, dMeth, DL.isObj, dFld, fldW, dCon, dSetF, fixO, frzS, diDK, diDP, keepD, oIxD, oInD, oLenD, oListK, oSetD, oPopAt, oIsiT, oInS, oTupleOf, oListOf, sd_inj, refsC_pc, toLocC_pc, unLocC_pc, poisonC_pc, diEnumA, enumV_lst, enumV_tup, dFix, dRev, oClear, dLc2, oExtend]
        refine ⟨by omega, h4 _ _ ⟨_, _, _, rfl, ?_, hn.symm, by simp; omega⟩⟩
        simp
    · rw [decide_eq_false hc]
      simp only [abStep, if_neg hc] at hn
      simp [dSeq, dIfS, dAsg, dIf, dTest, dOp2, dOp1, dOpN, dVar, dC, dCons, dNil, dgName, dRet, dRetN, dDrop, dNext, dLst, dTup, startE, endsD, oI, oInt1, oInt2, oNeg, oIs, oDivmod, dAnd, dOr, dNot, dAndV, dOrV, dNotV, dgSub, dgTup, dgCons, dgNil, oSetL, dPar, dPar3, dFor, diRange1, diRange2, dLc, dCall, dBM, isT, dSl, dP, dNoP, oEq, dChain, oRepr, oIsi, oBools, retD_d, isTy, dDict0, dDict, dPairs, isFl, isFls, isPy, isPys, isPyKV, look_d, look_c, lookC_lst, lookC_dct, lookC_frz, itM_some, oIx_v, ixV_lst, ixV_tup, ixV_scr, ixV_str, oAdd_v, addV_int, addV_str, addV_tup, addV_lst, oMul_v, mulV_int, mulV_lst, oLen_v, lenV_str, lenV_lst, lenV_tup, lenV_scr, oSl_v, slV_str, slV_tup, slV_lst, oIn_v, inV_lst, inV_tup, inV_sign, diSeq_v, seqV_lst, seqV_tup, seqV_str, fixW_d, fixW_c, fixV_frz, fixV_lst, fixV_dct, fixAll_nil, fixAll_cons, gcS, gcK, fixEnv_nil, fixEnv_none, fixEnv_d, fixEnv_c, fixEnv_tp, fixEnv_dead, fixEnv_sl, poison_sl, fixC, poison, poisonC_lst, poisonC_dct, poisonC_frz, poisonC_obj, dropTo0, dropTo1, dropTo2, dropTo3, dropTo4, dropTo5, dropTo6, madeQ, dMake, dMeth, DL.isObj, dFld, fldW, dCon, dSetF, fixO, frzS, diDK, diDP, keepD, oIxD, oInD, oLenD, oListK, oSetD, oPopAt, oIsiT, oInS, oTupleOf, oListOf, sd_inj, refsC_pc, toLocC_pc, unLocC_pc, poisonC_pc, diEnumA, enumV_lst, enumV_tup, dFix, dRev, oClear, dLc2]
      exact h4 _ _ ⟨_, _, _, rfl, by simp, hn.symm, by omega⟩
  · obtain ⟨a, b, F, rfl, rfl, hF, hFl⟩ := hJ
    simp [dSeq, dIfS, dAsg, dIf, dTest, dOp2, dOp1, dOpN, dVar, dC, dCons, dNil, dgName, dRet, dRetN, dDrop, dNext, dLst, dTup, startE, endsD, oI, oInt1, oInt2, oNeg, oIs, oDivmod, dAnd, dOr, dNot, dAndV, dOrV, dNotV, dgSub, dgTup, dgCons, dgNil, oSetL, dPar, dPar3, dFor, diRange1, diRange2, dLc, dCall, dBM, isT, dSl, dP, dNoP, oEq, dChain, oRepr, oIsi, oBools, retD_d, isTy, dDict0, dDict, dPairs, isFl, isFls, isPy, isPys, isPyKV, look_d, look_c, lookC_lst, lookC_dct, lookC_frz, itM_some, oIx_v, ixV_lst, ixV_tup, ixV_scr, ixV_str, oAdd_v, addV_int, addV_str, addV_tup, addV_lst, oMul_v, mulV_int, mulV_lst, oLen_v, lenV_str, lenV_lst, lenV_tup, lenV_scr, oSl_v, slV_str, slV_tup, slV_lst, oIn_v, inV_lst, inV_tup, inV_sign, diSeq_v, seqV_lst, seqV_tup, seqV_str, fixW_d, fixW_c, fixV_frz, fixV_lst, fixV_dct, fixAll_nil, fixAll_cons, gcS, gcK, fixEnv_nil, fixEnv_none, fixEnv_d, fixEnv_c, fixEnv_tp, fixEnv_dead, fixEnv_sl, poison_sl, fixC, poison, poisonC_lst, poisonC_dct, poisonC_frz, poisonC_obj, dropTo0, dropTo1, dropTo2, dropTo3, dropTo4, dropTo5, dropTo6, madeQ, dMake, dMeth, DL.isObj, dFld, fldW, dCon, dSetF, fixO, frzS, diDK, diDP, keepD, oIxD, oInD, oLenD, oListK, oSetD, oPopAt, oIsiT, oInS, oTupleOf, oListOf, sd_inj, refsC_pc, toLocC_pc, unLocC_pc, poisonC_pc, diEnumA, enumV_lst, enumV_tup, dFix, dRev, oClear, dLc2, retD]
    have e9 : R.reverse.take (0 + (R.map (W.d ∘ rowD)).reverse.length) = R.reverse := List.take_of_length_le (by simp)
    rw [e9] at hF
    rw [hF]
    simpa [aboveL] using hq
theorem above0 {R : List Row} {z : Str} {g : Cs} {Q : DQ} {E : DX} (hR : RowsOk R) (hl : R.length ≤ 25) (h : Q (.c (g.length + 1)) (.lst (R.map rowD) :: g ++ [.lst ((aboveL R z).map .str)])) : sp__law_above [.c 0, .d (.str z)] (.lst (R.map rowD) :: g) Q E := by
  simp [sp__law_above, loc, locAt, locJ, namesOf, refsC_pc, refsC_lst, refsC_dct, refsC_frz, toLocC_pc, toLocC_lst, toLocC_dct, toLocC_frz, unLocC_pc, unLocC_lst, unLocC_dct, unLocC_frz, getCs, inJ, toLoc, unLoc, putC, sl__law_above]
  exact ⟨R, rfl, hR, hl, by simpa [loc, locAt, locJ, namesOf, refsC_pc, refsC_lst, refsC_dct, refsC_frz, toLocC_pc, toLocC_lst, toLocC_dct, toLocC_frz, unLocC_pc, unLocC_lst, unLocC_dct, unLocC_frz, getCs, inJ, toLoc, unLoc, putC] using h⟩
def upT (R : List Row) : W → D
  | .d (.tup (.str n :: _)) => .tup [.str n, .lst ((aboveL R n).map .str)]
  | _ => .non
theorem p__law_ups : ∀ ws cs Q E, sl__law_ups ws cs Q E → t__law_ups (endsD cs.length Q E) (startE N__law_ups ws) cs := by
  rintro ws cs Q E ⟨R, rfl, rfl, hR, hl, hq⟩
  have sz := sz6
  simp [dSeq, dIfS, dAsg, dIf, dTest, dOp2, dOp1, dOpN, dVar, dC, dCons, dNil, dgName, dRet, dRetN, dDrop, dNext, dLst, dTup, startE, endsD, oI, oInt1, oInt2, oNeg, oIs, oDivmod, dAnd, dOr, dNot, dAndV, dOrV, dNotV, dgSub, dgTup, dgCons, dgNil, oSetL, dPar, dPar3, dFor, diRange1, diRange2, dLc, dCall, dBM, isT, dSl, dP, dNoP, oEq, dChain, oRepr, oIsi, oBools, retD_d, isTy, dDict0, dDict, dPairs, isFl, isFls, isPy, isPys, isPyKV, look_d, look_c, lookC_lst, lookC_dct, lookC_frz, itM_some, oIx_v, ixV_lst, ixV_tup, ixV_scr, ixV_str, oAdd_v, addV_int, addV_str, addV_tup, addV_lst, oMul_v, mulV_int, mulV_lst, oLen_v, lenV_str, lenV_lst, lenV_tup, lenV_scr, oSl_v, slV_str, slV_tup, slV_lst, oIn_v, inV_lst, inV_tup, inV_sign, diSeq_v, seqV_lst, seqV_tup, seqV_str, fixW_d, fixW_c, fixV_frz, fixV_lst, fixV_dct, fixAll_nil, fixAll_cons, gcS, gcK, fixEnv_nil, fixEnv_none, fixEnv_d, fixEnv_c, fixEnv_tp, fixEnv_dead, fixEnv_sl, poison_sl, fixC, poison, poisonC_lst, poisonC_dct, poisonC_frz, poisonC_obj, dropTo0, dropTo1, dropTo2, dropTo3, dropTo4, dropTo5, dropTo6, madeQ, dMake, dMeth, DL.isObj, dFld, fldW, dCon, dSetF, fixO, frzS, diDK, diDP, keepD, oIxD, oInD, oLenD, oListK, oSetD, oPopAt, oIsiT, oInS, oTupleOf, oListOf, sd_inj, refsC_pc, toLocC_pc, unLocC_pc, poisonC_pc, diEnumA, enumV_lst, enumV_tup, dFix, dRev, oClear, dLc2, t__law_ups]
  refine lcD_pure (upT R) rfl rfl ?_ (by simp; omega) (fun w hw K hK => ?_) ?_
  · simp [dSeq, dIfS, dAsg, dIf, dTest, dOp2, dOp1, dOpN, dVar, dC, dCons, dNil, dgName, dRet, dRetN, dDrop, dNext, dLst, dTup, startE, endsD, oI, oInt1, oInt2, oNeg, oIs, oDivmod, dAnd, dOr, dNot, dAndV, dOrV, dNotV, dgSub, dgTup, dgCons, dgNil, oSetL, dPar, dPar3, dFor, diRange1, diRange2, dLc, dCall, dBM, isT, dSl, dP, dNoP, oEq, dChain, oRepr, oIsi, oBools, retD_d, isTy, dDict0, dDict, dPairs, isFl, isFls, isPy, isPys, isPyKV, look_d, look_c, lookC_lst, lookC_dct, lookC_frz, itM_some, oIx_v, ixV_lst, ixV_tup, ixV_scr, ixV_str, oAdd_v, addV_int, addV_str, addV_tup, addV_lst, oMul_v, mulV_int, mulV_lst, oLen_v, lenV_str, lenV_lst, lenV_tup, lenV_scr, oSl_v, slV_str, slV_tup, slV_lst, oIn_v, inV_lst, inV_tup, inV_sign, diSeq_v, seqV_lst, seqV_tup, seqV_str, fixW_d, fixW_c, fixV_frz, fixV_lst, fixV_dct, fixAll_nil, fixAll_cons, gcS, gcK, fixEnv_nil, fixEnv_none, fixEnv_d, fixEnv_c, fixEnv_tp, fixEnv_dead, fixEnv_sl, poison_sl, fixC, poison, poisonC_lst, poisonC_dct, poisonC_frz, poisonC_obj, dropTo0, dropTo1, dropTo2, dropTo3, dropTo4, dropTo5, dropTo6, madeQ, dMake, dMeth, DL.isObj, dFld, fldW, dCon, dSetF, fixO, frzS, diDK, diDP, keepD, oIxD, oInD, oLenD, oListK, oSetD, oPopAt, oIsiT, oInS, oTupleOf, oListOf, sd_inj, refsC_pc, toLocC_pc, unLocC_pc, poisonC_pc, diEnumA, enumV_lst, enumV_tup, dFix, dRev, oClear, dLc2]
  · obtain ⟨r, hr, rfl⟩ := List.mem_map.mp hw
    have := hK [.frz (.lst ((aboveL R r.1).map .str))]
    simp [upT, rowD] at this
    simp [dSeq, dIfS, dAsg, dIf, dTest, dOp2, dOp1, dOpN, dVar, dC, dCons, dNil, dgName, dRet, dRetN, dDrop, dNext, dLst, dTup, startE, endsD, oI, oInt1, oInt2, oNeg, oIs, oDivmod, dAnd, dOr, dNot, dAndV, dOrV, dNotV, dgSub, dgTup, dgCons, dgNil, oSetL, dPar, dPar3, dFor, diRange1, diRange2, dLc, dCall, dBM, isT, dSl, dP, dNoP, oEq, dChain, oRepr, oIsi, oBools, retD_d, isTy, dDict0, dDict, dPairs, isFl, isFls, isPy, isPys, isPyKV, look_d, look_c, lookC_lst, lookC_dct, lookC_frz, itM_some, oIx_v, ixV_lst, ixV_tup, ixV_scr, ixV_str, oAdd_v, addV_int, addV_str, addV_tup, addV_lst, oMul_v, mulV_int, mulV_lst, oLen_v, lenV_str, lenV_lst, lenV_tup, lenV_scr, oSl_v, slV_str, slV_tup, slV_lst, oIn_v, inV_lst, inV_tup, inV_sign, diSeq_v, seqV_lst, seqV_tup, seqV_str, fixW_d, fixW_c, fixV_frz, fixV_lst, fixV_dct, fixAll_nil, fixAll_cons, gcS, gcK, fixEnv_nil, fixEnv_none, fixEnv_d, fixEnv_c, fixEnv_tp, fixEnv_dead, fixEnv_sl, poison_sl, fixC, poison, poisonC_lst, poisonC_dct, poisonC_frz, poisonC_obj, dropTo0, dropTo1, dropTo2, dropTo3, dropTo4, dropTo5, dropTo6, madeQ, dMake, dMeth, DL.isObj, dFld, fldW, dCon, dSetF, fixO, frzS, diDK, diDP, keepD, oIxD, oInD, oLenD, oListK, oSetD, oPopAt, oIsiT, oInS, oTupleOf, oListOf, sd_inj, refsC_pc, toLocC_pc, unLocC_pc, poisonC_pc, diEnumA, enumV_lst, enumV_tup, dFix, dRev, oClear, dLc2, wipeE, rowD]
    refine above0 hR hl ?_
    simp [dSeq, dIfS, dAsg, dIf, dTest, dOp2, dOp1, dOpN, dVar, dC, dCons, dNil, dgName, dRet, dRetN, dDrop, dNext, dLst, dTup, startE, endsD, oI, oInt1, oInt2, oNeg, oIs, oDivmod, dAnd, dOr, dNot, dAndV, dOrV, dNotV, dgSub, dgTup, dgCons, dgNil, oSetL, dPar, dPar3, dFor, diRange1, diRange2, dLc, dCall, dBM, isT, dSl, dP, dNoP, oEq, dChain, oRepr, oIsi, oBools, retD_d, isTy, dDict0, dDict, dPairs, isFl, isFls, isPy, isPys, isPyKV, look_d, look_c, lookC_lst, lookC_dct, lookC_frz, itM_some, oIx_v, ixV_lst, ixV_tup, ixV_scr, ixV_str, oAdd_v, addV_int, addV_str, addV_tup, addV_lst, oMul_v, mulV_int, mulV_lst, oLen_v, lenV_str, lenV_lst, lenV_tup, lenV_scr, oSl_v, slV_str, slV_tup, slV_lst, oIn_v, inV_lst, inV_tup, inV_sign, diSeq_v, seqV_lst, seqV_tup, seqV_str, fixW_d, fixW_c, fixV_frz, fixV_lst, fixV_dct, fixAll_nil, fixAll_cons, gcS, gcK, fixEnv_nil, fixEnv_none, fixEnv_d, fixEnv_c, fixEnv_tp, fixEnv_dead, fixEnv_sl, poison_sl, fixC, poison, poisonC_lst, poisonC_dct, poisonC_frz, poisonC_obj, dropTo0, dropTo1, dropTo2, dropTo3, dropTo4, dropTo5, dropTo6, madeQ, dMake, dMeth, DL.isObj, dFld, fldW, dCon, dSetF, fixO, frzS, diDK, diDP, keepD, oIxD, oInD, oLenD, oListK, oSetD, oPopAt, oIsiT, oInS, oTupleOf, oListOf, sd_inj, refsC_pc, toLocC_pc, unLocC_pc, poisonC_pc, diEnumA, enumV_lst, enumV_tup, dFix, dRev, oClear, dLc2]
    exact ⟨by omega, this⟩
  · simp [dSeq, dIfS, dAsg, dIf, dTest, dOp2, dOp1, dOpN, dVar, dC, dCons, dNil, dgName, dRet, dRetN, dDrop, dNext, dLst, dTup, startE, endsD, oI, oInt1, oInt2, oNeg, oIs, oDivmod, dAnd, dOr, dNot, dAndV, dOrV, dNotV, dgSub, dgTup, dgCons, dgNil, oSetL, dPar, dPar3, dFor, diRange1, diRange2, dLc, dCall, dBM, isT, dSl, dP, dNoP, oEq, dChain, oRepr, oIsi, oBools, retD_d, isTy, dDict0, dDict, dPairs, isFl, isFls, isPy, isPys, isPyKV, look_d, look_c, lookC_lst, lookC_dct, lookC_frz, itM_some, oIx_v, ixV_lst, ixV_tup, ixV_scr, ixV_str, oAdd_v, addV_int, addV_str, addV_tup, addV_lst, oMul_v, mulV_int, mulV_lst, oLen_v, lenV_str, lenV_lst, lenV_tup, lenV_scr, oSl_v, slV_str, slV_tup, slV_lst, oIn_v, inV_lst, inV_tup, inV_sign, diSeq_v, seqV_lst, seqV_tup, seqV_str, fixW_d, fixW_c, fixV_frz, fixV_lst, fixV_dct, fixAll_nil, fixAll_cons, gcS, gcK, fixEnv_nil, fixEnv_none, fixEnv_d, fixEnv_c, fixEnv_tp, fixEnv_dead, fixEnv_sl, poison_sl, fixC, poison, poisonC_lst, poisonC_dct, poisonC_frz, poisonC_obj, dropTo0, dropTo1, dropTo2, dropTo3, dropTo4, dropTo5, dropTo6, madeQ, dMake, dMeth, DL.isObj, dFld, fldW, dCon, dSetF, fixO, frzS, diDK, diDP, keepD, oIxD, oInD, oLenD, oListK, oSetD, oPopAt, oIsiT, oInS, oTupleOf, oListOf, sd_inj, refsC_pc, toLocC_pc, unLocC_pc, poisonC_pc, diEnumA, enumV_lst, enumV_tup, dFix, dRev, oClear, dLc2, oDictP]
    refine ⟨upsD R, ?_, ?_, fun o => ?_⟩
    · simp [upsD, upT, rowD, Function.comp_def]
    · have : (upsD R).map (fun p => p.1) = namesR R := by simp [upsD, namesR, Function.comp_def]
      rw [this]; exact hR.nd
    · simp [dSeq, dIfS, dAsg, dIf, dTest, dOp2, dOp1, dOpN, dVar, dC, dCons, dNil, dgName, dRet, dRetN, dDrop, dNext, dLst, dTup, startE, endsD, oI, oInt1, oInt2, oNeg, oIs, oDivmod, dAnd, dOr, dNot, dAndV, dOrV, dNotV, dgSub, dgTup, dgCons, dgNil, oSetL, dPar, dPar3, dFor, diRange1, diRange2, dLc, dCall, dBM, isT, dSl, dP, dNoP, oEq, dChain, oRepr, oIsi, oBools, retD_d, isTy, dDict0, dDict, dPairs, isFl, isFls, isPy, isPys, isPyKV, look_d, look_c, lookC_lst, lookC_dct, lookC_frz, itM_some, oIx_v, ixV_lst, ixV_tup, ixV_scr, ixV_str, oAdd_v, addV_int, addV_str, addV_tup, addV_lst, oMul_v, mulV_int, mulV_lst, oLen_v, lenV_str, lenV_lst, lenV_tup, lenV_scr, oSl_v, slV_str, slV_tup, slV_lst, oIn_v, inV_lst, inV_tup, inV_sign, diSeq_v, seqV_lst, seqV_tup, seqV_str, fixW_d, fixW_c, fixV_frz, fixV_lst, fixV_dct, fixAll_nil, fixAll_cons, gcS, gcK, fixEnv_nil, fixEnv_none, fixEnv_d, fixEnv_c, fixEnv_tp, fixEnv_dead, fixEnv_sl, poison_sl, fixC, poison, poisonC_lst, poisonC_dct, poisonC_frz, poisonC_obj, dropTo0, dropTo1, dropTo2, dropTo3, dropTo4, dropTo5, dropTo6, madeQ, dMake, dMeth, DL.isObj, dFld, fldW, dCon, dSetF, fixO, frzS, diDK, diDP, keepD, oIxD, oInD, oLenD, oListK, oSetD, oPopAt, oIsiT, oInS, oTupleOf, oListOf, sd_inj, refsC_pc, toLocC_pc, unLocC_pc, poisonC_pc, diEnumA, enumV_lst, enumV_tup, dFix, dRev, oClear, dLc2, retD]
      exact hq o
theorem getS_ups {R A : List Row} {s : Str} (h : s ∈ namesR A) : getS (A.map fun r => (r.1, .lst ((aboveL R r.1).map .str))) s = some (.lst ((aboveL R s).map .str)) := by
  induction A with
  | nil => cases h
  | cons a t ih =>
    simp only [List.map_cons, getS]
    by_cases e : a.1 = s
    · subst e; simp
    · rw [if_neg e]
      simp only [namesR, List.map_cons, List.mem_cons] at h
      exact ih (h.resolve_left fun q => e q.symm)
def undD (R : List Row) : W → D
  | .tp [.str a, .str b] => .bl (decide (b ∈ aboveL R a))
  | _ => .non
theorem zip_strs (p q : List Str) : zipUp (p.map D.str) (q.map D.str) = (p.zip q).map fun x => W.tp [.str x.1, .str x.2] := by
  simp [zipUp, List.zip_map, Function.comp_def]
theorem p__law_is_under : ∀ ws cs Q E, sl__law_is_under ws cs Q E → t__law_is_under (endsD cs.length Q E) (startE N__law_is_under ws) cs := by
  rintro ws cs Q E ⟨R, p, q, o, rfl, rfl, hp, hl, hq⟩
  have sz := sz6
  simp [dSeq, dIfS, dAsg, dIf, dTest, dOp2, dOp1, dOpN, dVar, dC, dCons, dNil, dgName, dRet, dRetN, dDrop, dNext, dLst, dTup, startE, endsD, oI, oInt1, oInt2, oNeg, oIs, oDivmod, dAnd, dOr, dNot, dAndV, dOrV, dNotV, dgSub, dgTup, dgCons, dgNil, oSetL, dPar, dPar3, dFor, diRange1, diRange2, dLc, dCall, dBM, isT, dSl, dP, dNoP, oEq, dChain, oRepr, oIsi, oBools, retD_d, isTy, dDict0, dDict, dPairs, isFl, isFls, isPy, isPys, isPyKV, look_d, look_c, lookC_lst, lookC_dct, lookC_frz, itM_some, oIx_v, ixV_lst, ixV_tup, ixV_scr, ixV_str, oAdd_v, addV_int, addV_str, addV_tup, addV_lst, oMul_v, mulV_int, mulV_lst, oLen_v, lenV_str, lenV_lst, lenV_tup, lenV_scr, oSl_v, slV_str, slV_tup, slV_lst, oIn_v, inV_lst, inV_tup, inV_sign, diSeq_v, seqV_lst, seqV_tup, seqV_str, fixW_d, fixW_c, fixV_frz, fixV_lst, fixV_dct, fixAll_nil, fixAll_cons, gcS, gcK, fixEnv_nil, fixEnv_none, fixEnv_d, fixEnv_c, fixEnv_tp, fixEnv_dead, fixEnv_sl, poison_sl, fixC, poison, poisonC_lst, poisonC_dct, poisonC_frz, poisonC_obj, dropTo0, dropTo1, dropTo2, dropTo3, dropTo4, dropTo5, dropTo6, madeQ, dMake, dMeth, DL.isObj, dFld, fldW, dCon, dSetF, fixO, frzS, diDK, diDP, keepD, oIxD, oInD, oLenD, oListK, oSetD, oPopAt, oIsiT, oInS, oTupleOf, oListOf, sd_inj, refsC_pc, toLocC_pc, unLocC_pc, poisonC_pc, diEnumA, enumV_lst, enumV_tup, dFix, dRev, oClear, dLc2, t__law_is_under, diZip, tupS]
  rw [zip_strs]
  refine lcD_pure (undD R) rfl rfl True.intro (by simp; omega) (fun w hw K hK => ?_) ?_
  · obtain ⟨⟨x, y⟩, hxy, rfl⟩ := List.mem_map.mp hw
    have hx := hp x (List.of_mem_zip hxy).1
    have := hK []
    simp [dSeq, dIfS, dAsg, dIf, dTest, dOp2, dOp1, dOpN, dVar, dC, dCons, dNil, dgName, dRet, dRetN, dDrop, dNext, dLst, dTup, startE, endsD, oI, oInt1, oInt2, oNeg, oIs, oDivmod, dAnd, dOr, dNot, dAndV, dOrV, dNotV, dgSub, dgTup, dgCons, dgNil, oSetL, dPar, dPar3, dFor, diRange1, diRange2, dLc, dCall, dBM, isT, dSl, dP, dNoP, oEq, dChain, oRepr, oIsi, oBools, retD_d, isTy, dDict0, dDict, dPairs, isFl, isFls, isPy, isPys, isPyKV, look_d, look_c, lookC_lst, lookC_dct, lookC_frz, itM_some, oIx_v, ixV_lst, ixV_tup, ixV_scr, ixV_str, oAdd_v, addV_int, addV_str, addV_tup, addV_lst, oMul_v, mulV_int, mulV_lst, oLen_v, lenV_str, lenV_lst, lenV_tup, lenV_scr, oSl_v, slV_str, slV_tup, slV_lst, oIn_v, inV_lst, inV_tup, inV_sign, diSeq_v, seqV_lst, seqV_tup, seqV_str, fixW_d, fixW_c, fixV_frz, fixV_lst, fixV_dct, fixAll_nil, fixAll_cons, gcS, gcK, fixEnv_nil, fixEnv_none, fixEnv_d, fixEnv_c, fixEnv_tp, fixEnv_dead, fixEnv_sl, poison_sl, fixC, poison, poisonC_lst, poisonC_dct, poisonC_frz, poisonC_obj, dropTo0, dropTo1, dropTo2, dropTo3, dropTo4, dropTo5, dropTo6, madeQ, dMake, dMeth, DL.isObj, dFld, fldW, dCon, dSetF, fixO, frzS, diDK, diDP, keepD, oIxD, oInD, oLenD, oListK, oSetD, oPopAt, oIsiT, oInS, oTupleOf, oListOf, sd_inj, refsC_pc, toLocC_pc, unLocC_pc, poisonC_pc, diEnumA, enumV_lst, enumV_tup, dFix, dRev, oClear, dLc2, wipeE]
    refine ⟨_, getS_ups hx, ?_⟩
    rw [oIn_lst (ns := aboveL R x) rfl]
    simpa [undD, dSeq, dIfS, dAsg, dIf, dTest, dOp2, dOp1, dOpN, dVar, dC, dCons, dNil, dgName, dRet, dRetN, dDrop, dNext, dLst, dTup, startE, endsD, oI, oInt1, oInt2, oNeg, oIs, oDivmod, dAnd, dOr, dNot, dAndV, dOrV, dNotV, dgSub, dgTup, dgCons, dgNil, oSetL, dPar, dPar3, dFor, diRange1, diRange2, dLc, dCall, dBM, isT, dSl, dP, dNoP, oEq, dChain, oRepr, oIsi, oBools, retD_d, isTy, dDict0, dDict, dPairs, isFl, isFls, isPy, isPys, isPyKV, look_d, look_c, lookC_lst, lookC_dct, lookC_frz, itM_some, oIx_v, ixV_lst, ixV_tup, ixV_scr, ixV_str, oAdd_v, addV_int, addV_str, addV_tup, addV_lst, oMul_v, mulV_int, mulV_lst, oLen_v, lenV_str, lenV_lst, lenV_tup, lenV_scr, oSl_v, slV_str, slV_tup, slV_lst, oIn_v, inV_lst, inV_tup, inV_sign, diSeq_v, seqV_lst, seqV_tup, seqV_str, fixW_d, fixW_c, fixV_frz, fixV_lst, fixV_dct, fixAll_nil, fixAll_cons, gcS, gcK, fixEnv_nil, fixEnv_none, fixEnv_d, fixEnv_c, fixEnv_tp, fixEnv_dead, fixEnv_sl, poison_sl, fixC, poison, poisonC_lst, poisonC_dct, poisonC_frz, poisonC_obj, dropTo0, dropTo1, dropTo2, dropTo3, dropTo4, dropTo5, dropTo6, madeQ, dMake, dMeth, DL.isObj, dFld, fldW, dCon, dSetF, fixO, frzS, diDK, diDP, keepD, oIxD, oInD, oLenD, oListK, oSetD, oPopAt, oIsiT, oInS, oTupleOf, oListOf, sd_inj, refsC_pc, toLocC_pc, unLocC_pc, poisonC_pc, diEnumA, enumV_lst, enumV_tup, dFix, dRev, oClear, dLc2] using this
  · simp [Function.comp_def, undD, bools_map, dSeq, dIfS, dAsg, dIf, dTest, dOp2, dOp1, dOpN, dVar, dC, dCons, dNil, dgName, dRet, dRetN, dDrop, dNext, dLst, dTup, startE, endsD, oI, oInt1, oInt2, oNeg, oIs, oDivmod, dAnd, dOr, dNot, dAndV, dOrV, dNotV, dgSub, dgTup, dgCons, dgNil, oSetL, dPar, dPar3, dFor, diRange1, diRange2, dLc, dCall, dBM, isT, dSl, dP, dNoP, oEq, dChain, oRepr, oIsi, oBools, retD_d, isTy, dDict0, dDict, dPairs, isFl, isFls, isPy, isPys, isPyKV, look_d, look_c, lookC_lst, lookC_dct, lookC_frz, itM_some, oIx_v, ixV_lst, ixV_tup, ixV_scr, ixV_str, oAdd_v, addV_int, addV_str, addV_tup, addV_lst, oMul_v, mulV_int, mulV_lst, oLen_v, lenV_str, lenV_lst, lenV_tup, lenV_scr, oSl_v, slV_str, slV_tup, slV_lst, oIn_v, inV_lst, inV_tup, inV_sign, diSeq_v, seqV_lst, seqV_tup, seqV_str, fixW_d, fixW_c, fixV_frz, fixV_lst, fixV_dct, fixAll_nil, fixAll_cons, gcS, gcK, fixEnv_nil, fixEnv_none, fixEnv_d, fixEnv_c, fixEnv_tp, fixEnv_dead, fixEnv_sl, poison_sl, fixC, poison, poisonC_lst, poisonC_dct, poisonC_frz, poisonC_obj, dropTo0, dropTo1, dropTo2, dropTo3, dropTo4, dropTo5, dropTo6, madeQ, dMake, dMeth, DL.isObj, dFld, fldW, dCon, dSetF, fixO, frzS, diDK, diDP, keepD, oIxD, oInD, oLenD, oListK, oSetD, oPopAt, oIsiT, oInS, oTupleOf, oListOf, sd_inj, refsC_pc, toLocC_pc, unLocC_pc, poisonC_pc, diEnumA, enumV_lst, enumV_tup, dFix, dRev, oClear, dLc2]
    have : ((p.zip q).map fun x => decide (x.2 ∈ aboveL R x.1)).all id = underB R p q := by simp [underB, List.all_map, Function.comp_def]
    first
      | (rw [← this] at hq; simpa using hq)
      | (simp [underB] at hq; simpa using hq)
theorem under_at {R : List Row} {p q : List Str} {k : Nat} {o : Obj} {g : Cs} {Q : DQ} {E : DX} (hk : g[k]? = some (.dct (sd (upsD R)) o)) (hp : ∀ z ∈ p, z ∈ namesR R) (hl : p.length ≤ 3) (h : Q (.d (.bl (underB R p q))) g) : sp__law_is_under [.c k, .d (tupS p), .d (tupS q)] g Q E := by
  have e : g.set k (.dct (sd (upsD R)) o) = g := by
    obtain ⟨h1, h2⟩ := List.getElem?_eq_some_iff.mp hk
    rw [← h2, List.set_getElem_self]
  have ek : List.idxOf k [k] = 0 := by simp [List.idxOf_cons]
  simp [sp__law_is_under, loc, locAt, locJ, namesOf, refsC_pc, refsC_lst, refsC_dct, refsC_frz, toLocC_pc, toLocC_lst, toLocC_dct, toLocC_frz, unLocC_pc, unLocC_lst, unLocC_dct, unLocC_frz, getCs, inJ, toLoc, unLoc, putC, hk, ek, sl__law_is_under]
  exact ⟨R, p, q, ⟨rfl, rfl⟩, rfl, hp, hl, by simpa [loc, locAt, locJ, namesOf, refsC_pc, refsC_lst, refsC_dct, refsC_frz, toLocC_pc, toLocC_lst, toLocC_dct, toLocC_frz, unLocC_pc, unLocC_lst, unLocC_dct, unLocC_frz, getCs, inJ, toLoc, unLoc, putC, e] using h⟩
end DH
namespace DH
open PySem PySem.Spec L2 DL
def addN (p : List Str) : W → D
  | .d (.tup (n :: _)) => .tup (p.map .str ++ [n])
  | _ => .non
theorem add_eq {R : List Row} {p : List Str} : R.map (addN p ∘ W.d ∘ rowD) = ((namesR R).map fun n => p ++ [n]).map tupS := by
  simp [addN, rowD, namesR, tupS, Function.comp_def]
theorem p__law_all_points : ∀ ws cs Q E, sl__law_all_points ws cs Q E → t__law_all_points (endsD cs.length Q E) (startE N__law_all_points ws) cs := by
  rintro ws cs Q E ⟨R, m, rfl, rfl, h0, h1, hl, hq⟩
  have sz := sz6
  have hnl : (namesR R).length = R.length := by simp [namesR]
  simp [dSeq, dIfS, dAsg, dIf, dTest, dOp2, dOp1, dOpN, dVar, dC, dCons, dNil, dgName, dRet, dRetN, dDrop, dNext, dLst, dTup, startE, endsD, oI, oInt1, oInt2, oNeg, oIs, oDivmod, dAnd, dOr, dNot, dAndV, dOrV, dNotV, dgSub, dgTup, dgCons, dgNil, oSetL, dPar, dPar3, dFor, diRange1, diRange2, dLc, dCall, dBM, isT, dSl, dP, dNoP, oEq, dChain, oRepr, oIsi, oBools, retD_d, isTy, dDict0, dDict, dPairs, isFl, isFls, isPy, isPys, isPyKV, look_d, look_c, lookC_lst, lookC_dct, lookC_frz, itM_some, oIx_v, ixV_lst, ixV_tup, ixV_scr, ixV_str, oAdd_v, addV_int, addV_str, addV_tup, addV_lst, oMul_v, mulV_int, mulV_lst, oLen_v, lenV_str, lenV_lst, lenV_tup, lenV_scr, oSl_v, slV_str, slV_tup, slV_lst, oIn_v, inV_lst, inV_tup, inV_sign, diSeq_v, seqV_lst, seqV_tup, seqV_str, fixW_d, fixW_c, fixV_frz, fixV_lst, fixV_dct, fixAll_nil, fixAll_cons, gcS, gcK, fixEnv_nil, fixEnv_none, fixEnv_d, fixEnv_c, fixEnv_tp, fixEnv_dead, fixEnv_sl, poison_sl, fixC, poison, poisonC_lst, poisonC_dct, poisonC_frz, poisonC_obj, dropTo0, dropTo1, dropTo2, dropTo3, dropTo4, dropTo5, dropTo6, madeQ, dMake, dMeth, DL.isObj, dFld, fldW, dCon, dSetF, fixO, frzS, diDK, diDP, keepD, oIxD, oInD, oLenD, oListK, oSetD, oPopAt, oIsiT, oInS, oTupleOf, oListOf, sd_inj, refsC_pc, toLocC_pc, unLocC_pc, poisonC_pc, diEnumA, enumV_lst, enumV_tup, dFix, dRev, oClear, dLc2, t__law_all_points]
  refine ⟨by omega, by omega, by omega, ?_⟩
  refine forD_inv (fun i env c => ∃ fs a b d, env = [some (.c 0), some (.d (.int m)), some fs, slt a, slt b, slt d, none] ∧ c = [.lst (R.map rowD), .lst [.tup []]] ∧ ((i = 0 ∧ fs = .c 1) ∨ (1 ≤ i ∧ fs = .d (.lst ((prodL (List.replicate i (namesR R))).map tupS))))) (fun _ _ _ _ => True.intro) _ 0 _ _ ⟨_, none, none, none, rfl, rfl, .inl ⟨rfl, rfl⟩⟩ (fun j x hx env c hJ D' h1 h2 h3 h4 h5 => ?_) fun env c hJ => ?_
  · obtain ⟨fs, a, b, d, rfl, rfl, hfs⟩ := hJ
    obtain ⟨hj, rfl⟩ := rng_at hx
    clear h1 h2 h3 h5 hx
    rw [show 0 + j = j by omega] at hfs
    -- what is found so far
    generalize hP : prodL (List.replicate j (namesR R)) = P at hfs
    have hP1 : prodL (List.replicate (j + 1) (namesR R)) = P.flatMap fun p => (namesR R).map fun n => p ++ [n] := by
      rw [List.replicate_succ', prodL_snoc, hP]
    have hPl : P.length ≤ 8000 := by
      have := prodL_small (L := List.replicate j (namesR R)) (fun l hl => by obtain ⟨-, rfl⟩ := List.mem_replicate.mp hl; omega) (by simp; omega) j
      rw [List.take_of_length_le (by simp), hP] at this
      exact this
    have hPp : ∀ p ∈ P, p.length ≤ 3 := fun p hp => by
      rw [← hP] at hp
      have := prodL_len hp
      simp at this; omega
    have hsh : (fs = .c 1 ∧ P = [[]]) ∨ fs = .d (.lst (P.map tupS)) := by
      rcases hfs with ⟨rfl, rfl⟩ | ⟨_, rfl⟩
      · exact .inl ⟨rfl, hP.symm⟩
      · exact .inr rfl
    rcases hsh with ⟨rfl, rfl⟩ | rfl
    · simp [dSeq, dIfS, dAsg, dIf, dTest, dOp2, dOp1, dOpN, dVar, dC, dCons, dNil, dgName, dRet, dRetN, dDrop, dNext, dLst, dTup, startE, endsD, oI, oInt1, oInt2, oNeg, oIs, oDivmod, dAnd, dOr, dNot, dAndV, dOrV, dNotV, dgSub, dgTup, dgCons, dgNil, oSetL, dPar, dPar3, dFor, diRange1, diRange2, dLc, dCall, dBM, isT, dSl, dP, dNoP, oEq, dChain, oRepr, oIsi, oBools, retD_d, isTy, dDict0, dDict, dPairs, isFl, isFls, isPy, isPys, isPyKV, look_d, look_c, lookC_lst, lookC_dct, lookC_frz, itM_some, oIx_v, ixV_lst, ixV_tup, ixV_scr, ixV_str, oAdd_v, addV_int, addV_str, addV_tup, addV_lst, oMul_v, mulV_int, mulV_lst, oLen_v, lenV_str, lenV_lst, lenV_tup, lenV_scr, oSl_v, slV_str, slV_tup, slV_lst, oIn_v, inV_lst, inV_tup, inV_sign, diSeq_v, seqV_lst, seqV_tup, seqV_str, fixW_d, fixW_c, fixV_frz, fixV_lst, fixV_dct, fixAll_nil, fixAll_cons, gcS, gcK, fixEnv_nil, fixEnv_none, fixEnv_d, fixEnv_c, fixEnv_tp, fixEnv_dead, fixEnv_sl, poison_sl, fixC, poison, poisonC_lst, poisonC_dct, poisonC_frz, poisonC_obj, dropTo0, dropTo1, dropTo2, dropTo3, dropTo4, dropTo5, dropTo6, madeQ, dMake, dMeth, DL.isObj, dFld, fldW, dCon, dSetF, fixO, frzS, diDK, diDP, keepD, oIxD, oInD, oLenD, oListK, oSetD, oPopAt, oIsiT, oInS, oTupleOf, oListOf, sd_inj, refsC_pc, toLocC_pc, unLocC_pc, poisonC_pc, diEnumA, enumV_lst, enumV_tup, dFix, dRev, oClear, dLc2]
      have hit : [W.d (D.tup [])] = ([[]] : List (List Str)).map (W.d ∘ tupS) := rfl
      rw [hit]
      refine forD_inv (fun i2 env c => ∃ e : Option D, env = [some (.c 0), some (.d (.int m)), some (.c 1), some (.d (.int j)), some (.c 2), slt e, none] ∧ c = [.lst (R.map rowD), .lst [.tup []], .lst (((([[]] : List (List Str)).take i2).flatMap fun p => (namesR R).map fun n => p ++ [n]).map tupS)]) (fun _ _ _ hJ2 => ?_) _ 0 _ _ ⟨d, rfl, by simp⟩ (fun i2 x hx env c hJ2 D2 g1 g2 g3 g4 g5 => ?_) fun env c hJ2 => ?_
      · obtain ⟨e, rfl, rfl⟩ := hJ2
        first | rfl | exact True.intro
      · obtain ⟨e, rfl, rfl⟩ := hJ2
        have hx : ∃ p, ([[]] : List (List Str))[i2]? = some p ∧ x = .d (tupS p) := by
          rw [List.getElem?_map] at hx
          cases e : ([[]] : List (List Str))[i2]? with
          | none => rw [e] at hx; cases hx
          | some p => rw [e] at hx; cases hx; exact ⟨p, rfl, rfl⟩
        obtain ⟨p, hp, rfl⟩ := hx
        clear g1 g2 g3 g5
        rw [show 0 + i2 = i2 by omega]
        simp [dSeq, dIfS, dAsg, dIf, dTest, dOp2, dOp1, dOpN, dVar, dC, dCons, dNil, dgName, dRet, dRetN, dDrop, dNext, dLst, dTup, startE, endsD, oI, oInt1, oInt2, oNeg, oIs, oDivmod, dAnd, dOr, dNot, dAndV, dOrV, dNotV, dgSub, dgTup, dgCons, dgNil, oSetL, dPar, dPar3, dFor, diRange1, diRange2, dLc, dCall, dBM, isT, dSl, dP, dNoP, oEq, dChain, oRepr, oIsi, oBools, retD_d, isTy, dDict0, dDict, dPairs, isFl, isFls, isPy, isPys, isPyKV, look_d, look_c, lookC_lst, lookC_dct, lookC_frz, itM_some, oIx_v, ixV_lst, ixV_tup, ixV_scr, ixV_str, oAdd_v, addV_int, addV_str, addV_tup, addV_lst, oMul_v, mulV_int, mulV_lst, oLen_v, lenV_str, lenV_lst, lenV_tup, lenV_scr, oSl_v, slV_str, slV_tup, slV_lst, oIn_v, inV_lst, inV_tup, inV_sign, diSeq_v, seqV_lst, seqV_tup, seqV_str, fixW_d, fixW_c, fixV_frz, fixV_lst, fixV_dct, fixAll_nil, fixAll_cons, gcS, gcK, fixEnv_nil, fixEnv_none, fixEnv_d, fixEnv_c, fixEnv_tp, fixEnv_dead, fixEnv_sl, poison_sl, fixC, poison, poisonC_lst, poisonC_dct, poisonC_frz, poisonC_obj, dropTo0, dropTo1, dropTo2, dropTo3, dropTo4, dropTo5, dropTo6, madeQ, dMake, dMeth, DL.isObj, dFld, fldW, dCon, dSetF, fixO, frzS, diDK, diDP, keepD, oIxD, oInD, oLenD, oListK, oSetD, oPopAt, oIsiT, oInS, oTupleOf, oListOf, sd_inj, refsC_pc, toLocC_pc, unLocC_pc, poisonC_pc, diEnumA, enumV_lst, enumV_tup, dFix, dRev, oClear, dLc2, tupS]
        refine lcD_pure (addN p) rfl rfl ?_ (by simp; omega) (fun w hw K hK => ?_) ?_
        · first | rfl | simp [dSeq, dIfS, dAsg, dIf, dTest, dOp2, dOp1, dOpN, dVar, dC, dCons, dNil, dgName, dRet, dRetN, dDrop, dNext, dLst, dTup, startE, endsD, oI, oInt1, oInt2, oNeg, oIs, oDivmod, dAnd, dOr, dNot, dAndV, dOrV, dNotV, dgSub, dgTup, dgCons, dgNil, oSetL, dPar, dPar3, dFor, diRange1, diRange2, dLc, dCall, dBM, isT, dSl, dP, dNoP, oEq, dChain, oRepr, oIsi, oBools, retD_d, isTy, dDict0, dDict, dPairs, isFl, isFls, isPy, isPys, isPyKV, look_d, look_c, lookC_lst, lookC_dct, lookC_frz, itM_some, oIx_v, ixV_lst, ixV_tup, ixV_scr, ixV_str, oAdd_v, addV_int, addV_str, addV_tup, addV_lst, oMul_v, mulV_int, mulV_lst, oLen_v, lenV_str, lenV_lst, lenV_tup, lenV_scr, oSl_v, slV_str, slV_tup, slV_lst, oIn_v, inV_lst, inV_tup, inV_sign, diSeq_v, seqV_lst, seqV_tup, seqV_str, fixW_d, fixW_c, fixV_frz, fixV_lst, fixV_dct, fixAll_nil, fixAll_cons, gcS, gcK, fixEnv_nil, fixEnv_none, fixEnv_d, fixEnv_c, fixEnv_tp, fixEnv_dead, fixEnv_sl, poison_sl, fixC, poison, poisonC_lst, poisonC_dct, poisonC_frz, poisonC_obj, dropTo0, dropTo1, dropTo2, dropTo3, dropTo4, dropTo5, dropTo6, madeQ, dMake, dMeth, DL.isObj, dFld, fldW, dCon, dSetF, fixO, frzS, diDK, diDP, keepD, oIxD, oInD, oLenD, oListK, oSetD, oPopAt, oIsiT, oInS, oTupleOf, oListOf, sd_inj, refsC_pc, toLocC_pc, unLocC_pc, poisonC_pc, diEnumA, enumV_lst, enumV_tup, dFix, dRev, oClear, dLc2]
        · obtain ⟨r, hr, rfl⟩ := List.mem_map.mp hw
          have h3 := hPp p (List.mem_of_getElem? hp)
          have := hK []
          simp [addN, rowD] at this
          simp [dSeq, dIfS, dAsg, dIf, dTest, dOp2, dOp1, dOpN, dVar, dC, dCons, dNil, dgName, dRet, dRetN, dDrop, dNext, dLst, dTup, startE, endsD, oI, oInt1, oInt2, oNeg, oIs, oDivmod, dAnd, dOr, dNot, dAndV, dOrV, dNotV, dgSub, dgTup, dgCons, dgNil, oSetL, dPar, dPar3, dFor, diRange1, diRange2, dLc, dCall, dBM, isT, dSl, dP, dNoP, oEq, dChain, oRepr, oIsi, oBools, retD_d, isTy, dDict0, dDict, dPairs, isFl, isFls, isPy, isPys, isPyKV, look_d, look_c, lookC_lst, lookC_dct, lookC_frz, itM_some, oIx_v, ixV_lst, ixV_tup, ixV_scr, ixV_str, oAdd_v, addV_int, addV_str, addV_tup, addV_lst, oMul_v, mulV_int, mulV_lst, oLen_v, lenV_str, lenV_lst, lenV_tup, lenV_scr, oSl_v, slV_str, slV_tup, slV_lst, oIn_v, inV_lst, inV_tup, inV_sign, diSeq_v, seqV_lst, seqV_tup, seqV_str, fixW_d, fixW_c, fixV_frz, fixV_lst, fixV_dct, fixAll_nil, fixAll_cons, gcS, gcK, fixEnv_nil, fixEnv_none, fixEnv_d, fixEnv_c, fixEnv_tp, fixEnv_dead, fixEnv_sl, poison_sl, fixC, poison, poisonC_lst, poisonC_dct, poisonC_frz, poisonC_obj, dropTo0, dropTo1, dropTo2, dropTo3, dropTo4, dropTo5, dropTo6, madeQ, dMake, dMeth, DL.isObj, dFld, fldW, dCon, dSetF, fixO, frzS, diDK, diDP, keepD, oIxD, oInD, oLenD, oListK, oSetD, oPopAt, oIsiT, oInS, oTupleOf, oListOf, sd_inj, refsC_pc, toLocC_pc, unLocC_pc, poisonC_pc, diEnumA, enumV_lst, enumV_tup, dFix, dRev, oClear, dLc2, wipeE, rowD]
          exact ⟨by omega, by omega, by simpa using this⟩
        · have hfl := flat_length (namesR R) (([[]] : List (List Str)).take i2)
          have hml : (([[]] : List (List Str)).take i2).length * (namesR R).length ≤ 8000 * 20 := Nat.mul_le_mul (by rw [List.length_take]; omega) (by omega)
          have hnx : (([[]] : List (List Str)).take (0 + i2 + 1)).flatMap (fun p => (namesR R).map fun n => p ++ [n]) = (([[]] : List (List Str)).take i2).flatMap (fun p => (namesR R).map fun n => p ++ [n]) ++ (namesR R).map fun n => p ++ [n] := by
            rw [show 0 + i2 + 1 = i2 + 1 by omega, List.take_add_one, hp]
            simp
          generalize (([[]] : List (List Str)).take i2).flatMap (fun p => (namesR R).map fun n => p ++ [n]) = GG at hfl hnx ⊢
          simp [dSeq, dIfS, dAsg, dIf, dTest, dOp2, dOp1, dOpN, dVar, dC, dCons, dNil, dgName, dRet, dRetN, dDrop, dNext, dLst, dTup, startE, endsD, oI, oInt1, oInt2, oNeg, oIs, oDivmod, dAnd, dOr, dNot, dAndV, dOrV, dNotV, dgSub, dgTup, dgCons, dgNil, oSetL, dPar, dPar3, dFor, diRange1, diRange2, dLc, dCall, dBM, isT, dSl, dP, dNoP, oEq, dChain, oRepr, oIsi, oBools, retD_d, isTy, dDict0, dDict, dPairs, isFl, isFls, isPy, isPys, isPyKV, look_d, look_c, lookC_lst, lookC_dct, lookC_frz, itM_some, oIx_v, ixV_lst, ixV_tup, ixV_scr, ixV_str, oAdd_v, addV_int, addV_str, addV_tup, addV_lst, oMul_v, mulV_int, mulV_lst, oLen_v, lenV_str, lenV_lst, lenV_tup, lenV_scr, oSl_v, slV_str, slV_tup, slV_lst, oIn_v, inV_lst, inV_tup, inV_sign, diSeq_v, seqV_lst, seqV_tup, seqV_str, fixW_d, fixW_c, fixV_frz, fixV_lst, fixV_dct, fixAll_nil, fixAll_cons, gcS, gcK, fixEnv_nil, fixEnv_none, fixEnv_d, fixEnv_c, fixEnv_tp, fixEnv_dead, fixEnv_sl, poison_sl, fixC, poison, poisonC_lst, poisonC_dct, poisonC_frz, poisonC_obj, dropTo0, dropTo1, dropTo2, dropTo3, dropTo4, dropTo5, dropTo6, madeQ, dMake, dMeth, DL.isObj, dFld, fldW, dCon, dSetF, fixO, frzS, diDK, diDP, keepD, oIxD, oInD, oLenD, oListK, oSetD, oPopAt, oIsiT, oInS, oTupleOf, oListOf, sd_inj, refsC_pc, toLocC_pc, unLocC_pc, poisonC_pc, diEnumA, enumV_lst, enumV_tup, dFix, dRev, oClear, dLc2, oExtend]
          refine ⟨by omega, g4 _ _ ⟨some _, rfl, ?_⟩⟩
          rw [hnx, add_eq]
          simp
      · obtain ⟨e, rfl, rfl⟩ := hJ2
        rw [List.length_map, Nat.zero_add, List.take_length, ← hP1]
        simp [dSeq, dIfS, dAsg, dIf, dTest, dOp2, dOp1, dOpN, dVar, dC, dCons, dNil, dgName, dRet, dRetN, dDrop, dNext, dLst, dTup, startE, endsD, oI, oInt1, oInt2, oNeg, oIs, oDivmod, dAnd, dOr, dNot, dAndV, dOrV, dNotV, dgSub, dgTup, dgCons, dgNil, oSetL, dPar, dPar3, dFor, diRange1, diRange2, dLc, dCall, dBM, isT, dSl, dP, dNoP, oEq, dChain, oRepr, oIsi, oBools, retD_d, isTy, dDict0, dDict, dPairs, isFl, isFls, isPy, isPys, isPyKV, look_d, look_c, lookC_lst, lookC_dct, lookC_frz, itM_some, oIx_v, ixV_lst, ixV_tup, ixV_scr, ixV_str, oAdd_v, addV_int, addV_str, addV_tup, addV_lst, oMul_v, mulV_int, mulV_lst, oLen_v, lenV_str, lenV_lst, lenV_tup, lenV_scr, oSl_v, slV_str, slV_tup, slV_lst, oIn_v, inV_lst, inV_tup, inV_sign, diSeq_v, seqV_lst, seqV_tup, seqV_str, fixW_d, fixW_c, fixV_frz, fixV_lst, fixV_dct, fixAll_nil, fixAll_cons, gcS, gcK, fixEnv_nil, fixEnv_none, fixEnv_d, fixEnv_c, fixEnv_tp, fixEnv_dead, fixEnv_sl, poison_sl, fixC, poison, poisonC_lst, poisonC_dct, poisonC_frz, poisonC_obj, dropTo0, dropTo1, dropTo2, dropTo3, dropTo4, dropTo5, dropTo6, madeQ, dMake, dMeth, DL.isObj, dFld, fldW, dCon, dSetF, fixO, frzS, diDK, diDP, keepD, oIxD, oInD, oLenD, oListK, oSetD, oPopAt, oIsiT, oInS, oTupleOf, oListOf, sd_inj, refsC_pc, toLocC_pc, unLocC_pc, poisonC_pc, diEnumA, enumV_lst, enumV_tup, dFix, dRev, oClear, dLc2]
        exact h4 _ _ ⟨_, some _, some _, e, rfl, rfl, .inr ⟨by omega, by rw [show 0 + j + 1 = j + 1 by omega]⟩⟩
    · simp [dSeq, dIfS, dAsg, dIf, dTest, dOp2, dOp1, dOpN, dVar, dC, dCons, dNil, dgName, dRet, dRetN, dDrop, dNext, dLst, dTup, startE, endsD, oI, oInt1, oInt2, oNeg, oIs, oDivmod, dAnd, dOr, dNot, dAndV, dOrV, dNotV, dgSub, dgTup, dgCons, dgNil, oSetL, dPar, dPar3, dFor, diRange1, diRange2, dLc, dCall, dBM, isT, dSl, dP, dNoP, oEq, dChain, oRepr, oIsi, oBools, retD_d, isTy, dDict0, dDict, dPairs, isFl, isFls, isPy, isPys, isPyKV, look_d, look_c, lookC_lst, lookC_dct, lookC_frz, itM_some, oIx_v, ixV_lst, ixV_tup, ixV_scr, ixV_str, oAdd_v, addV_int, addV_str, addV_tup, addV_lst, oMul_v, mulV_int, mulV_lst, oLen_v, lenV_str, lenV_lst, lenV_tup, lenV_scr, oSl_v, slV_str, slV_tup, slV_lst, oIn_v, inV_lst, inV_tup, inV_sign, diSeq_v, seqV_lst, seqV_tup, seqV_str, fixW_d, fixW_c, fixV_frz, fixV_lst, fixV_dct, fixAll_nil, fixAll_cons, gcS, gcK, fixEnv_nil, fixEnv_none, fixEnv_d, fixEnv_c, fixEnv_tp, fixEnv_dead, fixEnv_sl, poison_sl, fixC, poison, poisonC_lst, poisonC_dct, poisonC_frz, poisonC_obj, dropTo0, dropTo1, dropTo2, dropTo3, dropTo4, dropTo5, dropTo6, madeQ, dMake, dMeth, DL.isObj, dFld, fldW, dCon, dSetF, fixO, frzS, diDK, diDP, keepD, oIxD, oInD, oLenD, oListK, oSetD, oPopAt, oIsiT, oInS, oTupleOf, oListOf, sd_inj, refsC_pc, toLocC_pc, unLocC_pc, poisonC_pc, diEnumA, enumV_lst, enumV_tup, dFix, dRev, oClear, dLc2]
      refine forD_inv (fun i2 env c => ∃ e : Option D, env = [some (.c 0), some (.d (.int m)), some (.d (.lst (P.map tupS))), some (.d (.int j)), some (.c 2), slt e, none] ∧ c = [.lst (R.map rowD), .lst [.tup []], .lst (((P.take i2).flatMap fun p => (namesR R).map fun n => p ++ [n]).map tupS)]) (fun _ _ _ hJ2 => ?_) _ 0 _ _ ⟨d, rfl, by simp⟩ (fun i2 x hx env c hJ2 D2 g1 g2 g3 g4 g5 => ?_) fun env c hJ2 => ?_
      · obtain ⟨e, rfl, rfl⟩ := hJ2
        first | rfl | exact True.intro
      · obtain ⟨e, rfl, rfl⟩ := hJ2
        have hx : ∃ p, P[i2]? = some p ∧ x = .d (tupS p) := by
          rw [List.getElem?_map] at hx
          cases e : P[i2]? with
          | none => rw [e] at hx; cases hx
          | some p => rw [e] at hx; cases hx; exact ⟨p, rfl, rfl⟩
        obtain ⟨p, hp, rfl⟩ := hx
        clear g1 g2 g3 g5
        rw [show 0 + i2 = i2 by omega]
        simp [dSeq, dIfS, dAsg, dIf, dTest, dOp2, dOp1, dOpN, dVar, dC, dCons, dNil, dgName, dRet, dRetN, dDrop, dNext, dLst, dTup, startE, endsD, oI, oInt1, oInt2, oNeg, oIs, oDivmod, dAnd, dOr, dNot, dAndV, dOrV, dNotV, dgSub, dgTup, dgCons, dgNil, oSetL, dPar, dPar3, dFor, diRange1, diRange2, dLc, dCall, dBM, isT, dSl, dP, dNoP, oEq, dChain, oRepr, oIsi, oBools, retD_d, isTy, dDict0, dDict, dPairs, isFl, isFls, isPy, isPys, isPyKV, look_d, look_c, lookC_lst, lookC_dct, lookC_frz, itM_some, oIx_v, ixV_lst, ixV_tup, ixV_scr, ixV_str, oAdd_v, addV_int, addV_str, addV_tup, addV_lst, oMul_v, mulV_int, mulV_lst, oLen_v, lenV_str, lenV_lst, lenV_tup, lenV_scr, oSl_v, slV_str, slV_tup, slV_lst, oIn_v, inV_lst, inV_tup, inV_sign, diSeq_v, seqV_lst, seqV_tup, seqV_str, fixW_d, fixW_c, fixV_frz, fixV_lst, fixV_dct, fixAll_nil, fixAll_cons, gcS, gcK, fixEnv_nil, fixEnv_none, fixEnv_d, fixEnv_c, fixEnv_tp, fixEnv_dead, fixEnv_sl, poison_sl, fixC, poison, poisonC_lst, poisonC_dct, poisonC_frz, poisonC_obj, dropTo0, dropTo1, dropTo2, dropTo3, dropTo4, dropTo5, dropTo6, madeQ, dMake, dMeth, DL.isObj, dFld, fldW, dCon, dSetF, fixO, frzS, diDK, diDP, keepD, oIxD, oInD, oLenD, oListK, oSetD, oPopAt, oIsiT, oInS, oTupleOf, oListOf, sd_inj, refsC_pc, toLocC_pc, unLocC_pc, poisonC_pc, diEnumA, enumV_lst, enumV_tup, dFix, dRev, oClear, dLc2, tupS]
        refine lcD_pure (addN p) rfl rfl ?_ (by simp; omega) (fun w hw K hK => ?_) ?_
        · first | rfl | simp [dSeq, dIfS, dAsg, dIf, dTest, dOp2, dOp1, dOpN, dVar, dC, dCons, dNil, dgName, dRet, dRetN, dDrop, dNext, dLst, dTup, startE, endsD, oI, oInt1, oInt2, oNeg, oIs, oDivmod, dAnd, dOr, dNot, dAndV, dOrV, dNotV, dgSub, dgTup, dgCons, dgNil, oSetL, dPar, dPar3, dFor, diRange1, diRange2, dLc, dCall, dBM, isT, dSl, dP, dNoP, oEq, dChain, oRepr, oIsi, oBools, retD_d, isTy, dDict0, dDict, dPairs, isFl, isFls, isPy, isPys, isPyKV, look_d, look_c, lookC_lst, lookC_dct, lookC_frz, itM_some, oIx_v, ixV_lst, ixV_tup, ixV_scr, ixV_str, oAdd_v, addV_int, addV_str, addV_tup, addV_lst, oMul_v, mulV_int, mulV_lst, oLen_v, lenV_str, lenV_lst, lenV_tup, lenV_scr, oSl_v, slV_str, slV_tup, slV_lst, oIn_v, inV_lst, inV_tup, inV_sign, diSeq_v, seqV_lst, seqV_tup, seqV_str, fixW_d, fixW_c, fixV_frz, fixV_lst, fixV_dct, fixAll_nil, fixAll_cons, gcS, gcK, fixEnv_nil, fixEnv_none, fixEnv_d, fixEnv_c, fixEnv_tp, fixEnv_dead, fixEnv_sl, poison_sl, fixC, poison, poisonC_lst, poisonC_dct, poisonC_frz, poisonC_obj, dropTo0, dropTo1, dropTo2, dropTo3, dropTo4, dropTo5, dropTo6, madeQ, dMake, dMeth, DL.isObj, dFld, fldW, dCon, dSetF, fixO, frzS, diDK, diDP, keepD, oIxD, oInD, oLenD, oListK, oSetD, oPopAt, oIsiT, oInS, oTupleOf, oListOf, sd_inj, refsC_pc, toLocC_pc, unLocC_pc, poisonC_pc, diEnumA, enumV_lst, enumV_tup, dFix, dRev, oClear, dLc2]
        · obtain ⟨r, hr, rfl⟩ := List.mem_map.mp hw
          have h3 := hPp p (List.mem_of_getElem? hp)
          have := hK []
          simp [addN, rowD] at this
          simp [dSeq, dIfS, dAsg, dIf, dTest, dOp2, dOp1, dOpN, dVar, dC, dCons, dNil, dgName, dRet, dRetN, dDrop, dNext, dLst, dTup, startE, endsD, oI, oInt1, oInt2, oNeg, oIs, oDivmod, dAnd, dOr, dNot, dAndV, dOrV, dNotV, dgSub, dgTup, dgCons, dgNil, oSetL, dPar, dPar3, dFor, diRange1, diRange2, dLc, dCall, dBM, isT, dSl, dP, dNoP, oEq, dChain, oRepr, oIsi, oBools, retD_d, isTy, dDict0, dDict, dPairs, isFl, isFls, isPy, isPys, isPyKV, look_d, look_c, lookC_lst, lookC_dct, lookC_frz, itM_some, oIx_v, ixV_lst, ixV_tup, ixV_scr, ixV_str, oAdd_v, addV_int, addV_str, addV_tup, addV_lst, oMul_v, mulV_int, mulV_lst, oLen_v, lenV_str, lenV_lst, lenV_tup, lenV_scr, oSl_v, slV_str, slV_tup, slV_lst, oIn_v, inV_lst, inV_tup, inV_sign, diSeq_v, seqV_lst, seqV_tup, seqV_str, fixW_d, fixW_c, fixV_frz, fixV_lst, fixV_dct, fixAll_nil, fixAll_cons, gcS, gcK, fixEnv_nil, fixEnv_none, fixEnv_d, fixEnv_c, fixEnv_tp, fixEnv_dead, fixEnv_sl, poison_sl, fixC, poison, poisonC_lst, poisonC_dct, poisonC_frz, poisonC_obj, dropTo0, dropTo1, dropTo2, dropTo3, dropTo4, dropTo5, dropTo6, madeQ, dMake, dMeth, DL.isObj, dFld, fldW, dCon, dSetF, fixO, frzS, diDK, diDP, keepD, oIxD, oInD, oLenD, oListK, oSetD, oPopAt, oIsiT, oInS, oTupleOf, oListOf, sd_inj, refsC_pc, toLocC_pc, unLocC_pc, poisonC_pc, diEnumA, enumV_lst, enumV_tup, dFix, dRev, oClear, dLc2, wipeE, rowD]
          exact ⟨by omega, by omega, by simpa using this⟩
        · have hfl := flat_length (namesR R) (P.take i2)
          have hml : (P.take i2).length * (namesR R).length ≤ 8000 * 20 := Nat.mul_le_mul (by rw [List.length_take]; omega) (by omega)
          have hnx : (P.take (0 + i2 + 1)).flatMap (fun p => (namesR R).map fun n => p ++ [n]) = (P.take i2).flatMap (fun p => (namesR R).map fun n => p ++ [n]) ++ (namesR R).map fun n => p ++ [n] := by
            rw [show 0 + i2 + 1 = i2 + 1 by omega, List.take_add_one, hp]
            simp
          generalize (P.take i2).flatMap (fun p => (namesR R).map fun n => p ++ [n]) = GG at hfl hnx ⊢
          simp [dSeq, dIfS, dAsg, dIf, dTest, dOp2, dOp1, dOpN, dVar, dC, dCons, dNil, dgName, dRet, dRetN, dDrop, dNext, dLst, dTup, startE, endsD, oI, oInt1, oInt2, oNeg, oIs, oDivmod, dAnd, dOr, dNot, dAndV, dOrV, dNotV, dgSub, dgTup, dgCons, dgNil, oSetL, dPar, dPar3, dFor, diRange1, diRange2, dLc, dCall, dBM, isT, dSl, dP, dNoP, oEq, dChain, oRepr, oIsi, oBools, retD_d, isTy, dDict0, dDict, dPairs, isFl, isFls, isPy, isPys, isPyKV, look_d, look_c, lookC_lst, lookC_dct, lookC_frz, itM_some, oIx_v, ixV_lst, ixV_tup, ixV_scr, ixV_str, oAdd_v, addV_int, addV_str, addV_tup, addV_lst, oMul_v, mulV_int, mulV_lst, oLen_v, lenV_str, lenV_lst, lenV_tup, lenV_scr, oSl_v, slV_str, slV_tup, slV_lst, oIn_v, inV_lst, inV_tup, inV_sign, diSeq_v, seqV_lst, seqV_tup, seqV_str, fixW_d, fixW_c, fixV_frz, fixV_lst, fixV_dct, fixAll_nil, fixAll_cons, gcS, gcK, fixEnv_nil, fixEnv_none, fixEnv_d, fixEnv_c, fixEnv_tp, fixEnv_dead, fixEnv_sl, poison_sl, fixC, poison, poisonC_lst, poisonC_dct, poisonC_frz, poisonC_obj, dropTo0, dropTo1, dropTo2, dropTo3, dropTo4, dropTo5, dropTo6, madeQ, dMake, dMeth, DL.isObj, dFld, fldW, dCon, dSetF, fixO, frzS, diDK, diDP, keepD, oIxD, oInD, oLenD, oListK, oSetD, oPopAt, oIsiT, oInS, oTupleOf, oListOf, sd_inj, refsC_pc, toLocC_pc, unLocC_pc, poisonC_pc, diEnumA, enumV_lst, enumV_tup, dFix, dRev, oClear, dLc2, oExtend]
          refine ⟨by omega, g4 _ _ ⟨some _, rfl, ?_⟩⟩
          rw [hnx, add_eq]
          simp
      · obtain ⟨e, rfl, rfl⟩ := hJ2
        rw [List.length_map, Nat.zero_add, List.take_length, ← hP1]
        simp [dSeq, dIfS, dAsg, dIf, dTest, dOp2, dOp1, dOpN, dVar, dC, dCons, dNil, dgName, dRet, dRetN, dDrop, dNext, dLst, dTup, startE, endsD, oI, oInt1, oInt2, oNeg, oIs, oDivmod, dAnd, dOr, dNot, dAndV, dOrV, dNotV, dgSub, dgTup, dgCons, dgNil, oSetL, dPar, dPar3, dFor, diRange1, diRange2, dLc, dCall, dBM, isT, dSl, dP, dNoP, oEq, dChain, oRepr, oIsi, oBools, retD_d, isTy, dDict0, dDict, dPairs, isFl, isFls, isPy, isPys, isPyKV, look_d, look_c, lookC_lst, lookC_dct, lookC_frz, itM_some, oIx_v, ixV_lst, ixV_tup, ixV_scr, ixV_str, oAdd_v, addV_int, addV_str, addV_tup, addV_lst, oMul_v, mulV_int, mulV_lst, oLen_v, lenV_str, lenV_lst, lenV_tup, lenV_scr, oSl_v, slV_str, slV_tup, slV_lst, oIn_v, inV_lst, inV_tup, inV_sign, diSeq_v, seqV_lst, seqV_tup, seqV_str, fixW_d, fixW_c, fixV_frz, fixV_lst, fixV_dct, fixAll_nil, fixAll_cons, gcS, gcK, fixEnv_nil, fixEnv_none, fixEnv_d, fixEnv_c, fixEnv_tp, fixEnv_dead, fixEnv_sl, poison_sl, fixC, poison, poisonC_lst, poisonC_dct, poisonC_frz, poisonC_obj, dropTo0, dropTo1, dropTo2, dropTo3, dropTo4, dropTo5, dropTo6, madeQ, dMake, dMeth, DL.isObj, dFld, fldW, dCon, dSetF, fixO, frzS, diDK, diDP, keepD, oIxD, oInD, oLenD, oListK, oSetD, oPopAt, oIsiT, oInS, oTupleOf, oListOf, sd_inj, refsC_pc, toLocC_pc, unLocC_pc, poisonC_pc, diEnumA, enumV_lst, enumV_tup, dFix, dRev, oClear, dLc2]
        exact h4 _ _ ⟨_, some _, some _, e, rfl, rfl, .inr ⟨by omega, by rw [show 0 + j + 1 = j + 1 by omega]⟩⟩
  · obtain ⟨fs, a, b, d, rfl, rfl, hfs⟩ := hJ
    rcases hfs with ⟨h, -⟩ | ⟨_, rfl⟩
    · simp at h; omega
    · simp [dSeq, dIfS, dAsg, dIf, dTest, dOp2, dOp1, dOpN, dVar, dC, dCons, dNil, dgName, dRet, dRetN, dDrop, dNext, dLst, dTup, startE, endsD, oI, oInt1, oInt2, oNeg, oIs, oDivmod, dAnd, dOr, dNot, dAndV, dOrV, dNotV, dgSub, dgTup, dgCons, dgNil, oSetL, dPar, dPar3, dFor, diRange1, diRange2, dLc, dCall, dBM, isT, dSl, dP, dNoP, oEq, dChain, oRepr, oIsi, oBools, retD_d, isTy, dDict0, dDict, dPairs, isFl, isFls, isPy, isPys, isPyKV, look_d, look_c, lookC_lst, lookC_dct, lookC_frz, itM_some, oIx_v, ixV_lst, ixV_tup, ixV_scr, ixV_str, oAdd_v, addV_int, addV_str, addV_tup, addV_lst, oMul_v, mulV_int, mulV_lst, oLen_v, lenV_str, lenV_lst, lenV_tup, lenV_scr, oSl_v, slV_str, slV_tup, slV_lst, oIn_v, inV_lst, inV_tup, inV_sign, diSeq_v, seqV_lst, seqV_tup, seqV_str, fixW_d, fixW_c, fixV_frz, fixV_lst, fixV_dct, fixAll_nil, fixAll_cons, gcS, gcK, fixEnv_nil, fixEnv_none, fixEnv_d, fixEnv_c, fixEnv_tp, fixEnv_dead, fixEnv_sl, poison_sl, fixC, poison, poisonC_lst, poisonC_dct, poisonC_frz, poisonC_obj, dropTo0, dropTo1, dropTo2, dropTo3, dropTo4, dropTo5, dropTo6, madeQ, dMake, dMeth, DL.isObj, dFld, fldW, dCon, dSetF, fixO, frzS, diDK, diDP, keepD, oIxD, oInD, oLenD, oListK, oSetD, oPopAt, oIsiT, oInS, oTupleOf, oListOf, sd_inj, refsC_pc, toLocC_pc, unLocC_pc, poisonC_pc, diEnumA, enumV_lst, enumV_tup, dFix, dRev, oClear, dLc2, retD]
      simpa using hq
end DH
namespace DH
open PySem PySem.Spec L2 DL
/-- y is x, or above it -/
inductive Up (R : List Row) : Str → Str → Prop
  | refl (x : Str) : Up R x x
  | step {x y t : Str} {s : List Str} : (x, s) ∈ R → t ∈ s → Up R t y → Up R x y
theorem Up.tail {R : List Row} {x y t : Str} {s : List Str} (h : Up R x y) (hs : (y, s) ∈ R) (ht : t ∈ s) : Up R x t := by
  induction h with
  | refl x => exact .step hs ht (.refl _)
  | step a b c ih => exact .step a b (ih hs)
theorem row_unique {R : List Row} (nd : (namesR R).Nodup) {x : Str} {s t : List Str} (h1 : (x, s) ∈ R) (h2 : (x, t) ∈ R) : s = t := by
  rw [← look_pair nd h1, look_pair nd h2]
theorem getA_app {A X : List Row} {s : Str} (h : s ∈ namesR A) : getA (A ++ X) s = getA A s := by
  induction A with
  | nil => cases h
  | cons a t ih =>
    obtain ⟨n, l⟩ := a
    simp only [getA, List.cons_append, List.lookup_cons]
    by_cases e : s = n
    · subst e; simp
    · have : (s == n) = false := by simp [e]
      rw [this]
      simp only [namesR, List.map_cons, List.mem_cons] at h
      exact ih (h.resolve_left e)
theorem getA_snoc {A X : List Row} {s : Str} {l : List Str} (h : ¬ s ∈ namesR A) : getA (A ++ (s, l) :: X) s = l := by
  induction A with
  | nil => simp [getA]
  | cons a t ih =>
    obtain ⟨n, m⟩ := a
    simp only [namesR, List.map_cons, List.mem_cons, not_or] at h
    simp only [getA, List.cons_append, List.lookup_cons]
    have : (s == n) = false := by simp [h.1]
    rw [this]
    exact ih h.2
theorem ancF_pre (ns : List Str) : ∀ (B X : List Row), ∃ Y, ancF ns B X = X ++ Y
  | [], X => ⟨[], by simp [ancF]⟩
  | r :: B, X => by
    obtain ⟨Y, e⟩ := ancF_pre ns B (X ++ [(r.1, ancN ns X r)])
    exact ⟨(r.1, ancN ns X r) :: Y, by simp [ancF, e]⟩
theorem ancF_two (ns : List Str) : ∀ (A B X : List Row), ancF ns (A ++ B) X = ancF ns B (ancF ns A X)
  | [], B, X => rfl
  | a :: A, B, X => by
    simp only [List.cons_append, ancF]
    exact ancF_two ns A B _
/-- what stands for a row -/
theorem anc_row {R A B : List Row} {r : Row} (hR : RowsOk R) (e : R = A ++ r :: B) : getA (ancR R) r.1 = (namesR R).filter fun k => decide (k ∈ r.1 :: r.2.flatMap (getA (ancR R))) := by
  have hA := ancF_names (namesR R) A []
  have hA : namesR (ancF (namesR R) A []) = namesR A := by simpa [namesR] using hA
  have hnd := hR.nd
  rw [e] at hnd
  simp only [namesR, List.map_append, List.map_cons] at hnd
  have hnot : ¬ r.1 ∈ namesR A := fun hm => (List.nodup_append.mp hnd).2.2 _ hm r.1 (by simp) rfl
  obtain ⟨h1, h2, -⟩ := hR.sup _ _ _ e
  have e1 : ancR R = ancF (namesR R) B (ancF (namesR R) A [] ++ [(r.1, ancN (namesR R) (ancF (namesR R) A []) r)]) := by
    rw [ancR]
    conv => lhs; rw [e, ancF_two]
    rw [← e]
    rfl
  obtain ⟨Y, e2⟩ := ancF_pre (namesR R) B (ancF (namesR R) A [] ++ [(r.1, ancN (namesR R) (ancF (namesR R) A []) r)])
  rw [e2, List.append_assoc] at e1
  have e3 : getA (ancR R) r.1 = ancN (namesR R) (ancF (namesR R) A []) r := by
    rw [e1]
    exact getA_snoc (by rw [hA]; exact hnot)
  have e4 : r.2.flatMap (getA (ancR R)) = r.2.flatMap (getA (ancF (namesR R) A [])) := by
    have : ∀ t ∈ r.2, getA (ancR R) t = getA (ancF (namesR R) A []) t := fun t ht => by
      rw [e1]
      exact getA_app (by rw [hA]; exact h2 t ht)
    simp only [List.flatMap]
    rw [List.map_congr_left this]
  rw [e3, e4]
  rfl
theorem up_name {R : List Row} (hR : RowsOk R) {x y : Str} (h : Up R x y) (hx : x ∈ namesR R) : y ∈ namesR R := by
  induction h with
  | refl x => exact hx
  | step a b c ih =>
    obtain ⟨A, B, e⟩ := List.append_of_mem a
    obtain ⟨-, h2, -⟩ := hR.sup _ _ _ e
    refine ih ?_
    rw [e]
    have := h2 _ b
    simp only [namesR, List.map_append, List.mem_append]
    exact .inl this
theorem anc_iff {R : List Row} (hR : RowsOk R) : ∀ (n : Nat) (A B : List Row), A.length = n → R = A ++ B → ∀ r ∈ A, ∀ y, y ∈ getA (ancR R) r.1 ↔ Up R r.1 y := by
  intro n
  induction n using Nat.strongRecOn with
  | _ n ih =>
    intro A B hn e r hr y
    obtain ⟨A1, A2, e1⟩ := List.append_of_mem hr
    have e2 : R = A1 ++ r :: (A2 ++ B) := by rw [e, e1]; simp
    obtain ⟨-, h2, -⟩ := hR.sup _ _ _ e2
    have hlt : A1.length < n := by rw [← hn, e1]; simp
    have hrR : r ∈ R := by rw [e]; exact List.mem_append_left _ hr
    rw [anc_row hR e2, List.mem_filter]
    simp only [List.mem_cons, List.mem_flatMap, decide_eq_true_eq]
    constructor
    · rintro ⟨-, h | ⟨t, ht, hy⟩⟩
      · subst h; exact .refl _
      · obtain ⟨q, hq, rfl⟩ := List.mem_map.mp (h2 t ht)
        exact .step hrR ht ((ih _ hlt A1 _ rfl e2 q hq y).mp hy)
    · intro h
      refine ⟨up_name hR h (List.mem_map_of_mem hrR), ?_⟩
      cases h with
      | refl => exact .inl rfl
      | step a b c =>
        have : r.2 = _ := row_unique hR.nd hrR a
        subst this
        obtain ⟨q, hq, rfl⟩ := List.mem_map.mp (h2 _ b)
        exact .inr ⟨_, b, (ih _ hlt A1 _ rfl e2 q hq y).mpr c⟩
theorem ab_closed {R : List Row} (hR : RowsOk R) (lo : Str) : ∀ (B A : List Row), R = A ++ B → (∀ r ∈ B, r.1 ∈ aboveF B.reverse [lo] → ∀ t ∈ r.2, t ∈ aboveF B.reverse [lo]) ∧ (∀ y ∈ aboveF B.reverse [lo], Up R lo y) ∧ lo ∈ aboveF B.reverse [lo]
  | [], A, e => ⟨by simp, fun y hy => by simp [aboveF] at hy; subst hy; exact .refl _, by simp [aboveF]⟩
  | r :: B, A, e => by
    obtain ⟨c1, c2, c3⟩ := ab_closed hR lo B (A ++ [r]) (by rw [e]; simp)
    obtain ⟨h1, h2, -⟩ := hR.sup _ _ _ e
    have hnd := hR.nd
    rw [e] at hnd
    simp only [namesR, List.map_append, List.map_cons] at hnd
    have hap : ∀ q ∈ r :: B, ¬ q.1 ∈ namesR A := fun q hq hm => (List.nodup_append.mp hnd).2.2 _ hm q.1 (by
      rw [← List.map_cons]
      exact List.mem_map_of_mem hq) rfl
    rw [List.reverse_cons, aboveF_snoc]
    generalize aboveF B.reverse [lo] = F at c1 c2 c3 ⊢
    unfold abStep
    have hrR : r ∈ R := by rw [e]; simp
    by_cases hc : r.1 ∈ F
    · rw [if_pos hc]
      have hin : ∀ t ∈ r.2, t ∈ F ++ r.2.filter (fun x => decide (x ∉ F)) := fun t ht => by
        by_cases hf : t ∈ F
        · exact List.mem_append_left _ hf
        · exact List.mem_append_right _ (List.mem_filter.mpr ⟨ht, by simp [hf]⟩)
      refine ⟨fun q hq hm t ht => ?_, fun y hy => ?_, List.mem_append_left _ c3⟩
      · rcases List.mem_append.mp hm with hm | hm
        · rcases List.mem_cons.mp hq with rfl | hq
          · exact hin t ht
          · exact List.mem_append_left _ (c1 q hq hm t ht)
        · exact absurd (h2 _ (List.mem_filter.mp hm).1) (hap q hq)
      · rcases List.mem_append.mp hy with hy | hy
        · exact c2 y hy
        · exact (c2 r.1 hc).tail hrR (List.mem_filter.mp hy).1
    · rw [if_neg hc]
      refine ⟨fun q hq hm t ht => ?_, c2, c3⟩
      rcases List.mem_cons.mp hq with rfl | hq
      · exact absurd hm hc
      · exact c1 q hq hm t ht
theorem above_iff {R : List Row} (hR : RowsOk R) {lo y : Str} : y ∈ aboveL R lo ↔ Up R lo y := by
  obtain ⟨c1, c2, c3⟩ := ab_closed hR lo R [] rfl
  refine ⟨c2 y, fun h => ?_⟩
  have : ∀ {x y : Str}, Up R x y → x ∈ aboveL R lo → y ∈ aboveL R lo := by
    intro x y h
    induction h with
    | refl x => exact id
    | step a b c ih => exact fun hx => ih (c1 _ a hx _ b)
  exact this h c3
theorem above_anc {R : List Row} (hR : RowsOk R) {lo y : Str} (h : lo ∈ namesR R) : y ∈ aboveL R lo ↔ y ∈ getA (ancR R) lo := by
  obtain ⟨r, hr, rfl⟩ := List.mem_map.mp h
  rw [above_iff hR, anc_iff hR _ R [] rfl (by simp) r hr y]
end DH
namespace DH
open PySem PySem.Spec L2 DL
theorem prodF_mem {N : List Str} : ∀ {L F : List (List Str)}, (∀ p ∈ F, ∀ z ∈ p, z ∈ N) → (∀ l ∈ L, ∀ z ∈ l, z ∈ N) → ∀ p ∈ prodF F L, ∀ z ∈ p, z ∈ N
  | [], F, h, _, p, hp => h p hp
  | l :: L, F, h, hL, p, hp => by
    refine prodF_mem (L := L) (F := F.flatMap fun p => l.map fun n => p ++ [n]) (fun q hq => ?_) (fun m hm => hL m (List.mem_cons_of_mem _ hm)) p hp
    obtain ⟨r, hr, hq⟩ := List.mem_flatMap.mp hq
    obtain ⟨x, hx, rfl⟩ := List.mem_map.mp hq
    intro z hz
    rcases List.mem_append.mp hz with hz | hz
    · exact h r hr z hz
    · simp at hz; subst hz; exact hL l List.mem_cons_self _ hx
/-- what a point of all points is -/
theorem all_mem {R : List Row} {m : Nat} {p : List Str} (h : p ∈ prodL (List.replicate m (namesR R))) : p.length = m ∧ ∀ z ∈ p, z ∈ namesR R :=
  ⟨by simpa using prodL_len h, prodF_mem (by simp) (fun l hl => by obtain ⟨-, rfl⟩ := List.mem_replicate.mp hl; exact fun z hz => hz) p h⟩
end DH
namespace DH
open PySem PySem.Spec L2 DL
theorem p_Hierarchy_is_at_or_below : ∀ ws cs Q E, sl_Hierarchy_is_at_or_below ws cs Q E → t_Hierarchy_is_at_or_below (endsD cs.length Q E) (startE N_Hierarchy_is_at_or_below ws) cs := by
  rintro ws cs Q E ⟨R, x, y, rfl, rfl, hR, hx, hy, hq⟩
  simp [dSeq, dIfS, dAsg, dIf, dTest, dOp2, dOp1, dOpN, dVar, dC, dCons, dNil, dgName, dRet, dRetN, dDrop, dNext, dLst, dTup, startE, endsD, oI, oInt1, oInt2, oNeg, oIs, oDivmod, dAnd, dOr, dNot, dAndV, dOrV, dNotV, dgSub, dgTup, dgCons, dgNil, oSetL, dPar, dPar3, dFor, diRange1, diRange2, dLc, dCall, dBM, isT, dSl, dP, dNoP, oEq, dChain, oRepr, oIsi, oBools, retD_d, isTy, dDict0, dDict, dPairs, isFl, isFls, isPy, isPys, isPyKV, look_d, look_c, lookC_lst, lookC_dct, lookC_frz, itM_some, oIx_v, ixV_lst, ixV_tup, ixV_scr, ixV_str, oAdd_v, addV_int, addV_str, addV_tup, addV_lst, oMul_v, mulV_int, mulV_lst, oLen_v, lenV_str, lenV_lst, lenV_tup, lenV_scr, oSl_v, slV_str, slV_tup, slV_lst, oIn_v, inV_lst, inV_tup, inV_sign, diSeq_v, seqV_lst, seqV_tup, seqV_str, fixW_d, fixW_c, fixV_frz, fixV_lst, fixV_dct, fixAll_nil, fixAll_cons, gcS, gcK, fixEnv_nil, fixEnv_none, fixEnv_d, fixEnv_c, fixEnv_tp, fixEnv_dead, fixEnv_sl, poison_sl, fixC, poison, poisonC_lst, poisonC_dct, poisonC_frz, poisonC_obj, dropTo0, dropTo1, dropTo2, dropTo3, dropTo4, dropTo5, dropTo6, madeQ, dMake, dMeth, DL.isObj, dFld, fldW, dCon, dSetF, fixO, frzS, diDK, diDP, keepD, oIxD, oInD, oLenD, oListK, oSetD, oPopAt, oIsiT, oInS, oTupleOf, oListOf, sd_inj, refsC_pc, toLocC_pc, unLocC_pc, poisonC_pc, diEnumA, enumV_lst, enumV_tup, dFix, dRev, oClear, dLc2, t_Hierarchy_is_at_or_below, hier]
  refine reqc0 (word_okV (name_ok hR hx)) (by simp [hasN, hx]) ?_
  refine reqc0 (word_okV (name_ok hR hy)) (by simp [hasN, hy]) ?_
  refine ⟨_, getS_anc (A := ancR R) (by rw [ancR_names]; exact hx), ?_⟩
  rw [oIn_lst (ns := getA (ancR R) x) rfl]
  simpa [dSeq, dIfS, dAsg, dIf, dTest, dOp2, dOp1, dOpN, dVar, dC, dCons, dNil, dgName, dRet, dRetN, dDrop, dNext, dLst, dTup, startE, endsD, oI, oInt1, oInt2, oNeg, oIs, oDivmod, dAnd, dOr, dNot, dAndV, dOrV, dNotV, dgSub, dgTup, dgCons, dgNil, oSetL, dPar, dPar3, dFor, diRange1, diRange2, dLc, dCall, dBM, isT, dSl, dP, dNoP, oEq, dChain, oRepr, oIsi, oBools, retD_d, isTy, dDict0, dDict, dPairs, isFl, isFls, isPy, isPys, isPyKV, look_d, look_c, lookC_lst, lookC_dct, lookC_frz, itM_some, oIx_v, ixV_lst, ixV_tup, ixV_scr, ixV_str, oAdd_v, addV_int, addV_str, addV_tup, addV_lst, oMul_v, mulV_int, mulV_lst, oLen_v, lenV_str, lenV_lst, lenV_tup, lenV_scr, oSl_v, slV_str, slV_tup, slV_lst, oIn_v, inV_lst, inV_tup, inV_sign, diSeq_v, seqV_lst, seqV_tup, seqV_str, fixW_d, fixW_c, fixV_frz, fixV_lst, fixV_dct, fixAll_nil, fixAll_cons, gcS, gcK, fixEnv_nil, fixEnv_none, fixEnv_d, fixEnv_c, fixEnv_tp, fixEnv_dead, fixEnv_sl, poison_sl, fixC, poison, poisonC_lst, poisonC_dct, poisonC_frz, poisonC_obj, dropTo0, dropTo1, dropTo2, dropTo3, dropTo4, dropTo5, dropTo6, madeQ, dMake, dMeth, DL.isObj, dFld, fldW, dCon, dSetF, fixO, frzS, diDK, diDP, keepD, oIxD, oInD, oLenD, oListK, oSetD, oPopAt, oIsiT, oInS, oTupleOf, oListOf, sd_inj, refsC_pc, toLocC_pc, unLocC_pc, poisonC_pc, diEnumA, enumV_lst, enumV_tup, dFix, dRev, oClear, dLc2, belowB] using hq
theorem atb0 {R : List Row} {x y : Str} {g : Cs} {Q : DQ} {E : DX} (hR : RowsOk R) (hx : x ∈ namesR R) (hy : y ∈ namesR R) (h : Q (.d (.bl (belowB R x y))) g) : sp_Hierarchy_is_at_or_below [.d (hier R), .d (.str x), .d (.str y)] g Q E := by
  simp [sp_Hierarchy_is_at_or_below, loc, locAt, locJ, namesOf, refsC_pc, refsC_lst, refsC_dct, refsC_frz, toLocC_pc, toLocC_lst, toLocC_dct, toLocC_frz, unLocC_pc, unLocC_lst, unLocC_dct, unLocC_frz, getCs, inJ, toLoc, unLoc, putC, sl_Hierarchy_is_at_or_below]
  exact ⟨R, x, y, ⟨rfl, rfl, rfl⟩, hR, hx, hy, by simpa [loc, locAt, locJ, namesOf, refsC_pc, refsC_lst, refsC_dct, refsC_frz, toLocC_pc, toLocC_lst, toLocC_dct, toLocC_frz, unLocC_pc, unLocC_lst, unLocC_dct, unLocC_frz, getCs, inJ, toLoc, unLoc, putC] using h⟩
def liesD (R : List Row) : W → D
  | .tp [.str a, .str b] => .bl (belowB R a b)
  | _ => .non
theorem p_lies_at_or_below : ∀ ws cs Q E, sl_lies_at_or_below ws cs Q E → t_lies_at_or_below (endsD cs.length Q E) (startE N_lies_at_or_below ws) cs := by
  rintro ws cs Q E ⟨R, p, q, rfl, rfl, hR, hp, hq2, hl, hq⟩
  have sz := sz6
  simp [dSeq, dIfS, dAsg, dIf, dTest, dOp2, dOp1, dOpN, dVar, dC, dCons, dNil, dgName, dRet, dRetN, dDrop, dNext, dLst, dTup, startE, endsD, oI, oInt1, oInt2, oNeg, oIs, oDivmod, dAnd, dOr, dNot, dAndV, dOrV, dNotV, dgSub, dgTup, dgCons, dgNil, oSetL, dPar, dPar3, dFor, diRange1, diRange2, dLc, dCall, dBM, isT, dSl, dP, dNoP, oEq, dChain, oRepr, oIsi, oBools, retD_d, isTy, dDict0, dDict, dPairs, isFl, isFls, isPy, isPys, isPyKV, look_d, look_c, lookC_lst, lookC_dct, lookC_frz, itM_some, oIx_v, ixV_lst, ixV_tup, ixV_scr, ixV_str, oAdd_v, addV_int, addV_str, addV_tup, addV_lst, oMul_v, mulV_int, mulV_lst, oLen_v, lenV_str, lenV_lst, lenV_tup, lenV_scr, oSl_v, slV_str, slV_tup, slV_lst, oIn_v, inV_lst, inV_tup, inV_sign, diSeq_v, seqV_lst, seqV_tup, seqV_str, fixW_d, fixW_c, fixV_frz, fixV_lst, fixV_dct, fixAll_nil, fixAll_cons, gcS, gcK, fixEnv_nil, fixEnv_none, fixEnv_d, fixEnv_c, fixEnv_tp, fixEnv_dead, fixEnv_sl, poison_sl, fixC, poison, poisonC_lst, poisonC_dct, poisonC_frz, poisonC_obj, dropTo0, dropTo1, dropTo2, dropTo3, dropTo4, dropTo5, dropTo6, madeQ, dMake, dMeth, DL.isObj, dFld, fldW, dCon, dSetF, fixO, frzS, diDK, diDP, keepD, oIxD, oInD, oLenD, oListK, oSetD, oPopAt, oIsiT, oInS, oTupleOf, oListOf, sd_inj, refsC_pc, toLocC_pc, unLocC_pc, poisonC_pc, diEnumA, enumV_lst, enumV_tup, dFix, dRev, oClear, dLc2, t_lies_at_or_below, diZip, tupS]
  rw [zip_strs]
  refine lcD_pure (liesD R) rfl rfl True.intro (by simp; omega) (fun w hw K hK => ?_) ?_
  · obtain ⟨⟨x, y⟩, hxy, rfl⟩ := List.mem_map.mp hw
    have := hK []
    simp [dSeq, dIfS, dAsg, dIf, dTest, dOp2, dOp1, dOpN, dVar, dC, dCons, dNil, dgName, dRet, dRetN, dDrop, dNext, dLst, dTup, startE, endsD, oI, oInt1, oInt2, oNeg, oIs, oDivmod, dAnd, dOr, dNot, dAndV, dOrV, dNotV, dgSub, dgTup, dgCons, dgNil, oSetL, dPar, dPar3, dFor, diRange1, diRange2, dLc, dCall, dBM, isT, dSl, dP, dNoP, oEq, dChain, oRepr, oIsi, oBools, retD_d, isTy, dDict0, dDict, dPairs, isFl, isFls, isPy, isPys, isPyKV, look_d, look_c, lookC_lst, lookC_dct, lookC_frz, itM_some, oIx_v, ixV_lst, ixV_tup, ixV_scr, ixV_str, oAdd_v, addV_int, addV_str, addV_tup, addV_lst, oMul_v, mulV_int, mulV_lst, oLen_v, lenV_str, lenV_lst, lenV_tup, lenV_scr, oSl_v, slV_str, slV_tup, slV_lst, oIn_v, inV_lst, inV_tup, inV_sign, diSeq_v, seqV_lst, seqV_tup, seqV_str, fixW_d, fixW_c, fixV_frz, fixV_lst, fixV_dct, fixAll_nil, fixAll_cons, gcS, gcK, fixEnv_nil, fixEnv_none, fixEnv_d, fixEnv_c, fixEnv_tp, fixEnv_dead, fixEnv_sl, poison_sl, fixC, poison, poisonC_lst, poisonC_dct, poisonC_frz, poisonC_obj, dropTo0, dropTo1, dropTo2, dropTo3, dropTo4, dropTo5, dropTo6, madeQ, dMake, dMeth, DL.isObj, dFld, fldW, dCon, dSetF, fixO, frzS, diDK, diDP, keepD, oIxD, oInD, oLenD, oListK, oSetD, oPopAt, oIsiT, oInS, oTupleOf, oListOf, sd_inj, refsC_pc, toLocC_pc, unLocC_pc, poisonC_pc, diEnumA, enumV_lst, enumV_tup, dFix, dRev, oClear, dLc2, wipeE, hier]
    refine atb0 hR (hp x (List.of_mem_zip hxy).1) (hq2 y (List.of_mem_zip hxy).2) ?_
    simpa [liesD, dSeq, dIfS, dAsg, dIf, dTest, dOp2, dOp1, dOpN, dVar, dC, dCons, dNil, dgName, dRet, dRetN, dDrop, dNext, dLst, dTup, startE, endsD, oI, oInt1, oInt2, oNeg, oIs, oDivmod, dAnd, dOr, dNot, dAndV, dOrV, dNotV, dgSub, dgTup, dgCons, dgNil, oSetL, dPar, dPar3, dFor, diRange1, diRange2, dLc, dCall, dBM, isT, dSl, dP, dNoP, oEq, dChain, oRepr, oIsi, oBools, retD_d, isTy, dDict0, dDict, dPairs, isFl, isFls, isPy, isPys, isPyKV, look_d, look_c, lookC_lst, lookC_dct, lookC_frz, itM_some, oIx_v, ixV_lst, ixV_tup, ixV_scr, ixV_str, oAdd_v, addV_int, addV_str, addV_tup, addV_lst, oMul_v, mulV_int, mulV_lst, oLen_v, lenV_str, lenV_lst, lenV_tup, lenV_scr, oSl_v, slV_str, slV_tup, slV_lst, oIn_v, inV_lst, inV_tup, inV_sign, diSeq_v, seqV_lst, seqV_tup, seqV_str, fixW_d, fixW_c, fixV_frz, fixV_lst, fixV_dct, fixAll_nil, fixAll_cons, gcS, gcK, fixEnv_nil, fixEnv_none, fixEnv_d, fixEnv_c, fixEnv_tp, fixEnv_dead, fixEnv_sl, poison_sl, fixC, poison, poisonC_lst, poisonC_dct, poisonC_frz, poisonC_obj, dropTo0, dropTo1, dropTo2, dropTo3, dropTo4, dropTo5, dropTo6, madeQ, dMake, dMeth, DL.isObj, dFld, fldW, dCon, dSetF, fixO, frzS, diDK, diDP, keepD, oIxD, oInD, oLenD, oListK, oSetD, oPopAt, oIsiT, oInS, oTupleOf, oListOf, sd_inj, refsC_pc, toLocC_pc, unLocC_pc, poisonC_pc, diEnumA, enumV_lst, enumV_tup, dFix, dRev, oClear, dLc2] using this
  · simp [Function.comp_def, liesD, bools_map, dSeq, dIfS, dAsg, dIf, dTest, dOp2, dOp1, dOpN, dVar, dC, dCons, dNil, dgName, dRet, dRetN, dDrop, dNext, dLst, dTup, startE, endsD, oI, oInt1, oInt2, oNeg, oIs, oDivmod, dAnd, dOr, dNot, dAndV, dOrV, dNotV, dgSub, dgTup, dgCons, dgNil, oSetL, dPar, dPar3, dFor, diRange1, diRange2, dLc, dCall, dBM, isT, dSl, dP, dNoP, oEq, dChain, oRepr, oIsi, oBools, retD_d, isTy, dDict0, dDict, dPairs, isFl, isFls, isPy, isPys, isPyKV, look_d, look_c, lookC_lst, lookC_dct, lookC_frz, itM_some, oIx_v, ixV_lst, ixV_tup, ixV_scr, ixV_str, oAdd_v, addV_int, addV_str, addV_tup, addV_lst, oMul_v, mulV_int, mulV_lst, oLen_v, lenV_str, lenV_lst, lenV_tup, lenV_scr, oSl_v, slV_str, slV_tup, slV_lst, oIn_v, inV_lst, inV_tup, inV_sign, diSeq_v, seqV_lst, seqV_tup, seqV_str, fixW_d, fixW_c, fixV_frz, fixV_lst, fixV_dct, fixAll_nil, fixAll_cons, gcS, gcK, fixEnv_nil, fixEnv_none, fixEnv_d, fixEnv_c, fixEnv_tp, fixEnv_dead, fixEnv_sl, poison_sl, fixC, poison, poisonC_lst, poisonC_dct, poisonC_frz, poisonC_obj, dropTo0, dropTo1, dropTo2, dropTo3, dropTo4, dropTo5, dropTo6, madeQ, dMake, dMeth, DL.isObj, dFld, fldW, dCon, dSetF, fixO, frzS, diDK, diDP, keepD, oIxD, oInD, oLenD, oListK, oSetD, oPopAt, oIsiT, oInS, oTupleOf, oListOf, sd_inj, refsC_pc, toLocC_pc, unLocC_pc, poisonC_pc, diEnumA, enumV_lst, enumV_tup, dFix, dRev, oClear, dLc2]
    simpa [liesB] using hq
theorem lies0 {R : List Row} {p q : List Str} {g : Cs} {Q : DQ} {E : DX} (hR : RowsOk R) (hp : ∀ z ∈ p, z ∈ namesR R) (hq : ∀ z ∈ q, z ∈ namesR R) (hl : p.length ≤ 3) (h : Q (.d (.bl (liesB R p q))) g) : sp_lies_at_or_below [.d (hier R), .d (tupS p), .d (tupS q)] g Q E := by
  simp [sp_lies_at_or_below, loc, locAt, locJ, namesOf, refsC_pc, refsC_lst, refsC_dct, refsC_frz, toLocC_pc, toLocC_lst, toLocC_dct, toLocC_frz, unLocC_pc, unLocC_lst, unLocC_dct, unLocC_frz, getCs, inJ, toLoc, unLoc, putC, sl_lies_at_or_below]
  exact ⟨R, p, q, ⟨rfl, rfl, rfl⟩, hR, hp, hq, hl, by simpa [loc, locAt, locJ, namesOf, refsC_pc, refsC_lst, refsC_dct, refsC_frz, toLocC_pc, toLocC_lst, toLocC_dct, toLocC_frz, unLocC_pc, unLocC_lst, unLocC_dct, unLocC_frz, getCs, inJ, toLoc, unLoc, putC] using h⟩
end DH
namespace DH
open PySem PySem.Spec L2 DL
theorem up_idx {R : List Row} (hR : RowsOk R) {x y : Str} (h : Up R x y) : y = x ∨ (namesR R).idxOf y < (namesR R).idxOf x := by
  induction h with
  | refl x => exact .inl rfl
  | @step x y t s a b c ih =>
    refine .inr ?_
    obtain ⟨A, B, e⟩ := List.append_of_mem a
    obtain ⟨-, h2, -⟩ := hR.sup _ _ _ e
    have ht : t ∈ namesR A := h2 t b
    have hnd := hR.nd
    have en : namesR R = namesR A ++ x :: namesR B := by rw [e]; simp [namesR]
    rw [en] at hnd
    have hx : ¬ x ∈ namesR A := fun hm => (List.nodup_append.mp hnd).2.2 _ hm x (by simp) rfl
    have h3 : (namesR R).idxOf t < (namesR R).idxOf x := by
      rw [en, List.idxOf_append, List.idxOf_append, if_pos ht, if_neg hx]
      have := List.idxOf_lt_length_of_mem ht
      omega
    rcases ih with rfl | h
    · exact h3
    · omega
theorem up_anti {R : List Row} (hR : RowsOk R) {x y : Str} (h1 : Up R x y) (h2 : Up R y x) : x = y := by
  rcases up_idx hR h1 with h | h
  · exact h.symm
  · rcases up_idx hR h2 with g | g
    · exact g
    · omega
theorem below_up {R : List Row} (hR : RowsOk R) {x y : Str} (hx : x ∈ namesR R) : belowB R x y = true ↔ Up R x y := by
  obtain ⟨r, hr, rfl⟩ := List.mem_map.mp hx
  unfold belowB
  rw [decide_eq_true_eq, anc_iff hR _ R [] rfl (by simp) r hr y]
end DH
namespace DH
open PySem PySem.Spec L2 DL
theorem lies_snoc {R : List Row} {p q : List Str} {k z : Str} (h : p.length = q.length) : liesB R (p ++ [k]) (q ++ [z]) = (liesB R p q && belowB R k z) := by
  unfold liesB
  rw [List.zip_append h]
  simp
theorem names_pw {R : List Row} (hR : RowsOk R) : (namesR R).Pairwise fun k z => belowB R k z = false := by
  rw [List.pairwise_iff_getElem]
  intro i j hi hj hij
  cases hb : belowB R (namesR R)[i] (namesR R)[j] with
  | false => rfl
  | true =>
    have h1 := up_idx hR ((below_up hR (List.getElem_mem hi)).mp hb)
    have e1 : (namesR R).idxOf (namesR R)[i] = i := by simp [hR.nd]
    have e2 : (namesR R).idxOf (namesR R)[j] = j := by simp [hR.nd]
    rcases h1 with h | h
    · rw [h] at e2; omega
    · omega
theorem points_pw {R : List Row} (hR : RowsOk R) : ∀ m : Nat, (prodL (List.replicate m (namesR R))).Pairwise fun p q => liesB R p q = false
  | 0 => by simp [prodL, prodF]
  | m + 1 => by
    have ih := points_pw hR m
    have hl : ∀ p ∈ prodL (List.replicate m (namesR R)), p.length = m := fun p hp => (all_mem hp).1
    rw [List.replicate_succ', prodL_snoc]
    generalize prodL (List.replicate m (namesR R)) = P at ih hl ⊢
    rw [List.pairwise_flatMap]
    refine ⟨fun p hp => ?_, ?_⟩
    · rw [List.pairwise_map]
      exact (names_pw hR).imp fun h => by rw [lies_snoc rfl, h, Bool.and_false]
    · refine List.Pairwise.imp_of_mem (fun {a b} ha hb hab => ?_) ih
      intro x hx y hy
      obtain ⟨k, -, rfl⟩ := List.mem_map.mp hx
      obtain ⟨z, -, rfl⟩ := List.mem_map.mp hy
      rw [lies_snoc (by rw [hl a ha, hl b hb]), hab, Bool.false_and]
end DH
namespace DH
open PySem PySem.Spec L2 DL
theorem sm_bl (b : Bool) : Sm 1 5 (.bl b) := by cases b <;> exact Sm.of (by decide +kernel)
theorem eqv_strsL : ∀ p q : List Str, PyData.eqvAll (pys (p.map .str)) (pys (q.map .str)) = decide (p = q)
  | [], [] => by simp [pys, PyData.eqvAll]
  | [], _ :: _ => by simp [pys, PyData.eqvAll]
  | _ :: _, [] => by simp [pys, PyData.eqvAll]
  | a :: p, b :: q => by
    simp only [List.map_cons, pys, PyData.eqvAll, eqv_strs, eqv_strsL p q]
    by_cases h : a = b
    · subst h; simp
    · simp [h]
theorem eqv_tupS (p q : List Str) : PyData.eqv (py (tupS p)) (py (tupS q)) = decide (p = q) := by
  simp only [tupS, py, PyData.eqv, eqv_strsL]
theorem fl_strs : ∀ p : List Str, isFls (p.map .str) = true
  | [] => rfl
  | a :: p => by
    have := fl_strs p
    simp only [List.map_cons, isFls, isFl, this, Bool.and_self]
theorem fl_tupS (p : List Str) : isFl (tupS p) = true := by
  have := fl_strs p
  simpa [tupS, isFl] using this
theorem dep_strs : ∀ p : List Str, PyData.depthAll (pys (p.map .str)) ≤ 1
  | [] => by simp [pys, PyData.depthAll]
  | a :: p => by
    have := dep_strs p
    simp only [List.map_cons, pys, py, PyData.depthAll, PyData.depth]
    omega
theorem dep_tupS (p : List Str) : (py (tupS p)).depth ≤ 2 := by
  have := dep_strs p
  simp only [tupS, py, PyData.depth]
  omega
theorem PtOk.okV {R : List Row} {m : Nat} {p : List Str} (hR : RowsOk R) (h : PtOk R m p) (h3 : m ≤ 3) : DH.okV (tupS p) = true := by
  have hw : ∀ z ∈ p, DH.okV (.str z) = true := fun z hz => word_okV (name_ok hR (h.2 z hz))
  have hl := h.1
  simp [tupS, DH.okV, okVs_names hw]; omega
theorem PtOk.ptB {R : List Row} {m : Nat} {p : List Str} (h : PtOk R m p) (h1 : 1 ≤ m) (h3 : m ≤ 3) : DH.ptB R (tupS p) = true := ptB_names (by rw [h.1]; exact h1) (by rw [h.1]; exact h3) h.2
theorem isp0 {R : List Row} {x : D} {g : Cs} {Q : DQ} {E : DX} (ho : okV x = true) (h : Q (.d (.bl (ptB R x))) g) : sp_is_point [.d (hier R), .d x] g Q E := by
  simp [sp_is_point, loc, locAt, locJ, namesOf, refsC_pc, refsC_lst, refsC_dct, refsC_frz, toLocC_pc, toLocC_lst, toLocC_dct, toLocC_frz, unLocC_pc, unLocC_lst, unLocC_dct, unLocC_frz, getCs, inJ, toLoc, unLoc, putC]
  exact ⟨R, .d x, x, rfl, .inl ⟨rfl, rfl⟩, ho, by simpa [loc, locAt, locJ, namesOf, refsC_pc, refsC_lst, refsC_dct, refsC_frz, toLocC_pc, toLocC_lst, toLocC_dct, toLocC_frz, unLocC_pc, unLocC_lst, unLocC_dct, unLocC_frz, getCs, inJ, toLoc, unLoc, putC] using h⟩
theorem p_require_alike_points : ∀ ws cs Q E, sl_require_alike_points ws cs Q E → t_require_alike_points (endsD cs.length Q E) (startE N_require_alike_points ws) cs := by
  rintro ws cs Q E ⟨R, m, p, qs, rfl, rfl, hR, hp, h1, h3, hqs, hq⟩
  have sz := sz6
  simp [dSeq, dIfS, dAsg, dIf, dTest, dOp2, dOp1, dOpN, dVar, dC, dCons, dNil, dgName, dRet, dRetN, dDrop, dNext, dLst, dTup, startE, endsD, oI, oInt1, oInt2, oNeg, oIs, oDivmod, dAnd, dOr, dNot, dAndV, dOrV, dNotV, dgSub, dgTup, dgCons, dgNil, oSetL, dPar, dPar3, dFor, diRange1, diRange2, dLc, dCall, dBM, isT, dSl, dP, dNoP, oEq, dChain, oRepr, oIsi, oBools, retD_d, isTy, dDict0, dDict, dPairs, isFl, isFls, isPy, isPys, isPyKV, look_d, look_c, lookC_lst, lookC_dct, lookC_frz, itM_some, oIx_v, ixV_lst, ixV_tup, ixV_scr, ixV_str, oAdd_v, addV_int, addV_str, addV_tup, addV_lst, oMul_v, mulV_int, mulV_lst, oLen_v, lenV_str, lenV_lst, lenV_tup, lenV_scr, oSl_v, slV_str, slV_tup, slV_lst, oIn_v, inV_lst, inV_tup, inV_sign, diSeq_v, seqV_lst, seqV_tup, seqV_str, fixW_d, fixW_c, fixV_frz, fixV_lst, fixV_dct, fixAll_nil, fixAll_cons, gcS, gcK, fixEnv_nil, fixEnv_none, fixEnv_d, fixEnv_c, fixEnv_tp, fixEnv_dead, fixEnv_sl, poison_sl, fixC, poison, poisonC_lst, poisonC_dct, poisonC_frz, poisonC_obj, dropTo0, dropTo1, dropTo2, dropTo3, dropTo4, dropTo5, dropTo6, madeQ, dMake, dMeth, DL.isObj, dFld, fldW, dCon, dSetF, fixO, frzS, diDK, diDP, keepD, oIxD, oInD, oLenD, oListK, oSetD, oPopAt, oIsiT, oInS, oTupleOf, oListOf, sd_inj, refsC_pc, toLocC_pc, unLocC_pc, poisonC_pc, diEnumA, enumV_lst, enumV_tup, dFix, dRev, oClear, dLc2, t_require_alike_points]
  refine reqp0 (hp.okV hR h3) (hp.ptB h1 h3) ?_
  refine forD_inv (fun i env c => ∃ a, env = [some (.d (hier R)), some (.d (tupS p)), some (.d (.tup (qs.map tupS))), slt a] ∧ c = []) (fun _ _ _ _ => True.intro) _ 0 _ _ ⟨none, rfl, rfl⟩ (fun j x hx env c hJ D' h1' h2' h3' h4' h5' => ?_) fun env c hJ => ?_
  · obtain ⟨a, rfl, rfl⟩ := hJ
    have hx := List.mem_of_getElem? hx
    simp at hx
    obtain ⟨q, hq, rfl⟩ := hx
    have hq2 := hqs q hq
    clear h1' h2' h3' h5'
    simp [dSeq, dIfS, dAsg, dIf, dTest, dOp2, dOp1, dOpN, dVar, dC, dCons, dNil, dgName, dRet, dRetN, dDrop, dNext, dLst, dTup, startE, endsD, oI, oInt1, oInt2, oNeg, oIs, oDivmod, dAnd, dOr, dNot, dAndV, dOrV, dNotV, dgSub, dgTup, dgCons, dgNil, oSetL, dPar, dPar3, dFor, diRange1, diRange2, dLc, dCall, dBM, isT, dSl, dP, dNoP, oEq, dChain, oRepr, oIsi, oBools, retD_d, isTy, dDict0, dDict, dPairs, isFl, isFls, isPy, isPys, isPyKV, look_d, look_c, lookC_lst, lookC_dct, lookC_frz, itM_some, oIx_v, ixV_lst, ixV_tup, ixV_scr, ixV_str, oAdd_v, addV_int, addV_str, addV_tup, addV_lst, oMul_v, mulV_int, mulV_lst, oLen_v, lenV_str, lenV_lst, lenV_tup, lenV_scr, oSl_v, slV_str, slV_tup, slV_lst, oIn_v, inV_lst, inV_tup, inV_sign, diSeq_v, seqV_lst, seqV_tup, seqV_str, fixW_d, fixW_c, fixV_frz, fixV_lst, fixV_dct, fixAll_nil, fixAll_cons, gcS, gcK, fixEnv_nil, fixEnv_none, fixEnv_d, fixEnv_c, fixEnv_tp, fixEnv_dead, fixEnv_sl, poison_sl, fixC, poison, poisonC_lst, poisonC_dct, poisonC_frz, poisonC_obj, dropTo0, dropTo1, dropTo2, dropTo3, dropTo4, dropTo5, dropTo6, madeQ, dMake, dMeth, DL.isObj, dFld, fldW, dCon, dSetF, fixO, frzS, diDK, diDP, keepD, oIxD, oInD, oLenD, oListK, oSetD, oPopAt, oIsiT, oInS, oTupleOf, oListOf, sd_inj, refsC_pc, toLocC_pc, unLocC_pc, poisonC_pc, diEnumA, enumV_lst, enumV_tup, dFix, dRev, oClear, dLc2]
    refine isp0 (hq2.okV hR h3) ?_
    rw [hq2.ptB h1 h3]
    simp [dSeq, dIfS, dAsg, dIf, dTest, dOp2, dOp1, dOpN, dVar, dC, dCons, dNil, dgName, dRet, dRetN, dDrop, dNext, dLst, dTup, startE, endsD, oI, oInt1, oInt2, oNeg, oIs, oDivmod, dAnd, dOr, dNot, dAndV, dOrV, dNotV, dgSub, dgTup, dgCons, dgNil, oSetL, dPar, dPar3, dFor, diRange1, diRange2, dLc, dCall, dBM, isT, dSl, dP, dNoP, oEq, dChain, oRepr, oIsi, oBools, retD_d, isTy, dDict0, dDict, dPairs, isFl, isFls, isPy, isPys, isPyKV, look_d, look_c, lookC_lst, lookC_dct, lookC_frz, itM_some, oIx_v, ixV_lst, ixV_tup, ixV_scr, ixV_str, oAdd_v, addV_int, addV_str, addV_tup, addV_lst, oMul_v, mulV_int, mulV_lst, oLen_v, lenV_str, lenV_lst, lenV_tup, lenV_scr, oSl_v, slV_str, slV_tup, slV_lst, oIn_v, inV_lst, inV_tup, inV_sign, diSeq_v, seqV_lst, seqV_tup, seqV_str, fixW_d, fixW_c, fixV_frz, fixV_lst, fixV_dct, fixAll_nil, fixAll_cons, gcS, gcK, fixEnv_nil, fixEnv_none, fixEnv_d, fixEnv_c, fixEnv_tp, fixEnv_dead, fixEnv_sl, poison_sl, fixC, poison, poisonC_lst, poisonC_dct, poisonC_frz, poisonC_obj, dropTo0, dropTo1, dropTo2, dropTo3, dropTo4, dropTo5, dropTo6, madeQ, dMake, dMeth, DL.isObj, dFld, fldW, dCon, dSetF, fixO, frzS, diDK, diDP, keepD, oIxD, oInD, oLenD, oListK, oSetD, oPopAt, oIsiT, oInS, oTupleOf, oListOf, sd_inj, refsC_pc, toLocC_pc, unLocC_pc, poisonC_pc, diEnumA, enumV_lst, enumV_tup, dFix, dRev, oClear, dLc2, tupS, hp.1, hq2.1]
    exact h4' _ _ ⟨some _, rfl, rfl⟩
  · obtain ⟨a, rfl, rfl⟩ := hJ
    simpa [dSeq, dIfS, dAsg, dIf, dTest, dOp2, dOp1, dOpN, dVar, dC, dCons, dNil, dgName, dRet, dRetN, dDrop, dNext, dLst, dTup, startE, endsD, oI, oInt1, oInt2, oNeg, oIs, oDivmod, dAnd, dOr, dNot, dAndV, dOrV, dNotV, dgSub, dgTup, dgCons, dgNil, oSetL, dPar, dPar3, dFor, diRange1, diRange2, dLc, dCall, dBM, isT, dSl, dP, dNoP, oEq, dChain, oRepr, oIsi, oBools, retD_d, isTy, dDict0, dDict, dPairs, isFl, isFls, isPy, isPys, isPyKV, look_d, look_c, lookC_lst, lookC_dct, lookC_frz, itM_some, oIx_v, ixV_lst, ixV_tup, ixV_scr, ixV_str, oAdd_v, addV_int, addV_str, addV_tup, addV_lst, oMul_v, mulV_int, mulV_lst, oLen_v, lenV_str, lenV_lst, lenV_tup, lenV_scr, oSl_v, slV_str, slV_tup, slV_lst, oIn_v, inV_lst, inV_tup, inV_sign, diSeq_v, seqV_lst, seqV_tup, seqV_str, fixW_d, fixW_c, fixV_frz, fixV_lst, fixV_dct, fixAll_nil, fixAll_cons, gcS, gcK, fixEnv_nil, fixEnv_none, fixEnv_d, fixEnv_c, fixEnv_tp, fixEnv_dead, fixEnv_sl, poison_sl, fixC, poison, poisonC_lst, poisonC_dct, poisonC_frz, poisonC_obj, dropTo0, dropTo1, dropTo2, dropTo3, dropTo4, dropTo5, dropTo6, madeQ, dMake, dMeth, DL.isObj, dFld, fldW, dCon, dSetF, fixO, frzS, diDK, diDP, keepD, oIxD, oInD, oLenD, oListK, oSetD, oPopAt, oIsiT, oInS, oTupleOf, oListOf, sd_inj, refsC_pc, toLocC_pc, unLocC_pc, poisonC_pc, diEnumA, enumV_lst, enumV_tup, dFix, dRev, oClear, dLc2] using hq
theorem ral0 {R : List Row} {m : Nat} {p q : List Str} {g : Cs} {Q : DQ} {E : DX} (hR : RowsOk R) (hp : PtOk R m p) (hq : PtOk R m q) (h1 : 1 ≤ m) (h3 : m ≤ 3) (h : Q (.d .non) g) : sp_require_alike_points [.d (hier R), .d (tupS p), .d (.tup [tupS q])] g Q E := by
  simp [sp_require_alike_points, loc, locAt, locJ, namesOf, refsC_pc, refsC_lst, refsC_dct, refsC_frz, toLocC_pc, toLocC_lst, toLocC_dct, toLocC_frz, unLocC_pc, unLocC_lst, unLocC_dct, unLocC_frz, getCs, inJ, toLoc, unLoc, putC, sl_require_alike_points]
  exact ⟨R, m, p, [q], ⟨rfl, rfl, rfl⟩, hR, hp, h1, h3, by simpa using hq, by simpa [loc, locAt, locJ, namesOf, refsC_pc, refsC_lst, refsC_dct, refsC_frz, toLocC_pc, toLocC_lst, toLocC_dct, toLocC_frz, unLocC_pc, unLocC_lst, unLocC_dct, unLocC_frz, getCs, inJ, toLoc, unLoc, putC] using h⟩
theorem p_is_point_at_or_below : ∀ ws cs Q E, sl_is_point_at_or_below ws cs Q E → t_is_point_at_or_below (endsD cs.length Q E) (startE N_is_point_at_or_below ws) cs := by
  rintro ws cs Q E ⟨R, m, p, q, rfl, rfl, hR, hp, hq2, h1, h3, hq⟩
  have sz := sz6
  simp [dSeq, dIfS, dAsg, dIf, dTest, dOp2, dOp1, dOpN, dVar, dC, dCons, dNil, dgName, dRet, dRetN, dDrop, dNext, dLst, dTup, startE, endsD, oI, oInt1, oInt2, oNeg, oIs, oDivmod, dAnd, dOr, dNot, dAndV, dOrV, dNotV, dgSub, dgTup, dgCons, dgNil, oSetL, dPar, dPar3, dFor, diRange1, diRange2, dLc, dCall, dBM, isT, dSl, dP, dNoP, oEq, dChain, oRepr, oIsi, oBools, retD_d, isTy, dDict0, dDict, dPairs, isFl, isFls, isPy, isPys, isPyKV, look_d, look_c, lookC_lst, lookC_dct, lookC_frz, itM_some, oIx_v, ixV_lst, ixV_tup, ixV_scr, ixV_str, oAdd_v, addV_int, addV_str, addV_tup, addV_lst, oMul_v, mulV_int, mulV_lst, oLen_v, lenV_str, lenV_lst, lenV_tup, lenV_scr, oSl_v, slV_str, slV_tup, slV_lst, oIn_v, inV_lst, inV_tup, inV_sign, diSeq_v, seqV_lst, seqV_tup, seqV_str, fixW_d, fixW_c, fixV_frz, fixV_lst, fixV_dct, fixAll_nil, fixAll_cons, gcS, gcK, fixEnv_nil, fixEnv_none, fixEnv_d, fixEnv_c, fixEnv_tp, fixEnv_dead, fixEnv_sl, poison_sl, fixC, poison, poisonC_lst, poisonC_dct, poisonC_frz, poisonC_obj, dropTo0, dropTo1, dropTo2, dropTo3, dropTo4, dropTo5, dropTo6, madeQ, dMake, dMeth, DL.isObj, dFld, fldW, dCon, dSetF, fixO, frzS, diDK, diDP, keepD, oIxD, oInD, oLenD, oListK, oSetD, oPopAt, oIsiT, oInS, oTupleOf, oListOf, sd_inj, refsC_pc, toLocC_pc, unLocC_pc, poisonC_pc, diEnumA, enumV_lst, enumV_tup, dFix, dRev, oClear, dLc2, t_is_point_at_or_below, dCallS]
  refine ⟨by omega, ral0 hR hp hq2 h1 h3 ?_⟩
  refine lies0 hR hp.2 hq2.2 (by rw [hp.1]; exact h3) ?_
  simpa [dSeq, dIfS, dAsg, dIf, dTest, dOp2, dOp1, dOpN, dVar, dC, dCons, dNil, dgName, dRet, dRetN, dDrop, dNext, dLst, dTup, startE, endsD, oI, oInt1, oInt2, oNeg, oIs, oDivmod, dAnd, dOr, dNot, dAndV, dOrV, dNotV, dgSub, dgTup, dgCons, dgNil, oSetL, dPar, dPar3, dFor, diRange1, diRange2, dLc, dCall, dBM, isT, dSl, dP, dNoP, oEq, dChain, oRepr, oIsi, oBools, retD_d, isTy, dDict0, dDict, dPairs, isFl, isFls, isPy, isPys, isPyKV, look_d, look_c, lookC_lst, lookC_dct, lookC_frz, itM_some, oIx_v, ixV_lst, ixV_tup, ixV_scr, ixV_str, oAdd_v, addV_int, addV_str, addV_tup, addV_lst, oMul_v, mulV_int, mulV_lst, oLen_v, lenV_str, lenV_lst, lenV_tup, lenV_scr, oSl_v, slV_str, slV_tup, slV_lst, oIn_v, inV_lst, inV_tup, inV_sign, diSeq_v, seqV_lst, seqV_tup, seqV_str, fixW_d, fixW_c, fixV_frz, fixV_lst, fixV_dct, fixAll_nil, fixAll_cons, gcS, gcK, fixEnv_nil, fixEnv_none, fixEnv_d, fixEnv_c, fixEnv_tp, fixEnv_dead, fixEnv_sl, poison_sl, fixC, poison, poisonC_lst, poisonC_dct, poisonC_frz, poisonC_obj, dropTo0, dropTo1, dropTo2, dropTo3, dropTo4, dropTo5, dropTo6, madeQ, dMake, dMeth, DL.isObj, dFld, fldW, dCon, dSetF, fixO, frzS, diDK, diDP, keepD, oIxD, oInD, oLenD, oListK, oSetD, oPopAt, oIsiT, oInS, oTupleOf, oListOf, sd_inj, refsC_pc, toLocC_pc, unLocC_pc, poisonC_pc, diEnumA, enumV_lst, enumV_tup, dFix, dRev, oClear, dLc2] using hq
theorem ipb0 {R : List Row} {m : Nat} {p q : List Str} {g : Cs} {Q : DQ} {E : DX} (hR : RowsOk R) (hp : PtOk R m p) (hq : PtOk R m q) (h1 : 1 ≤ m) (h3 : m ≤ 3) (h : Q (.d (.bl (liesB R p q))) g) : sp_is_point_at_or_below [.d (hier R), .d (tupS p), .d (tupS q)] g Q E := by
  simp [sp_is_point_at_or_below, loc, locAt, locJ, namesOf, refsC_pc, refsC_lst, refsC_dct, refsC_frz, toLocC_pc, toLocC_lst, toLocC_dct, toLocC_frz, unLocC_pc, unLocC_lst, unLocC_dct, unLocC_frz, getCs, inJ, toLoc, unLoc, putC, sl_is_point_at_or_below]
  exact ⟨R, m, p, q, ⟨rfl, rfl, rfl⟩, hR, hp, hq, h1, h3, by simpa [loc, locAt, locJ, namesOf, refsC_pc, refsC_lst, refsC_dct, refsC_frz, toLocC_pc, toLocC_lst, toLocC_dct, toLocC_frz, unLocC_pc, unLocC_lst, unLocC_dct, unLocC_frz, getCs, inJ, toLoc, unLoc, putC] using h⟩
theorem below_refl {R : List Row} (hR : RowsOk R) {x : Str} (h : x ∈ namesR R) : belowB R x x = true := (below_up hR h).mpr (.refl x)
theorem below_anti {R : List Row} (hR : RowsOk R) {x y : Str} (hx : x ∈ namesR R) (hy : y ∈ namesR R) (h1 : belowB R x y = true) (h2 : belowB R y x = true) : x = y := up_anti hR ((below_up hR hx).mp h1) ((below_up hR hy).mp h2)
theorem lies_refl {R : List Row} (hR : RowsOk R) : ∀ {p : List Str}, (∀ z ∈ p, z ∈ namesR R) → liesB R p p = true
  | [], _ => rfl
  | a :: p, h => by
    have ih := lies_refl hR (p := p) fun z hz => h z (List.mem_cons_of_mem _ hz)
    have h0 := below_refl hR (h a List.mem_cons_self)
    unfold liesB at ih ⊢
    simp [h0]
    simpa using ih
theorem lies_anti {R : List Row} (hR : RowsOk R) : ∀ {p q : List Str}, p.length = q.length → (∀ z ∈ p, z ∈ namesR R) → (∀ z ∈ q, z ∈ namesR R) → liesB R p q = true → liesB R q p = true → p = q
  | [], [], _, _, _, _, _ => rfl
  | [], _ :: _, h, _, _, _, _ => by simp at h
  | _ :: _, [], h, _, _, _, _ => by simp at h
  | a :: p, b :: q, hl, hp, hq, h1, h2 => by
    have e1 : liesB R (a :: p) (b :: q) = (belowB R a b && liesB R p q) := by simp [liesB]
    have e2 : liesB R (b :: q) (a :: p) = (belowB R b a && liesB R q p) := by simp [liesB]
    rw [e1, Bool.and_eq_true] at h1
    rw [e2, Bool.and_eq_true] at h2
    rw [below_anti hR (hp a List.mem_cons_self) (hq b List.mem_cons_self) h1.1 h2.1, lies_anti hR (by simpa using hl) (fun z hz => hp z (List.mem_cons_of_mem _ hz)) (fun z hz => hq z (List.mem_cons_of_mem _ hz)) h1.2 h2.2]
theorem under_lies {R : List Row} (hR : RowsOk R) : ∀ {p q : List Str}, (∀ z ∈ p, z ∈ namesR R) → underB R p q = liesB R p q
  | [], _, _ => by simp [underB, liesB]
  | _ :: _, [], _ => by simp [underB, liesB]
  | a :: p, b :: q, hp => by
    have ih := under_lies hR (p := p) (q := q) fun z hz => hp z (List.mem_cons_of_mem _ hz)
    have e1 : liesB R (a :: p) (b :: q) = (belowB R a b && liesB R p q) := by simp [liesB]
    have e2 : underB R (a :: p) (b :: q) = (decide (b ∈ aboveL R a) && underB R p q) := by simp [underB]
    rw [e1, e2, ih]
    have := above_anc hR (y := b) (hp a List.mem_cons_self)
    unfold belowB
    simp [this]
/-- what stands later is not above -/
theorem lies_order {R : List Row} (hR : RowsOk R) {m i j : Nat} {p q : List Str} (hi : (prodL (List.replicate m (namesR R)))[i]? = some p) (hj : (prodL (List.replicate m (namesR R)))[j]? = some q) (h : i < j) : liesB R p q = false := by
  have := List.pairwise_iff_getElem.mp (points_pw hR m)
  obtain ⟨h1, rfl⟩ := List.getElem?_eq_some_iff.mp hi
  obtain ⟨h2, rfl⟩ := List.getElem?_eq_some_iff.mp hj
  exact this i j h1 h2 h
theorem p__law_sizes : ∀ ws cs Q E, sl__law_sizes ws cs Q E → t__law_sizes (endsD cs.length Q E) (startE N__law_sizes ws) cs := by
  rintro ws cs Q E ⟨p, rfl, rfl, hq⟩
  have sz := sz6
  simp [dSeq, dIfS, dAsg, dIf, dTest, dOp2, dOp1, dOpN, dVar, dC, dCons, dNil, dgName, dRet, dRetN, dDrop, dNext, dLst, dTup, startE, endsD, oI, oInt1, oInt2, oNeg, oIs, oDivmod, dAnd, dOr, dNot, dAndV, dOrV, dNotV, dgSub, dgTup, dgCons, dgNil, oSetL, dPar, dPar3, dFor, diRange1, diRange2, dLc, dCall, dBM, isT, dSl, dP, dNoP, oEq, dChain, oRepr, oIsi, oBools, retD_d, isTy, dDict0, dDict, dPairs, isFl, isFls, isPy, isPys, isPyKV, look_d, look_c, lookC_lst, lookC_dct, lookC_frz, itM_some, oIx_v, ixV_lst, ixV_tup, ixV_scr, ixV_str, oAdd_v, addV_int, addV_str, addV_tup, addV_lst, oMul_v, mulV_int, mulV_lst, oLen_v, lenV_str, lenV_lst, lenV_tup, lenV_scr, oSl_v, slV_str, slV_tup, slV_lst, oIn_v, inV_lst, inV_tup, inV_sign, diSeq_v, seqV_lst, seqV_tup, seqV_str, fixW_d, fixW_c, fixV_frz, fixV_lst, fixV_dct, fixAll_nil, fixAll_cons, gcS, gcK, fixEnv_nil, fixEnv_none, fixEnv_d, fixEnv_c, fixEnv_tp, fixEnv_dead, fixEnv_sl, poison_sl, fixC, poison, poisonC_lst, poisonC_dct, poisonC_frz, poisonC_obj, dropTo0, dropTo1, dropTo2, dropTo3, dropTo4, dropTo5, dropTo6, madeQ, dMake, dMeth, DL.isObj, dFld, fldW, dCon, dSetF, fixO, frzS, diDK, diDP, keepD, oIxD, oInD, oLenD, oListK, oSetD, oPopAt, oIsiT, oInS, oTupleOf, oListOf, sd_inj, refsC_pc, toLocC_pc, unLocC_pc, poisonC_pc, diEnumA, enumV_lst, enumV_tup, dFix, dRev, oClear, dLc2, t__law_sizes, draw0]
  refine ⟨by omega, by omega, fun r p' r0 r1 => ?_⟩
  have hr : r = 0 ∨ r = 1 ∨ r = 2 ∨ r = 3 ∨ r = 4 ∨ r = 5 := by omega
  rcases hr with rfl | rfl | rfl | rfl | rfl | rfl
  · exact by simpa [dSeq, dIfS, dAsg, dIf, dTest, dOp2, dOp1, dOpN, dVar, dC, dCons, dNil, dgName, dRet, dRetN, dDrop, dNext, dLst, dTup, startE, endsD, oI, oInt1, oInt2, oNeg, oIs, oDivmod, dAnd, dOr, dNot, dAndV, dOrV, dNotV, dgSub, dgTup, dgCons, dgNil, oSetL, dPar, dPar3, dFor, diRange1, diRange2, dLc, dCall, dBM, isT, dSl, dP, dNoP, oEq, dChain, oRepr, oIsi, oBools, retD_d, isTy, dDict0, dDict, dPairs, isFl, isFls, isPy, isPys, isPyKV, look_d, look_c, lookC_lst, lookC_dct, lookC_frz, itM_some, oIx_v, ixV_lst, ixV_tup, ixV_scr, ixV_str, oAdd_v, addV_int, addV_str, addV_tup, addV_lst, oMul_v, mulV_int, mulV_lst, oLen_v, lenV_str, lenV_lst, lenV_tup, lenV_scr, oSl_v, slV_str, slV_tup, slV_lst, oIn_v, inV_lst, inV_tup, inV_sign, diSeq_v, seqV_lst, seqV_tup, seqV_str, fixW_d, fixW_c, fixV_frz, fixV_lst, fixV_dct, fixAll_nil, fixAll_cons, gcS, gcK, fixEnv_nil, fixEnv_none, fixEnv_d, fixEnv_c, fixEnv_tp, fixEnv_dead, fixEnv_sl, poison_sl, fixC, poison, poisonC_lst, poisonC_dct, poisonC_frz, poisonC_obj, dropTo0, dropTo1, dropTo2, dropTo3, dropTo4, dropTo5, dropTo6, madeQ, dMake, dMeth, DL.isObj, dFld, fldW, dCon, dSetF, fixO, frzS, diDK, diDP, keepD, oIxD, oInD, oLenD, oListK, oSetD, oPopAt, oIsiT, oInS, oTupleOf, oListOf, sd_inj, refsC_pc, toLocC_pc, unLocC_pc, poisonC_pc, diEnumA, enumV_lst, enumV_tup, dFix, dRev, oClear, dLc2, atI, itM, ixN] using hq 8 1 p' (by omega) (by omega) (by omega) (by omega) (by decide)
  · exact by simpa [dSeq, dIfS, dAsg, dIf, dTest, dOp2, dOp1, dOpN, dVar, dC, dCons, dNil, dgName, dRet, dRetN, dDrop, dNext, dLst, dTup, startE, endsD, oI, oInt1, oInt2, oNeg, oIs, oDivmod, dAnd, dOr, dNot, dAndV, dOrV, dNotV, dgSub, dgTup, dgCons, dgNil, oSetL, dPar, dPar3, dFor, diRange1, diRange2, dLc, dCall, dBM, isT, dSl, dP, dNoP, oEq, dChain, oRepr, oIsi, oBools, retD_d, isTy, dDict0, dDict, dPairs, isFl, isFls, isPy, isPys, isPyKV, look_d, look_c, lookC_lst, lookC_dct, lookC_frz, itM_some, oIx_v, ixV_lst, ixV_tup, ixV_scr, ixV_str, oAdd_v, addV_int, addV_str, addV_tup, addV_lst, oMul_v, mulV_int, mulV_lst, oLen_v, lenV_str, lenV_lst, lenV_tup, lenV_scr, oSl_v, slV_str, slV_tup, slV_lst, oIn_v, inV_lst, inV_tup, inV_sign, diSeq_v, seqV_lst, seqV_tup, seqV_str, fixW_d, fixW_c, fixV_frz, fixV_lst, fixV_dct, fixAll_nil, fixAll_cons, gcS, gcK, fixEnv_nil, fixEnv_none, fixEnv_d, fixEnv_c, fixEnv_tp, fixEnv_dead, fixEnv_sl, poison_sl, fixC, poison, poisonC_lst, poisonC_dct, poisonC_frz, poisonC_obj, dropTo0, dropTo1, dropTo2, dropTo3, dropTo4, dropTo5, dropTo6, madeQ, dMake, dMeth, DL.isObj, dFld, fldW, dCon, dSetF, fixO, frzS, diDK, diDP, keepD, oIxD, oInD, oLenD, oListK, oSetD, oPopAt, oIsiT, oInS, oTupleOf, oListOf, sd_inj, refsC_pc, toLocC_pc, unLocC_pc, poisonC_pc, diEnumA, enumV_lst, enumV_tup, dFix, dRev, oClear, dLc2, atI, itM, ixN] using hq 8 1 p' (by omega) (by omega) (by omega) (by omega) (by decide)
  · exact by simpa [dSeq, dIfS, dAsg, dIf, dTest, dOp2, dOp1, dOpN, dVar, dC, dCons, dNil, dgName, dRet, dRetN, dDrop, dNext, dLst, dTup, startE, endsD, oI, oInt1, oInt2, oNeg, oIs, oDivmod, dAnd, dOr, dNot, dAndV, dOrV, dNotV, dgSub, dgTup, dgCons, dgNil, oSetL, dPar, dPar3, dFor, diRange1, diRange2, dLc, dCall, dBM, isT, dSl, dP, dNoP, oEq, dChain, oRepr, oIsi, oBools, retD_d, isTy, dDict0, dDict, dPairs, isFl, isFls, isPy, isPys, isPyKV, look_d, look_c, lookC_lst, lookC_dct, lookC_frz, itM_some, oIx_v, ixV_lst, ixV_tup, ixV_scr, ixV_str, oAdd_v, addV_int, addV_str, addV_tup, addV_lst, oMul_v, mulV_int, mulV_lst, oLen_v, lenV_str, lenV_lst, lenV_tup, lenV_scr, oSl_v, slV_str, slV_tup, slV_lst, oIn_v, inV_lst, inV_tup, inV_sign, diSeq_v, seqV_lst, seqV_tup, seqV_str, fixW_d, fixW_c, fixV_frz, fixV_lst, fixV_dct, fixAll_nil, fixAll_cons, gcS, gcK, fixEnv_nil, fixEnv_none, fixEnv_d, fixEnv_c, fixEnv_tp, fixEnv_dead, fixEnv_sl, poison_sl, fixC, poison, poisonC_lst, poisonC_dct, poisonC_frz, poisonC_obj, dropTo0, dropTo1, dropTo2, dropTo3, dropTo4, dropTo5, dropTo6, madeQ, dMake, dMeth, DL.isObj, dFld, fldW, dCon, dSetF, fixO, frzS, diDK, diDP, keepD, oIxD, oInD, oLenD, oListK, oSetD, oPopAt, oIsiT, oInS, oTupleOf, oListOf, sd_inj, refsC_pc, toLocC_pc, unLocC_pc, poisonC_pc, diEnumA, enumV_lst, enumV_tup, dFix, dRev, oClear, dLc2, atI, itM, ixN] using hq 6 1 p' (by omega) (by omega) (by omega) (by omega) (by decide)
  · exact by simpa [dSeq, dIfS, dAsg, dIf, dTest, dOp2, dOp1, dOpN, dVar, dC, dCons, dNil, dgName, dRet, dRetN, dDrop, dNext, dLst, dTup, startE, endsD, oI, oInt1, oInt2, oNeg, oIs, oDivmod, dAnd, dOr, dNot, dAndV, dOrV, dNotV, dgSub, dgTup, dgCons, dgNil, oSetL, dPar, dPar3, dFor, diRange1, diRange2, dLc, dCall, dBM, isT, dSl, dP, dNoP, oEq, dChain, oRepr, oIsi, oBools, retD_d, isTy, dDict0, dDict, dPairs, isFl, isFls, isPy, isPys, isPyKV, look_d, look_c, lookC_lst, lookC_dct, lookC_frz, itM_some, oIx_v, ixV_lst, ixV_tup, ixV_scr, ixV_str, oAdd_v, addV_int, addV_str, addV_tup, addV_lst, oMul_v, mulV_int, mulV_lst, oLen_v, lenV_str, lenV_lst, lenV_tup, lenV_scr, oSl_v, slV_str, slV_tup, slV_lst, oIn_v, inV_lst, inV_tup, inV_sign, diSeq_v, seqV_lst, seqV_tup, seqV_str, fixW_d, fixW_c, fixV_frz, fixV_lst, fixV_dct, fixAll_nil, fixAll_cons, gcS, gcK, fixEnv_nil, fixEnv_none, fixEnv_d, fixEnv_c, fixEnv_tp, fixEnv_dead, fixEnv_sl, poison_sl, fixC, poison, poisonC_lst, poisonC_dct, poisonC_frz, poisonC_obj, dropTo0, dropTo1, dropTo2, dropTo3, dropTo4, dropTo5, dropTo6, madeQ, dMake, dMeth, DL.isObj, dFld, fldW, dCon, dSetF, fixO, frzS, diDK, diDP, keepD, oIxD, oInD, oLenD, oListK, oSetD, oPopAt, oIsiT, oInS, oTupleOf, oListOf, sd_inj, refsC_pc, toLocC_pc, unLocC_pc, poisonC_pc, diEnumA, enumV_lst, enumV_tup, dFix, dRev, oClear, dLc2, atI, itM, ixN] using hq 6 2 p' (by omega) (by omega) (by omega) (by omega) (by decide)
  · exact by simpa [dSeq, dIfS, dAsg, dIf, dTest, dOp2, dOp1, dOpN, dVar, dC, dCons, dNil, dgName, dRet, dRetN, dDrop, dNext, dLst, dTup, startE, endsD, oI, oInt1, oInt2, oNeg, oIs, oDivmod, dAnd, dOr, dNot, dAndV, dOrV, dNotV, dgSub, dgTup, dgCons, dgNil, oSetL, dPar, dPar3, dFor, diRange1, diRange2, dLc, dCall, dBM, isT, dSl, dP, dNoP, oEq, dChain, oRepr, oIsi, oBools, retD_d, isTy, dDict0, dDict, dPairs, isFl, isFls, isPy, isPys, isPyKV, look_d, look_c, lookC_lst, lookC_dct, lookC_frz, itM_some, oIx_v, ixV_lst, ixV_tup, ixV_scr, ixV_str, oAdd_v, addV_int, addV_str, addV_tup, addV_lst, oMul_v, mulV_int, mulV_lst, oLen_v, lenV_str, lenV_lst, lenV_tup, lenV_scr, oSl_v, slV_str, slV_tup, slV_lst, oIn_v, inV_lst, inV_tup, inV_sign, diSeq_v, seqV_lst, seqV_tup, seqV_str, fixW_d, fixW_c, fixV_frz, fixV_lst, fixV_dct, fixAll_nil, fixAll_cons, gcS, gcK, fixEnv_nil, fixEnv_none, fixEnv_d, fixEnv_c, fixEnv_tp, fixEnv_dead, fixEnv_sl, poison_sl, fixC, poison, poisonC_lst, poisonC_dct, poisonC_frz, poisonC_obj, dropTo0, dropTo1, dropTo2, dropTo3, dropTo4, dropTo5, dropTo6, madeQ, dMake, dMeth, DL.isObj, dFld, fldW, dCon, dSetF, fixO, frzS, diDK, diDP, keepD, oIxD, oInD, oLenD, oListK, oSetD, oPopAt, oIsiT, oInS, oTupleOf, oListOf, sd_inj, refsC_pc, toLocC_pc, unLocC_pc, poisonC_pc, diEnumA, enumV_lst, enumV_tup, dFix, dRev, oClear, dLc2, atI, itM, ixN] using hq 8 2 p' (by omega) (by omega) (by omega) (by omega) (by decide)
  · exact by simpa [dSeq, dIfS, dAsg, dIf, dTest, dOp2, dOp1, dOpN, dVar, dC, dCons, dNil, dgName, dRet, dRetN, dDrop, dNext, dLst, dTup, startE, endsD, oI, oInt1, oInt2, oNeg, oIs, oDivmod, dAnd, dOr, dNot, dAndV, dOrV, dNotV, dgSub, dgTup, dgCons, dgNil, oSetL, dPar, dPar3, dFor, diRange1, diRange2, dLc, dCall, dBM, isT, dSl, dP, dNoP, oEq, dChain, oRepr, oIsi, oBools, retD_d, isTy, dDict0, dDict, dPairs, isFl, isFls, isPy, isPys, isPyKV, look_d, look_c, lookC_lst, lookC_dct, lookC_frz, itM_some, oIx_v, ixV_lst, ixV_tup, ixV_scr, ixV_str, oAdd_v, addV_int, addV_str, addV_tup, addV_lst, oMul_v, mulV_int, mulV_lst, oLen_v, lenV_str, lenV_lst, lenV_tup, lenV_scr, oSl_v, slV_str, slV_tup, slV_lst, oIn_v, inV_lst, inV_tup, inV_sign, diSeq_v, seqV_lst, seqV_tup, seqV_str, fixW_d, fixW_c, fixV_frz, fixV_lst, fixV_dct, fixAll_nil, fixAll_cons, gcS, gcK, fixEnv_nil, fixEnv_none, fixEnv_d, fixEnv_c, fixEnv_tp, fixEnv_dead, fixEnv_sl, poison_sl, fixC, poison, poisonC_lst, poisonC_dct, poisonC_frz, poisonC_obj, dropTo0, dropTo1, dropTo2, dropTo3, dropTo4, dropTo5, dropTo6, madeQ, dMake, dMeth, DL.isObj, dFld, fldW, dCon, dSetF, fixO, frzS, diDK, diDP, keepD, oIxD, oInD, oLenD, oListK, oSetD, oPopAt, oIsiT, oInS, oTupleOf, oListOf, sd_inj, refsC_pc, toLocC_pc, unLocC_pc, poisonC_pc, diEnumA, enumV_lst, enumV_tup, dFix, dRev, oClear, dLc2, atI, itM, ixN] using hq 4 3 p' (by omega) (by omega) (by omega) (by omega) (by decide)
end DH
namespace DH
open PySem PySem.Spec L2 DL
theorem len_is_name : ∀ ws cs Q E, sl_is_name ws cs Q E → ws.length = 1 := by
  intro ws cs Q E h
  have h := h
  first
    | (obtain ⟨rfl, _⟩ := h; rfl)
    | (obtain ⟨_, rfl, _⟩ := h; rfl)
    | (obtain ⟨_, _, rfl, _⟩ := h; rfl)
    | (obtain ⟨_, _, _, rfl, _⟩ := h; rfl)
    | (obtain ⟨_, _, _, _, rfl, _⟩ := h; rfl)
    | (obtain ⟨_, _, _, _, _, rfl, _⟩ := h; rfl)
    | (obtain ⟨_, _, _, _, _, _, rfl, _⟩ := h; rfl)
    | (obtain ⟨_, _, _, _, _, _, _, rfl, _⟩ := h; rfl)
    | (obtain ⟨_, _, _, _, _, _, _, _, rfl, _⟩ := h; rfl)
    | (obtain ⟨_, _, _, _, _, _, _, _, _, rfl, _⟩ := h; rfl)
theorem len__law_pot : ∀ ws cs Q E, sl__law_pot ws cs Q E → ws.length = 2 := by
  intro ws cs Q E h
  have h := h
  first
    | (obtain ⟨rfl, _⟩ := h; rfl)
    | (obtain ⟨_, rfl, _⟩ := h; rfl)
    | (obtain ⟨_, _, rfl, _⟩ := h; rfl)
    | (obtain ⟨_, _, _, rfl, _⟩ := h; rfl)
    | (obtain ⟨_, _, _, _, rfl, _⟩ := h; rfl)
    | (obtain ⟨_, _, _, _, _, rfl, _⟩ := h; rfl)
    | (obtain ⟨_, _, _, _, _, _, rfl, _⟩ := h; rfl)
    | (obtain ⟨_, _, _, _, _, _, _, rfl, _⟩ := h; rfl)
    | (obtain ⟨_, _, _, _, _, _, _, _, rfl, _⟩ := h; rfl)
    | (obtain ⟨_, _, _, _, _, _, _, _, _, rfl, _⟩ := h; rfl)
theorem len__law_draw : ∀ ws cs Q E, sl__law_draw ws cs Q E → ws.length = 2 := by
  intro ws cs Q E h
  have h := h
  first
    | (obtain ⟨rfl, _⟩ := h; rfl)
    | (obtain ⟨_, rfl, _⟩ := h; rfl)
    | (obtain ⟨_, _, rfl, _⟩ := h; rfl)
    | (obtain ⟨_, _, _, rfl, _⟩ := h; rfl)
    | (obtain ⟨_, _, _, _, rfl, _⟩ := h; rfl)
    | (obtain ⟨_, _, _, _, _, rfl, _⟩ := h; rfl)
    | (obtain ⟨_, _, _, _, _, _, rfl, _⟩ := h; rfl)
    | (obtain ⟨_, _, _, _, _, _, _, rfl, _⟩ := h; rfl)
    | (obtain ⟨_, _, _, _, _, _, _, _, rfl, _⟩ := h; rfl)
    | (obtain ⟨_, _, _, _, _, _, _, _, _, rfl, _⟩ := h; rfl)
theorem len__law_mixed : ∀ ws cs Q E, sl__law_mixed ws cs Q E → ws.length = 2 := by
  intro ws cs Q E h
  have h := h
  first
    | (obtain ⟨rfl, _⟩ := h; rfl)
    | (obtain ⟨_, rfl, _⟩ := h; rfl)
    | (obtain ⟨_, _, rfl, _⟩ := h; rfl)
    | (obtain ⟨_, _, _, rfl, _⟩ := h; rfl)
    | (obtain ⟨_, _, _, _, rfl, _⟩ := h; rfl)
    | (obtain ⟨_, _, _, _, _, rfl, _⟩ := h; rfl)
    | (obtain ⟨_, _, _, _, _, _, rfl, _⟩ := h; rfl)
    | (obtain ⟨_, _, _, _, _, _, _, rfl, _⟩ := h; rfl)
    | (obtain ⟨_, _, _, _, _, _, _, _, rfl, _⟩ := h; rfl)
    | (obtain ⟨_, _, _, _, _, _, _, _, _, rfl, _⟩ := h; rfl)
theorem len__law_name : ∀ ws cs Q E, sl__law_name ws cs Q E → ws.length = 1 := by
  intro ws cs Q E h
  have h := h
  first
    | (obtain ⟨rfl, _⟩ := h; rfl)
    | (obtain ⟨_, rfl, _⟩ := h; rfl)
    | (obtain ⟨_, _, rfl, _⟩ := h; rfl)
    | (obtain ⟨_, _, _, rfl, _⟩ := h; rfl)
    | (obtain ⟨_, _, _, _, rfl, _⟩ := h; rfl)
    | (obtain ⟨_, _, _, _, _, rfl, _⟩ := h; rfl)
    | (obtain ⟨_, _, _, _, _, _, rfl, _⟩ := h; rfl)
    | (obtain ⟨_, _, _, _, _, _, _, rfl, _⟩ := h; rfl)
    | (obtain ⟨_, _, _, _, _, _, _, _, rfl, _⟩ := h; rfl)
    | (obtain ⟨_, _, _, _, _, _, _, _, _, rfl, _⟩ := h; rfl)
theorem len__law_names : ∀ ws cs Q E, sl__law_names ws cs Q E → ws.length = 2 := by
  intro ws cs Q E h
  have h := h
  first
    | (obtain ⟨rfl, _⟩ := h; rfl)
    | (obtain ⟨_, rfl, _⟩ := h; rfl)
    | (obtain ⟨_, _, rfl, _⟩ := h; rfl)
    | (obtain ⟨_, _, _, rfl, _⟩ := h; rfl)
    | (obtain ⟨_, _, _, _, rfl, _⟩ := h; rfl)
    | (obtain ⟨_, _, _, _, _, rfl, _⟩ := h; rfl)
    | (obtain ⟨_, _, _, _, _, _, rfl, _⟩ := h; rfl)
    | (obtain ⟨_, _, _, _, _, _, _, rfl, _⟩ := h; rfl)
    | (obtain ⟨_, _, _, _, _, _, _, _, rfl, _⟩ := h; rfl)
    | (obtain ⟨_, _, _, _, _, _, _, _, _, rfl, _⟩ := h; rfl)
theorem len__law_kinds : ∀ ws cs Q E, sl__law_kinds ws cs Q E → ws.length = 2 := by
  intro ws cs Q E h
  have h := h
  first
    | (obtain ⟨rfl, _⟩ := h; rfl)
    | (obtain ⟨_, rfl, _⟩ := h; rfl)
    | (obtain ⟨_, _, rfl, _⟩ := h; rfl)
    | (obtain ⟨_, _, _, rfl, _⟩ := h; rfl)
    | (obtain ⟨_, _, _, _, rfl, _⟩ := h; rfl)
    | (obtain ⟨_, _, _, _, _, rfl, _⟩ := h; rfl)
    | (obtain ⟨_, _, _, _, _, _, rfl, _⟩ := h; rfl)
    | (obtain ⟨_, _, _, _, _, _, _, rfl, _⟩ := h; rfl)
    | (obtain ⟨_, _, _, _, _, _, _, _, rfl, _⟩ := h; rfl)
    | (obtain ⟨_, _, _, _, _, _, _, _, _, rfl, _⟩ := h; rfl)
theorem len_are_different_classes : ∀ ws cs Q E, sl_are_different_classes ws cs Q E → ws.length = 2 := by
  intro ws cs Q E h
  have h := h
  first
    | (obtain ⟨rfl, _⟩ := h; rfl)
    | (obtain ⟨_, rfl, _⟩ := h; rfl)
    | (obtain ⟨_, _, rfl, _⟩ := h; rfl)
    | (obtain ⟨_, _, _, rfl, _⟩ := h; rfl)
    | (obtain ⟨_, _, _, _, rfl, _⟩ := h; rfl)
    | (obtain ⟨_, _, _, _, _, rfl, _⟩ := h; rfl)
    | (obtain ⟨_, _, _, _, _, _, rfl, _⟩ := h; rfl)
    | (obtain ⟨_, _, _, _, _, _, _, rfl, _⟩ := h; rfl)
    | (obtain ⟨_, _, _, _, _, _, _, _, rfl, _⟩ := h; rfl)
    | (obtain ⟨_, _, _, _, _, _, _, _, _, rfl, _⟩ := h; rfl)
theorem len_element_problem : ∀ ws cs Q E, sl_element_problem ws cs Q E → ws.length = 2 := by
  intro ws cs Q E h
  have h := h
  first
    | (obtain ⟨rfl, _⟩ := h; rfl)
    | (obtain ⟨_, rfl, _⟩ := h; rfl)
    | (obtain ⟨_, _, rfl, _⟩ := h; rfl)
    | (obtain ⟨_, _, _, rfl, _⟩ := h; rfl)
    | (obtain ⟨_, _, _, _, rfl, _⟩ := h; rfl)
    | (obtain ⟨_, _, _, _, _, rfl, _⟩ := h; rfl)
    | (obtain ⟨_, _, _, _, _, _, rfl, _⟩ := h; rfl)
    | (obtain ⟨_, _, _, _, _, _, _, rfl, _⟩ := h; rfl)
    | (obtain ⟨_, _, _, _, _, _, _, _, rfl, _⟩ := h; rfl)
    | (obtain ⟨_, _, _, _, _, _, _, _, _, rfl, _⟩ := h; rfl)
theorem len_Hierarchy_ancestors_of_new : ∀ ws cs Q E, sl_Hierarchy_ancestors_of_new ws cs Q E → ws.length = 2 := by
  intro ws cs Q E h
  have h := h
  first
    | (obtain ⟨rfl, _⟩ := h; rfl)
    | (obtain ⟨_, rfl, _⟩ := h; rfl)
    | (obtain ⟨_, _, rfl, _⟩ := h; rfl)
    | (obtain ⟨_, _, _, rfl, _⟩ := h; rfl)
    | (obtain ⟨_, _, _, _, rfl, _⟩ := h; rfl)
    | (obtain ⟨_, _, _, _, _, rfl, _⟩ := h; rfl)
    | (obtain ⟨_, _, _, _, _, _, rfl, _⟩ := h; rfl)
    | (obtain ⟨_, _, _, _, _, _, _, rfl, _⟩ := h; rfl)
    | (obtain ⟨_, _, _, _, _, _, _, _, rfl, _⟩ := h; rfl)
    | (obtain ⟨_, _, _, _, _, _, _, _, _, rfl, _⟩ := h; rfl)
theorem len_Hierarchy_init : ∀ ws cs Q E, sl_Hierarchy_init ws cs Q E → ws.length = 2 := by
  intro ws cs Q E h
  have h := h
  first
    | (obtain ⟨rfl, _⟩ := h; rfl)
    | (obtain ⟨_, rfl, _⟩ := h; rfl)
    | (obtain ⟨_, _, rfl, _⟩ := h; rfl)
    | (obtain ⟨_, _, _, rfl, _⟩ := h; rfl)
    | (obtain ⟨_, _, _, _, rfl, _⟩ := h; rfl)
    | (obtain ⟨_, _, _, _, _, rfl, _⟩ := h; rfl)
    | (obtain ⟨_, _, _, _, _, _, rfl, _⟩ := h; rfl)
    | (obtain ⟨_, _, _, _, _, _, _, rfl, _⟩ := h; rfl)
    | (obtain ⟨_, _, _, _, _, _, _, _, rfl, _⟩ := h; rfl)
    | (obtain ⟨_, _, _, _, _, _, _, _, _, rfl, _⟩ := h; rfl)
theorem len_Hierarchy_has_class : ∀ ws cs Q E, sl_Hierarchy_has_class ws cs Q E → ws.length = 2 := by
  intro ws cs Q E h
  have h := h
  first
    | (obtain ⟨rfl, _⟩ := h; rfl)
    | (obtain ⟨_, rfl, _⟩ := h; rfl)
    | (obtain ⟨_, _, rfl, _⟩ := h; rfl)
    | (obtain ⟨_, _, _, rfl, _⟩ := h; rfl)
    | (obtain ⟨_, _, _, _, rfl, _⟩ := h; rfl)
    | (obtain ⟨_, _, _, _, _, rfl, _⟩ := h; rfl)
    | (obtain ⟨_, _, _, _, _, _, rfl, _⟩ := h; rfl)
    | (obtain ⟨_, _, _, _, _, _, _, rfl, _⟩ := h; rfl)
    | (obtain ⟨_, _, _, _, _, _, _, _, rfl, _⟩ := h; rfl)
    | (obtain ⟨_, _, _, _, _, _, _, _, _, rfl, _⟩ := h; rfl)
theorem len_is_count : ∀ ws cs Q E, sl_is_count ws cs Q E → ws.length = 1 := by
  intro ws cs Q E h
  have h := h
  first
    | (obtain ⟨rfl, _⟩ := h; rfl)
    | (obtain ⟨_, rfl, _⟩ := h; rfl)
    | (obtain ⟨_, _, rfl, _⟩ := h; rfl)
    | (obtain ⟨_, _, _, rfl, _⟩ := h; rfl)
    | (obtain ⟨_, _, _, _, rfl, _⟩ := h; rfl)
    | (obtain ⟨_, _, _, _, _, rfl, _⟩ := h; rfl)
    | (obtain ⟨_, _, _, _, _, _, rfl, _⟩ := h; rfl)
    | (obtain ⟨_, _, _, _, _, _, _, rfl, _⟩ := h; rfl)
    | (obtain ⟨_, _, _, _, _, _, _, _, rfl, _⟩ := h; rfl)
    | (obtain ⟨_, _, _, _, _, _, _, _, _, rfl, _⟩ := h; rfl)
theorem len_is_point : ∀ ws cs Q E, sl_is_point ws cs Q E → ws.length = 2 := by
  intro ws cs Q E h
  have h := h
  first
    | (obtain ⟨rfl, _⟩ := h; rfl)
    | (obtain ⟨_, rfl, _⟩ := h; rfl)
    | (obtain ⟨_, _, rfl, _⟩ := h; rfl)
    | (obtain ⟨_, _, _, rfl, _⟩ := h; rfl)
    | (obtain ⟨_, _, _, _, rfl, _⟩ := h; rfl)
    | (obtain ⟨_, _, _, _, _, rfl, _⟩ := h; rfl)
    | (obtain ⟨_, _, _, _, _, _, rfl, _⟩ := h; rfl)
    | (obtain ⟨_, _, _, _, _, _, _, rfl, _⟩ := h; rfl)
    | (obtain ⟨_, _, _, _, _, _, _, _, rfl, _⟩ := h; rfl)
    | (obtain ⟨_, _, _, _, _, _, _, _, _, rfl, _⟩ := h; rfl)
theorem len_Hierarchy_names : ∀ ws cs Q E, sl_Hierarchy_names ws cs Q E → ws.length = 1 := by
  intro ws cs Q E h
  have h := h
  first
    | (obtain ⟨rfl, _⟩ := h; rfl)
    | (obtain ⟨_, rfl, _⟩ := h; rfl)
    | (obtain ⟨_, _, rfl, _⟩ := h; rfl)
    | (obtain ⟨_, _, _, rfl, _⟩ := h; rfl)
    | (obtain ⟨_, _, _, _, rfl, _⟩ := h; rfl)
    | (obtain ⟨_, _, _, _, _, rfl, _⟩ := h; rfl)
    | (obtain ⟨_, _, _, _, _, _, rfl, _⟩ := h; rfl)
    | (obtain ⟨_, _, _, _, _, _, _, rfl, _⟩ := h; rfl)
    | (obtain ⟨_, _, _, _, _, _, _, _, rfl, _⟩ := h; rfl)
    | (obtain ⟨_, _, _, _, _, _, _, _, _, rfl, _⟩ := h; rfl)
theorem len_Hierarchy_require_class : ∀ ws cs Q E, sl_Hierarchy_require_class ws cs Q E → ws.length = 2 := by
  intro ws cs Q E h
  have h := h
  first
    | (obtain ⟨rfl, _⟩ := h; rfl)
    | (obtain ⟨_, rfl, _⟩ := h; rfl)
    | (obtain ⟨_, _, rfl, _⟩ := h; rfl)
    | (obtain ⟨_, _, _, rfl, _⟩ := h; rfl)
    | (obtain ⟨_, _, _, _, rfl, _⟩ := h; rfl)
    | (obtain ⟨_, _, _, _, _, rfl, _⟩ := h; rfl)
    | (obtain ⟨_, _, _, _, _, _, rfl, _⟩ := h; rfl)
    | (obtain ⟨_, _, _, _, _, _, _, rfl, _⟩ := h; rfl)
    | (obtain ⟨_, _, _, _, _, _, _, _, rfl, _⟩ := h; rfl)
    | (obtain ⟨_, _, _, _, _, _, _, _, _, rfl, _⟩ := h; rfl)
theorem len_require_point : ∀ ws cs Q E, sl_require_point ws cs Q E → ws.length = 2 := by
  intro ws cs Q E h
  have h := h
  first
    | (obtain ⟨rfl, _⟩ := h; rfl)
    | (obtain ⟨_, rfl, _⟩ := h; rfl)
    | (obtain ⟨_, _, rfl, _⟩ := h; rfl)
    | (obtain ⟨_, _, _, rfl, _⟩ := h; rfl)
    | (obtain ⟨_, _, _, _, rfl, _⟩ := h; rfl)
    | (obtain ⟨_, _, _, _, _, rfl, _⟩ := h; rfl)
    | (obtain ⟨_, _, _, _, _, _, rfl, _⟩ := h; rfl)
    | (obtain ⟨_, _, _, _, _, _, _, rfl, _⟩ := h; rfl)
    | (obtain ⟨_, _, _, _, _, _, _, _, rfl, _⟩ := h; rfl)
    | (obtain ⟨_, _, _, _, _, _, _, _, _, rfl, _⟩ := h; rfl)
theorem len_combined : ∀ ws cs Q E, sl_combined ws cs Q E → ws.length = 1 := by
  intro ws cs Q E h
  have h := h
  first
    | (obtain ⟨rfl, _⟩ := h; rfl)
    | (obtain ⟨_, rfl, _⟩ := h; rfl)
    | (obtain ⟨_, _, rfl, _⟩ := h; rfl)
    | (obtain ⟨_, _, _, rfl, _⟩ := h; rfl)
    | (obtain ⟨_, _, _, _, rfl, _⟩ := h; rfl)
    | (obtain ⟨_, _, _, _, _, rfl, _⟩ := h; rfl)
    | (obtain ⟨_, _, _, _, _, _, rfl, _⟩ := h; rfl)
    | (obtain ⟨_, _, _, _, _, _, _, rfl, _⟩ := h; rfl)
    | (obtain ⟨_, _, _, _, _, _, _, _, rfl, _⟩ := h; rfl)
    | (obtain ⟨_, _, _, _, _, _, _, _, _, rfl, _⟩ := h; rfl)
theorem len_all_points : ∀ ws cs Q E, sl_all_points ws cs Q E → ws.length = 2 := by
  intro ws cs Q E h
  have h := h
  first
    | (obtain ⟨rfl, _⟩ := h; rfl)
    | (obtain ⟨_, rfl, _⟩ := h; rfl)
    | (obtain ⟨_, _, rfl, _⟩ := h; rfl)
    | (obtain ⟨_, _, _, rfl, _⟩ := h; rfl)
    | (obtain ⟨_, _, _, _, rfl, _⟩ := h; rfl)
    | (obtain ⟨_, _, _, _, _, rfl, _⟩ := h; rfl)
    | (obtain ⟨_, _, _, _, _, _, rfl, _⟩ := h; rfl)
    | (obtain ⟨_, _, _, _, _, _, _, rfl, _⟩ := h; rfl)
    | (obtain ⟨_, _, _, _, _, _, _, _, rfl, _⟩ := h; rfl)
    | (obtain ⟨_, _, _, _, _, _, _, _, _, rfl, _⟩ := h; rfl)
theorem len__law_above : ∀ ws cs Q E, sl__law_above ws cs Q E → ws.length = 2 := by
  intro ws cs Q E h
  have h := h
  first
    | (obtain ⟨rfl, _⟩ := h; rfl)
    | (obtain ⟨_, rfl, _⟩ := h; rfl)
    | (obtain ⟨_, _, rfl, _⟩ := h; rfl)
    | (obtain ⟨_, _, _, rfl, _⟩ := h; rfl)
    | (obtain ⟨_, _, _, _, rfl, _⟩ := h; rfl)
    | (obtain ⟨_, _, _, _, _, rfl, _⟩ := h; rfl)
    | (obtain ⟨_, _, _, _, _, _, rfl, _⟩ := h; rfl)
    | (obtain ⟨_, _, _, _, _, _, _, rfl, _⟩ := h; rfl)
    | (obtain ⟨_, _, _, _, _, _, _, _, rfl, _⟩ := h; rfl)
    | (obtain ⟨_, _, _, _, _, _, _, _, _, rfl, _⟩ := h; rfl)
theorem len__law_ups : ∀ ws cs Q E, sl__law_ups ws cs Q E → ws.length = 1 := by
  intro ws cs Q E h
  have h := h
  first
    | (obtain ⟨rfl, _⟩ := h; rfl)
    | (obtain ⟨_, rfl, _⟩ := h; rfl)
    | (obtain ⟨_, _, rfl, _⟩ := h; rfl)
    | (obtain ⟨_, _, _, rfl, _⟩ := h; rfl)
    | (obtain ⟨_, _, _, _, rfl, _⟩ := h; rfl)
    | (obtain ⟨_, _, _, _, _, rfl, _⟩ := h; rfl)
    | (obtain ⟨_, _, _, _, _, _, rfl, _⟩ := h; rfl)
    | (obtain ⟨_, _, _, _, _, _, _, rfl, _⟩ := h; rfl)
    | (obtain ⟨_, _, _, _, _, _, _, _, rfl, _⟩ := h; rfl)
    | (obtain ⟨_, _, _, _, _, _, _, _, _, rfl, _⟩ := h; rfl)
theorem len__law_is_under : ∀ ws cs Q E, sl__law_is_under ws cs Q E → ws.length = 3 := by
  intro ws cs Q E h
  have h := h
  first
    | (obtain ⟨rfl, _⟩ := h; rfl)
    | (obtain ⟨_, rfl, _⟩ := h; rfl)
    | (obtain ⟨_, _, rfl, _⟩ := h; rfl)
    | (obtain ⟨_, _, _, rfl, _⟩ := h; rfl)
    | (obtain ⟨_, _, _, _, rfl, _⟩ := h; rfl)
    | (obtain ⟨_, _, _, _, _, rfl, _⟩ := h; rfl)
    | (obtain ⟨_, _, _, _, _, _, rfl, _⟩ := h; rfl)
    | (obtain ⟨_, _, _, _, _, _, _, rfl, _⟩ := h; rfl)
    | (obtain ⟨_, _, _, _, _, _, _, _, rfl, _⟩ := h; rfl)
    | (obtain ⟨_, _, _, _, _, _, _, _, _, rfl, _⟩ := h; rfl)
theorem len__law_all_points : ∀ ws cs Q E, sl__law_all_points ws cs Q E → ws.length = 2 := by
  intro ws cs Q E h
  have h := h
  first
    | (obtain ⟨rfl, _⟩ := h; rfl)
    | (obtain ⟨_, rfl, _⟩ := h; rfl)
    | (obtain ⟨_, _, rfl, _⟩ := h; rfl)
    | (obtain ⟨_, _, _, rfl, _⟩ := h; rfl)
    | (obtain ⟨_, _, _, _, rfl, _⟩ := h; rfl)
    | (obtain ⟨_, _, _, _, _, rfl, _⟩ := h; rfl)
    | (obtain ⟨_, _, _, _, _, _, rfl, _⟩ := h; rfl)
    | (obtain ⟨_, _, _, _, _, _, _, rfl, _⟩ := h; rfl)
    | (obtain ⟨_, _, _, _, _, _, _, _, rfl, _⟩ := h; rfl)
    | (obtain ⟨_, _, _, _, _, _, _, _, _, rfl, _⟩ := h; rfl)
theorem len_Hierarchy_is_at_or_below : ∀ ws cs Q E, sl_Hierarchy_is_at_or_below ws cs Q E → ws.length = 3 := by
  intro ws cs Q E h
  have h := h
  first
    | (obtain ⟨rfl, _⟩ := h; rfl)
    | (obtain ⟨_, rfl, _⟩ := h; rfl)
    | (obtain ⟨_, _, rfl, _⟩ := h; rfl)
    | (obtain ⟨_, _, _, rfl, _⟩ := h; rfl)
    | (obtain ⟨_, _, _, _, rfl, _⟩ := h; rfl)
    | (obtain ⟨_, _, _, _, _, rfl, _⟩ := h; rfl)
    | (obtain ⟨_, _, _, _, _, _, rfl, _⟩ := h; rfl)
    | (obtain ⟨_, _, _, _, _, _, _, rfl, _⟩ := h; rfl)
    | (obtain ⟨_, _, _, _, _, _, _, _, rfl, _⟩ := h; rfl)
    | (obtain ⟨_, _, _, _, _, _, _, _, _, rfl, _⟩ := h; rfl)
theorem len_lies_at_or_below : ∀ ws cs Q E, sl_lies_at_or_below ws cs Q E → ws.length = 3 := by
  intro ws cs Q E h
  have h := h
  first
    | (obtain ⟨rfl, _⟩ := h; rfl)
    | (obtain ⟨_, rfl, _⟩ := h; rfl)
    | (obtain ⟨_, _, rfl, _⟩ := h; rfl)
    | (obtain ⟨_, _, _, rfl, _⟩ := h; rfl)
    | (obtain ⟨_, _, _, _, rfl, _⟩ := h; rfl)
    | (obtain ⟨_, _, _, _, _, rfl, _⟩ := h; rfl)
    | (obtain ⟨_, _, _, _, _, _, rfl, _⟩ := h; rfl)
    | (obtain ⟨_, _, _, _, _, _, _, rfl, _⟩ := h; rfl)
    | (obtain ⟨_, _, _, _, _, _, _, _, rfl, _⟩ := h; rfl)
    | (obtain ⟨_, _, _, _, _, _, _, _, _, rfl, _⟩ := h; rfl)
theorem len_is_point_at_or_below : ∀ ws cs Q E, sl_is_point_at_or_below ws cs Q E → ws.length = 3 := by
  intro ws cs Q E h
  have h := h
  first
    | (obtain ⟨rfl, _⟩ := h; rfl)
    | (obtain ⟨_, rfl, _⟩ := h; rfl)
    | (obtain ⟨_, _, rfl, _⟩ := h; rfl)
    | (obtain ⟨_, _, _, rfl, _⟩ := h; rfl)
    | (obtain ⟨_, _, _, _, rfl, _⟩ := h; rfl)
    | (obtain ⟨_, _, _, _, _, rfl, _⟩ := h; rfl)
    | (obtain ⟨_, _, _, _, _, _, rfl, _⟩ := h; rfl)
    | (obtain ⟨_, _, _, _, _, _, _, rfl, _⟩ := h; rfl)
    | (obtain ⟨_, _, _, _, _, _, _, _, rfl, _⟩ := h; rfl)
    | (obtain ⟨_, _, _, _, _, _, _, _, _, rfl, _⟩ := h; rfl)
theorem len__law_sizes : ∀ ws cs Q E, sl__law_sizes ws cs Q E → ws.length = 1 := by
  intro ws cs Q E h
  have h := h
  first
    | (obtain ⟨rfl, _⟩ := h; rfl)
    | (obtain ⟨_, rfl, _⟩ := h; rfl)
    | (obtain ⟨_, _, rfl, _⟩ := h; rfl)
    | (obtain ⟨_, _, _, rfl, _⟩ := h; rfl)
    | (obtain ⟨_, _, _, _, rfl, _⟩ := h; rfl)
    | (obtain ⟨_, _, _, _, _, rfl, _⟩ := h; rfl)
    | (obtain ⟨_, _, _, _, _, _, rfl, _⟩ := h; rfl)
    | (obtain ⟨_, _, _, _, _, _, _, rfl, _⟩ := h; rfl)
    | (obtain ⟨_, _, _, _, _, _, _, _, rfl, _⟩ := h; rfl)
    | (obtain ⟨_, _, _, _, _, _, _, _, _, rfl, _⟩ := h; rfl)
end DH
namespace K22
open PySem PySem.Spec L2 DL DH
/-- the points of a count -/
def ptsP (R : List DH.Row) (m : Nat) : List (List Str) := prodL (List.replicate m (namesR R))
def sl__law_row_right : DSpec := fun ws cs Q E => ∃ R m o i, ws = [.d (hier R), .c 0, .d (.lst ((ptsP R m).map tupS)), .d (.int (i : Nat))] ∧ cs = [.dct (sd (upsD R)) o] ∧ RowsOk R ∧ R.length ≤ 8 ∧ 1 ≤ m ∧ m ≤ 3 ∧ i < (ptsP R m).length ∧ Q (.d (.bl true)) cs
def sp__law_row_right : DSpec := loc sl__law_row_right
def sl_law : DSpec := fun ws cs Q E => ∃ ns, ws = [.d (.scr ns)] ∧ cs = [] ∧ ns.length ≤ 63 ∧ ∀ cs', Q (.d (.bl true)) cs'
def sp_law : DSpec := loc sl_law
end K22
namespace K22
open PySem PySem.Spec L2 DL
abbrev N__law_row_right : List Str := ["_law_world", "_law_ups_here", "_law_spots", "_law_place", "_law_first", "_law_other", "_law_second", "_law_told", "_law_back"]
/-- _law_row_right(_law_world, _law_ups_here, _law_spots, _law_place): slots 0=_law_world 1=_law_ups_here 2=_law_spots 3=_law_place 4=_law_first 5=_law_other 6=_law_second 7=_law_told 8=_law_back -/
def t__law_row_right : DS :=
  dSeq (dAsg (dOp2 oIx (dVar 2) (dVar 3)) (dgName 4))
  (dSeq (dFor (diEnumA (dCons (dVar 2) (dNil))) (dgTup 2 (dgCons (dgName 5) (dgCons (dgName 6) (dgNil)))) (gcS (dSeq (dPar 7 8 (dCons (dCall DH.sp_is_point_at_or_below 3 0 (fun us _ => us) (dCons (dVar 0) (dCons (dVar 4) (dCons (dVar 6) (dNil)))) dNil) (dCons (dCall DH.sp_is_point_at_or_below 3 0 (fun us _ => us) (dCons (dVar 0) (dCons (dVar 6) (dCons (dVar 4) (dNil)))) dNil) (dNil))))
  (dSeq (dIfS (dTest (dOp2 (oEq true) (dOpN oRepr (dCons (dVar 7) (dNil))) (dOpN oRepr (dCons (dCall DH.sp__law_is_under 3 0 (fun us _ => us) (dCons (dVar 1) (dCons (dVar 4) (dCons (dVar 6) (dNil)))) dNil) (dNil))))) (dRet (dC (.bl false))) (dNext))
  (dSeq (dIfS (dOr (dAnd (dTest (dOp2 (oEq false) (dVar 4) (dVar 6))) (dTest (dOp2 (oIsBl true) (dVar 7) (dC (.bl true))))) (dAnd (dTest (dOp2 (oEq true) (dVar 4) (dVar 6))) (dAnd (dTest (dVar 7)) (dTest (dVar 8))))) (dRet (dC (.bl false))) (dNext))
  (dIfS (dAnd (dTest (dVar 7)) (dTest (dOp2 oGt (dVar 5) (dVar 3)))) (dRet (dC (.bl false))) (dNext)))))))
  (dRet (dC (.bl true))))
abbrev N_law : List Str := ["_law_script", "_law_k", "_law_pot_here", "_law_most", "_law_many", "_law_rows", "_law_world", "_law_ups_here", "_law_spots", "_law_place"]
/-- law(_law_script): slots 0=_law_script 1=_law_k 2=_law_pot_here 3=_law_most 4=_law_many 5=_law_rows 6=_law_world 7=_law_ups_here 8=_law_spots 9=_law_place -/
def t_law : DS :=
  dSeq (dFor (diRange1 (dCons (dOpN (oInt2 fun i j => .int (if j > i then j else i)) (dCons (dC (.int 1)) (dCons (dOpN (oInt2 fun i j => .int (if j < i then j else i)) (dCons (dC (.int 3)) (dCons (dOpN oLen (dCons (dVar 0) (dNil))) (dNil)))) (dNil)))) (dNil))) (dgName 1) (gcS (dSeq (dAsg (dCall DH.sp__law_pot 2 0 (fun us _ => us) (dCons (dVar 0) (dCons (dVar 1) (dNil))) dNil) (dgName 2))
  (dSeq (dAsg (dCall DH.sp__law_sizes 1 0 (fun us _ => us) (dCons (dVar 2) (dNil)) dNil) (dgTup 2 (dgCons (dgName 3) (dgCons (dgName 4) (dgNil)))))
  (dSeq (dAsg (dCall DH.sp__law_kinds 2 0 (fun us _ => us) (dCons (dVar 2) (dCons (dVar 3) (dNil))) dNil) (dgName 5))
  (dSeq (dPar3 6 7 8 (dCons (dFix (dMake 0 2 DH.sp_Hierarchy_init 1 0 (fun us _ => us ++ []) (dCons (dVar 5) (dNil)) dNil)) (dCons (dCall DH.sp__law_ups 1 0 (fun us _ => us) (dCons (dVar 5) (dNil)) dNil) (dCons (dCall DH.sp__law_all_points 2 0 (fun us _ => us) (dCons (dVar 5) (dCons (dVar 4) (dNil))) dNil) (dNil)))))
  (dSeq (dIfS (dTest (dOp2 (oEq true) (dCall DH.sp_all_points 2 0 (fun us _ => us) (dCons (dVar 6) (dCons (dVar 4) (dNil))) dNil) (dVar 8))) (dRet (dC (.bl false))) (dNext))
  (dIfS (dNot (dTest (dOpN (oBools fun bs => bs.all id) (dCons (dLc (diRange1 (dCons (dOpN oLen (dCons (dVar 8) (dNil))) (dNil))) (dgName 9) (dYes) (dCall sp__law_row_right 4 0 (fun us _ => us) (dCons (dVar 6) (dCons (dVar 7) (dCons (dVar 8) (dCons (dVar 9) (dNil))))) dNil) [9]) (dNil))))) (dRet (dC (.bl false))) (dNext)))))))))
  (dRet (dC (.bl true)))
end K22
namespace K22
open PySem PySem.Spec L2 DL DH
theorem pts_ok {R : List DH.Row} {m : Nat} : ∀ q ∈ ptsP R m, PtOk R m q := fun q hq => all_mem hq
theorem pts_len {R : List DH.Row} {m : Nat} (hl : R.length ≤ 8) (h3 : m ≤ 3) : (ptsP R m).length ≤ 8000 := by
  have := prodL_small (L := List.replicate m (namesR R)) (fun l hl2 => by obtain ⟨-, rfl⟩ := List.mem_replicate.mp hl2; simp [namesR]; omega) (by simp; omega) m
  rw [List.take_of_length_le (by simp)] at this
  exact this
theorem r_a {R : List DH.Row} {xs : List DL.D} {p : List Str} {i : Nat} {c : Cell} {D : DEnds} (hi : xs[i]? = some (tupS p)) (h : D.nx [some (.d (hier R)), some (.c 0), some (.d (.lst xs)), some (.d (.int i)), some (.d (tupS p)), none, none, none, none] [c]) :
    (dAsg (dOp2 oIx (dVar 2) (dVar 3)) (dgName 4)) D [some (.d (hier R)), some (.c 0), some (.d (.lst xs)), some (.d (.int i)), none, none, none, none, none] [c] := by
  have e : atI xs i = some (tupS p) := by
    obtain ⟨x, e1, e2⟩ := atI_lt (xs := xs) (k := i) (by omega) (by have := (List.getElem?_eq_some_iff.mp hi).1; omega)
    simp at e2
    rw [hi] at e2; cases e2
    exact e1
  simp [dSeq, dIfS, dAsg, dIf, dTest, dOp2, dOp1, dOpN, dVar, dC, dCons, dNil, dgName, dRet, dRetN, dDrop, dNext, dLst, dTup, startE, endsD, oI, oInt1, oInt2, oNeg, oIs, oDivmod, dAnd, dOr, dNot, dAndV, dOrV, dNotV, dgSub, dgTup, dgCons, dgNil, oSetL, dPar, dPar3, dFor, diRange1, diRange2, dLc, dCall, dBM, isT, dSl, dP, dNoP, oEq, dChain, oRepr, oIsi, oBools, retD_d, isTy, dDict0, dDict, dPairs, isFl, isFls, isPy, isPys, isPyKV, look_d, look_c, lookC_lst, lookC_dct, lookC_frz, itM_some, oIx_v, ixV_lst, ixV_tup, ixV_scr, ixV_str, oAdd_v, addV_int, addV_str, addV_tup, addV_lst, oMul_v, mulV_int, mulV_lst, oLen_v, lenV_str, lenV_lst, lenV_tup, lenV_scr, oSl_v, slV_str, slV_tup, slV_lst, oIn_v, inV_lst, inV_tup, inV_sign, diSeq_v, seqV_lst, seqV_tup, seqV_str, fixW_d, fixW_c, fixV_frz, fixV_lst, fixV_dct, fixAll_nil, fixAll_cons, gcS, gcK, fixEnv_nil, fixEnv_none, fixEnv_d, fixEnv_c, fixEnv_tp, fixEnv_dead, fixEnv_sl, poison_sl, fixC, poison, poisonC_lst, poisonC_dct, poisonC_frz, poisonC_obj, dropTo0, dropTo1, dropTo2, dropTo3, dropTo4, dropTo5, dropTo6, madeQ, dMake, dMeth, DL.isObj, dFld, fldW, dCon, dSetF, fixO, frzS, diDK, diDP, keepD, oIxD, oInD, oLenD, oListK, oSetD, oPopAt, oIsiT, oInS, oTupleOf, oListOf, sd_inj, refsC_pc, toLocC_pc, unLocC_pc, poisonC_pc, diEnumA, enumV_lst, enumV_tup, dFix, dRev, oClear, dLc2, e]
  exact h
theorem r_b {R : List DH.Row} {m : Nat} {p q : List Str} {xs : List DL.D} {i j : Nat} {s7 s8 : Option W} {c : Cell} {D : DEnds} (hR : RowsOk R) (hp : PtOk R m p) (hq : PtOk R m q) (h1 : 1 ≤ m) (h3 : m ≤ 3)
    (h : D.nx [some (.d (hier R)), some (.c 0), some (.d (.lst xs)), some (.d (.int i)), some (.d (tupS p)), some (.d (.int j)), some (.d (tupS q)), some (.d (.bl (liesB R p q))), some (.d (.bl (liesB R q p)))] [c]) :
    (dPar 7 8 (dCons (dCall DH.sp_is_point_at_or_below 3 0 (fun us _ => us) (dCons (dVar 0) (dCons (dVar 4) (dCons (dVar 6) (dNil)))) dNil) (dCons (dCall DH.sp_is_point_at_or_below 3 0 (fun us _ => us) (dCons (dVar 0) (dCons (dVar 6) (dCons (dVar 4) (dNil)))) dNil) (dNil)))) D [some (.d (hier R)), some (.c 0), some (.d (.lst xs)), some (.d (.int i)), some (.d (tupS p)), some (.d (.int j)), some (.d (tupS q)), s7, s8] [c] := by
  simp [dSeq, dIfS, dAsg, dIf, dTest, dOp2, dOp1, dOpN, dVar, dC, dCons, dNil, dgName, dRet, dRetN, dDrop, dNext, dLst, dTup, startE, endsD, oI, oInt1, oInt2, oNeg, oIs, oDivmod, dAnd, dOr, dNot, dAndV, dOrV, dNotV, dgSub, dgTup, dgCons, dgNil, oSetL, dPar, dPar3, dFor, diRange1, diRange2, dLc, dCall, dBM, isT, dSl, dP, dNoP, oEq, dChain, oRepr, oIsi, oBools, retD_d, isTy, dDict0, dDict, dPairs, isFl, isFls, isPy, isPys, isPyKV, look_d, look_c, lookC_lst, lookC_dct, lookC_frz, itM_some, oIx_v, ixV_lst, ixV_tup, ixV_scr, ixV_str, oAdd_v, addV_int, addV_str, addV_tup, addV_lst, oMul_v, mulV_int, mulV_lst, oLen_v, lenV_str, lenV_lst, lenV_tup, lenV_scr, oSl_v, slV_str, slV_tup, slV_lst, oIn_v, inV_lst, inV_tup, inV_sign, diSeq_v, seqV_lst, seqV_tup, seqV_str, fixW_d, fixW_c, fixV_frz, fixV_lst, fixV_dct, fixAll_nil, fixAll_cons, gcS, gcK, fixEnv_nil, fixEnv_none, fixEnv_d, fixEnv_c, fixEnv_tp, fixEnv_dead, fixEnv_sl, poison_sl, fixC, poison, poisonC_lst, poisonC_dct, poisonC_frz, poisonC_obj, dropTo0, dropTo1, dropTo2, dropTo3, dropTo4, dropTo5, dropTo6, madeQ, dMake, dMeth, DL.isObj, dFld, fldW, dCon, dSetF, fixO, frzS, diDK, diDP, keepD, oIxD, oInD, oLenD, oListK, oSetD, oPopAt, oIsiT, oInS, oTupleOf, oListOf, sd_inj, refsC_pc, toLocC_pc, unLocC_pc, poisonC_pc, diEnumA, enumV_lst, enumV_tup, dFix, dRev, oClear, dLc2]
  refine ipb0 hR hp hq h1 h3 ?_
  refine ipb0 hR hq hp h1 h3 ?_
  exact h
theorem r_c {R : List DH.Row} {m : Nat} {p q : List Str} {xs : List DL.D} {i j : Nat} {b : Bool} {o : Obj} {D : DEnds} (hR : RowsOk R) (hp : PtOk R m p) (h3 : m ≤ 3)
    (h : D.nx [some (.d (hier R)), some (.c 0), some (.d (.lst xs)), some (.d (.int i)), some (.d (tupS p)), some (.d (.int j)), some (.d (tupS q)), some (.d (.bl (liesB R p q))), some (.d (.bl b))] [.dct (sd (upsD R)) o]) :
    (dIfS (dTest (dOp2 (oEq true) (dOpN oRepr (dCons (dVar 7) (dNil))) (dOpN oRepr (dCons (dCall DH.sp__law_is_under 3 0 (fun us _ => us) (dCons (dVar 1) (dCons (dVar 4) (dCons (dVar 6) (dNil)))) dNil) (dNil))))) (dRet (dC (.bl false))) (dNext)) D [some (.d (hier R)), some (.c 0), some (.d (.lst xs)), some (.d (.int i)), some (.d (tupS p)), some (.d (.int j)), some (.d (tupS q)), some (.d (.bl (liesB R p q))), some (.d (.bl b))] [.dct (sd (upsD R)) o] := by
  simp [dSeq, dIfS, dAsg, dIf, dTest, dOp2, dOp1, dOpN, dVar, dC, dCons, dNil, dgName, dRet, dRetN, dDrop, dNext, dLst, dTup, startE, endsD, oI, oInt1, oInt2, oNeg, oIs, oDivmod, dAnd, dOr, dNot, dAndV, dOrV, dNotV, dgSub, dgTup, dgCons, dgNil, oSetL, dPar, dPar3, dFor, diRange1, diRange2, dLc, dCall, dBM, isT, dSl, dP, dNoP, oEq, dChain, oRepr, oIsi, oBools, retD_d, isTy, dDict0, dDict, dPairs, isFl, isFls, isPy, isPys, isPyKV, look_d, look_c, lookC_lst, lookC_dct, lookC_frz, itM_some, oIx_v, ixV_lst, ixV_tup, ixV_scr, ixV_str, oAdd_v, addV_int, addV_str, addV_tup, addV_lst, oMul_v, mulV_int, mulV_lst, oLen_v, lenV_str, lenV_lst, lenV_tup, lenV_scr, oSl_v, slV_str, slV_tup, slV_lst, oIn_v, inV_lst, inV_tup, inV_sign, diSeq_v, seqV_lst, seqV_tup, seqV_str, fixW_d, fixW_c, fixV_frz, fixV_lst, fixV_dct, fixAll_nil, fixAll_cons, gcS, gcK, fixEnv_nil, fixEnv_none, fixEnv_d, fixEnv_c, fixEnv_tp, fixEnv_dead, fixEnv_sl, poison_sl, fixC, poison, poisonC_lst, poisonC_dct, poisonC_frz, poisonC_obj, dropTo0, dropTo1, dropTo2, dropTo3, dropTo4, dropTo5, dropTo6, madeQ, dMake, dMeth, DL.isObj, dFld, fldW, dCon, dSetF, fixO, frzS, diDK, diDP, keepD, oIxD, oInD, oLenD, oListK, oSetD, oPopAt, oIsiT, oInS, oTupleOf, oListOf, sd_inj, refsC_pc, toLocC_pc, unLocC_pc, poisonC_pc, diEnumA, enumV_lst, enumV_tup, dFix, dRev, oClear, dLc2]
  have sz := sz6
  have gb := sm_bl (liesB R p q)
  have gd := gb.dp
  have gl := gb.ln
  refine ⟨gb.sh, by omega, by omega, under_at rfl hp.2 (by rw [hp.1]; exact h3) ?_⟩
  rw [under_lies hR hp.2]
  generalize liesB R p q = B at gb gd gl h ⊢
  simp [dSeq, dIfS, dAsg, dIf, dTest, dOp2, dOp1, dOpN, dVar, dC, dCons, dNil, dgName, dRet, dRetN, dDrop, dNext, dLst, dTup, startE, endsD, oI, oInt1, oInt2, oNeg, oIs, oDivmod, dAnd, dOr, dNot, dAndV, dOrV, dNotV, dgSub, dgTup, dgCons, dgNil, oSetL, dPar, dPar3, dFor, diRange1, diRange2, dLc, dCall, dBM, isT, dSl, dP, dNoP, oEq, dChain, oRepr, oIsi, oBools, retD_d, isTy, dDict0, dDict, dPairs, isFl, isFls, isPy, isPys, isPyKV, look_d, look_c, lookC_lst, lookC_dct, lookC_frz, itM_some, oIx_v, ixV_lst, ixV_tup, ixV_scr, ixV_str, oAdd_v, addV_int, addV_str, addV_tup, addV_lst, oMul_v, mulV_int, mulV_lst, oLen_v, lenV_str, lenV_lst, lenV_tup, lenV_scr, oSl_v, slV_str, slV_tup, slV_lst, oIn_v, inV_lst, inV_tup, inV_sign, diSeq_v, seqV_lst, seqV_tup, seqV_str, fixW_d, fixW_c, fixV_frz, fixV_lst, fixV_dct, fixAll_nil, fixAll_cons, gcS, gcK, fixEnv_nil, fixEnv_none, fixEnv_d, fixEnv_c, fixEnv_tp, fixEnv_dead, fixEnv_sl, poison_sl, fixC, poison, poisonC_lst, poisonC_dct, poisonC_frz, poisonC_obj, dropTo0, dropTo1, dropTo2, dropTo3, dropTo4, dropTo5, dropTo6, madeQ, dMake, dMeth, DL.isObj, dFld, fldW, dCon, dSetF, fixO, frzS, diDK, diDP, keepD, oIxD, oInD, oLenD, oListK, oSetD, oPopAt, oIsiT, oInS, oTupleOf, oListOf, sd_inj, refsC_pc, toLocC_pc, unLocC_pc, poisonC_pc, diEnumA, enumV_lst, enumV_tup, dFix, dRev, oClear, dLc2]
  exact ⟨gb.sh, by omega, by omega, h⟩
theorem r_d {R : List DH.Row} {m : Nat} {p q : List Str} {xs : List DL.D} {i j : Nat} {c : Cell} {D : DEnds} (hR : RowsOk R) (hp : PtOk R m p) (hq : PtOk R m q)
    (h : D.nx [some (.d (hier R)), some (.c 0), some (.d (.lst xs)), some (.d (.int i)), some (.d (tupS p)), some (.d (.int j)), some (.d (tupS q)), some (.d (.bl (liesB R p q))), some (.d (.bl (liesB R q p)))] [c]) :
    (dIfS (dOr (dAnd (dTest (dOp2 (oEq false) (dVar 4) (dVar 6))) (dTest (dOp2 (oIsBl true) (dVar 7) (dC (.bl true))))) (dAnd (dTest (dOp2 (oEq true) (dVar 4) (dVar 6))) (dAnd (dTest (dVar 7)) (dTest (dVar 8))))) (dRet (dC (.bl false))) (dNext)) D [some (.d (hier R)), some (.c 0), some (.d (.lst xs)), some (.d (.int i)), some (.d (tupS p)), some (.d (.int j)), some (.d (tupS q)), some (.d (.bl (liesB R p q))), some (.d (.bl (liesB R q p)))] [c] := by
  have d1 := dep_tupS p
  have d2 := dep_tupS q
  have f1 := fl_tupS p
  have f2 := fl_tupS q
  have f3 := eqv_tupS p q
  have hx : p = q → liesB R p q = true := fun e => e ▸ lies_refl hR hp.2
  have hy : liesB R p q = true → liesB R q p = true → p = q := lies_anti hR (by rw [hp.1, hq.1]) hp.2 hq.2
  generalize liesB R p q = b1 at hx hy h ⊢
  generalize liesB R q p = b2 at hy h ⊢
  generalize tupS p = P at d1 f1 f3 h ⊢
  generalize tupS q = Q at d2 f2 f3 h ⊢
  have d3 : min (py P).depth (py Q).depth ≤ 60 := by omega
  simp [dSeq, dIfS, dAsg, dIf, dTest, dOp2, dOp1, dOpN, dVar, dC, dCons, dNil, dgName, dRet, dRetN, dDrop, dNext, dLst, dTup, startE, endsD, oI, oInt1, oInt2, oNeg, oIs, oDivmod, dAnd, dOr, dNot, dAndV, dOrV, dNotV, dgSub, dgTup, dgCons, dgNil, oSetL, dPar, dPar3, dFor, diRange1, diRange2, dLc, dCall, dBM, isT, dSl, dP, dNoP, oEq, dChain, oRepr, oIsi, oBools, retD_d, isTy, dDict0, dDict, dPairs, isFl, isFls, isPy, isPys, isPyKV, look_d, look_c, lookC_lst, lookC_dct, lookC_frz, itM_some, oIx_v, ixV_lst, ixV_tup, ixV_scr, ixV_str, oAdd_v, addV_int, addV_str, addV_tup, addV_lst, oMul_v, mulV_int, mulV_lst, oLen_v, lenV_str, lenV_lst, lenV_tup, lenV_scr, oSl_v, slV_str, slV_tup, slV_lst, oIn_v, inV_lst, inV_tup, inV_sign, diSeq_v, seqV_lst, seqV_tup, seqV_str, fixW_d, fixW_c, fixV_frz, fixV_lst, fixV_dct, fixAll_nil, fixAll_cons, gcS, gcK, fixEnv_nil, fixEnv_none, fixEnv_d, fixEnv_c, fixEnv_tp, fixEnv_dead, fixEnv_sl, poison_sl, fixC, poison, poisonC_lst, poisonC_dct, poisonC_frz, poisonC_obj, dropTo0, dropTo1, dropTo2, dropTo3, dropTo4, dropTo5, dropTo6, madeQ, dMake, dMeth, DL.isObj, dFld, fldW, dCon, dSetF, fixO, frzS, diDK, diDP, keepD, oIxD, oInD, oLenD, oListK, oSetD, oPopAt, oIsiT, oInS, oTupleOf, oListOf, sd_inj, refsC_pc, toLocC_pc, unLocC_pc, poisonC_pc, diEnumA, enumV_lst, enumV_tup, dFix, dRev, oClear, dLc2, f1, f2, f3, d3]
  by_cases e : p = q
  · rw [hx e] at h ⊢
    simp [dSeq, dIfS, dAsg, dIf, dTest, dOp2, dOp1, dOpN, dVar, dC, dCons, dNil, dgName, dRet, dRetN, dDrop, dNext, dLst, dTup, startE, endsD, oI, oInt1, oInt2, oNeg, oIs, oDivmod, dAnd, dOr, dNot, dAndV, dOrV, dNotV, dgSub, dgTup, dgCons, dgNil, oSetL, dPar, dPar3, dFor, diRange1, diRange2, dLc, dCall, dBM, isT, dSl, dP, dNoP, oEq, dChain, oRepr, oIsi, oBools, retD_d, isTy, dDict0, dDict, dPairs, isFl, isFls, isPy, isPys, isPyKV, look_d, look_c, lookC_lst, lookC_dct, lookC_frz, itM_some, oIx_v, ixV_lst, ixV_tup, ixV_scr, ixV_str, oAdd_v, addV_int, addV_str, addV_tup, addV_lst, oMul_v, mulV_int, mulV_lst, oLen_v, lenV_str, lenV_lst, lenV_tup, lenV_scr, oSl_v, slV_str, slV_tup, slV_lst, oIn_v, inV_lst, inV_tup, inV_sign, diSeq_v, seqV_lst, seqV_tup, seqV_str, fixW_d, fixW_c, fixV_frz, fixV_lst, fixV_dct, fixAll_nil, fixAll_cons, gcS, gcK, fixEnv_nil, fixEnv_none, fixEnv_d, fixEnv_c, fixEnv_tp, fixEnv_dead, fixEnv_sl, poison_sl, fixC, poison, poisonC_lst, poisonC_dct, poisonC_frz, poisonC_obj, dropTo0, dropTo1, dropTo2, dropTo3, dropTo4, dropTo5, dropTo6, madeQ, dMake, dMeth, DL.isObj, dFld, fldW, dCon, dSetF, fixO, frzS, diDK, diDP, keepD, oIxD, oInD, oLenD, oListK, oSetD, oPopAt, oIsiT, oInS, oTupleOf, oListOf, sd_inj, refsC_pc, toLocC_pc, unLocC_pc, poisonC_pc, diEnumA, enumV_lst, enumV_tup, dFix, dRev, oClear, dLc2, e]
    exact h
  · cases b1
    · simp [dSeq, dIfS, dAsg, dIf, dTest, dOp2, dOp1, dOpN, dVar, dC, dCons, dNil, dgName, dRet, dRetN, dDrop, dNext, dLst, dTup, startE, endsD, oI, oInt1, oInt2, oNeg, oIs, oDivmod, dAnd, dOr, dNot, dAndV, dOrV, dNotV, dgSub, dgTup, dgCons, dgNil, oSetL, dPar, dPar3, dFor, diRange1, diRange2, dLc, dCall, dBM, isT, dSl, dP, dNoP, oEq, dChain, oRepr, oIsi, oBools, retD_d, isTy, dDict0, dDict, dPairs, isFl, isFls, isPy, isPys, isPyKV, look_d, look_c, lookC_lst, lookC_dct, lookC_frz, itM_some, oIx_v, ixV_lst, ixV_tup, ixV_scr, ixV_str, oAdd_v, addV_int, addV_str, addV_tup, addV_lst, oMul_v, mulV_int, mulV_lst, oLen_v, lenV_str, lenV_lst, lenV_tup, lenV_scr, oSl_v, slV_str, slV_tup, slV_lst, oIn_v, inV_lst, inV_tup, inV_sign, diSeq_v, seqV_lst, seqV_tup, seqV_str, fixW_d, fixW_c, fixV_frz, fixV_lst, fixV_dct, fixAll_nil, fixAll_cons, gcS, gcK, fixEnv_nil, fixEnv_none, fixEnv_d, fixEnv_c, fixEnv_tp, fixEnv_dead, fixEnv_sl, poison_sl, fixC, poison, poisonC_lst, poisonC_dct, poisonC_frz, poisonC_obj, dropTo0, dropTo1, dropTo2, dropTo3, dropTo4, dropTo5, dropTo6, madeQ, dMake, dMeth, DL.isObj, dFld, fldW, dCon, dSetF, fixO, frzS, diDK, diDP, keepD, oIxD, oInD, oLenD, oListK, oSetD, oPopAt, oIsiT, oInS, oTupleOf, oListOf, sd_inj, refsC_pc, toLocC_pc, unLocC_pc, poisonC_pc, diEnumA, enumV_lst, enumV_tup, dFix, dRev, oClear, dLc2, e]
      exact h
    · cases b2
      · simp [dSeq, dIfS, dAsg, dIf, dTest, dOp2, dOp1, dOpN, dVar, dC, dCons, dNil, dgName, dRet, dRetN, dDrop, dNext, dLst, dTup, startE, endsD, oI, oInt1, oInt2, oNeg, oIs, oDivmod, dAnd, dOr, dNot, dAndV, dOrV, dNotV, dgSub, dgTup, dgCons, dgNil, oSetL, dPar, dPar3, dFor, diRange1, diRange2, dLc, dCall, dBM, isT, dSl, dP, dNoP, oEq, dChain, oRepr, oIsi, oBools, retD_d, isTy, dDict0, dDict, dPairs, isFl, isFls, isPy, isPys, isPyKV, look_d, look_c, lookC_lst, lookC_dct, lookC_frz, itM_some, oIx_v, ixV_lst, ixV_tup, ixV_scr, ixV_str, oAdd_v, addV_int, addV_str, addV_tup, addV_lst, oMul_v, mulV_int, mulV_lst, oLen_v, lenV_str, lenV_lst, lenV_tup, lenV_scr, oSl_v, slV_str, slV_tup, slV_lst, oIn_v, inV_lst, inV_tup, inV_sign, diSeq_v, seqV_lst, seqV_tup, seqV_str, fixW_d, fixW_c, fixV_frz, fixV_lst, fixV_dct, fixAll_nil, fixAll_cons, gcS, gcK, fixEnv_nil, fixEnv_none, fixEnv_d, fixEnv_c, fixEnv_tp, fixEnv_dead, fixEnv_sl, poison_sl, fixC, poison, poisonC_lst, poisonC_dct, poisonC_frz, poisonC_obj, dropTo0, dropTo1, dropTo2, dropTo3, dropTo4, dropTo5, dropTo6, madeQ, dMake, dMeth, DL.isObj, dFld, fldW, dCon, dSetF, fixO, frzS, diDK, diDP, keepD, oIxD, oInD, oLenD, oListK, oSetD, oPopAt, oIsiT, oInS, oTupleOf, oListOf, sd_inj, refsC_pc, toLocC_pc, unLocC_pc, poisonC_pc, diEnumA, enumV_lst, enumV_tup, dFix, dRev, oClear, dLc2, e]
        exact h
      · exact absurd (hy rfl rfl) e
theorem r_e {R : List DH.Row} {xs : List DL.D} {P Q : DL.D} {i j : Nat} {b b2 : Bool} {c : Cell} {D : DEnds} (hb : i < j → b = false)
    (h : D.nx [some (.d (hier R)), some (.c 0), some (.d (.lst xs)), some (.d (.int i)), some (.d P), some (.d (.int j)), some (.d Q), some (.d (.bl b)), some (.d (.bl b2))] [c]) :
    (dIfS (dAnd (dTest (dVar 7)) (dTest (dOp2 oGt (dVar 5) (dVar 3)))) (dRet (dC (.bl false))) (dNext)) D [some (.d (hier R)), some (.c 0), some (.d (.lst xs)), some (.d (.int i)), some (.d P), some (.d (.int j)), some (.d Q), some (.d (.bl b)), some (.d (.bl b2))] [c] := by
  simp [dSeq, dIfS, dAsg, dIf, dTest, dOp2, dOp1, dOpN, dVar, dC, dCons, dNil, dgName, dRet, dRetN, dDrop, dNext, dLst, dTup, startE, endsD, oI, oInt1, oInt2, oNeg, oIs, oDivmod, dAnd, dOr, dNot, dAndV, dOrV, dNotV, dgSub, dgTup, dgCons, dgNil, oSetL, dPar, dPar3, dFor, diRange1, diRange2, dLc, dCall, dBM, isT, dSl, dP, dNoP, oEq, dChain, oRepr, oIsi, oBools, retD_d, isTy, dDict0, dDict, dPairs, isFl, isFls, isPy, isPys, isPyKV, look_d, look_c, lookC_lst, lookC_dct, lookC_frz, itM_some, oIx_v, ixV_lst, ixV_tup, ixV_scr, ixV_str, oAdd_v, addV_int, addV_str, addV_tup, addV_lst, oMul_v, mulV_int, mulV_lst, oLen_v, lenV_str, lenV_lst, lenV_tup, lenV_scr, oSl_v, slV_str, slV_tup, slV_lst, oIn_v, inV_lst, inV_tup, inV_sign, diSeq_v, seqV_lst, seqV_tup, seqV_str, fixW_d, fixW_c, fixV_frz, fixV_lst, fixV_dct, fixAll_nil, fixAll_cons, gcS, gcK, fixEnv_nil, fixEnv_none, fixEnv_d, fixEnv_c, fixEnv_tp, fixEnv_dead, fixEnv_sl, poison_sl, fixC, poison, poisonC_lst, poisonC_dct, poisonC_frz, poisonC_obj, dropTo0, dropTo1, dropTo2, dropTo3, dropTo4, dropTo5, dropTo6, madeQ, dMake, dMeth, DL.isObj, dFld, fldW, dCon, dSetF, fixO, frzS, diDK, diDP, keepD, oIxD, oInD, oLenD, oListK, oSetD, oPopAt, oIsiT, oInS, oTupleOf, oListOf, sd_inj, refsC_pc, toLocC_pc, unLocC_pc, poisonC_pc, diEnumA, enumV_lst, enumV_tup, dFix, dRev, oClear, dLc2]
  cases b
  · simp [dSeq, dIfS, dAsg, dIf, dTest, dOp2, dOp1, dOpN, dVar, dC, dCons, dNil, dgName, dRet, dRetN, dDrop, dNext, dLst, dTup, startE, endsD, oI, oInt1, oInt2, oNeg, oIs, oDivmod, dAnd, dOr, dNot, dAndV, dOrV, dNotV, dgSub, dgTup, dgCons, dgNil, oSetL, dPar, dPar3, dFor, diRange1, diRange2, dLc, dCall, dBM, isT, dSl, dP, dNoP, oEq, dChain, oRepr, oIsi, oBools, retD_d, isTy, dDict0, dDict, dPairs, isFl, isFls, isPy, isPys, isPyKV, look_d, look_c, lookC_lst, lookC_dct, lookC_frz, itM_some, oIx_v, ixV_lst, ixV_tup, ixV_scr, ixV_str, oAdd_v, addV_int, addV_str, addV_tup, addV_lst, oMul_v, mulV_int, mulV_lst, oLen_v, lenV_str, lenV_lst, lenV_tup, lenV_scr, oSl_v, slV_str, slV_tup, slV_lst, oIn_v, inV_lst, inV_tup, inV_sign, diSeq_v, seqV_lst, seqV_tup, seqV_str, fixW_d, fixW_c, fixV_frz, fixV_lst, fixV_dct, fixAll_nil, fixAll_cons, gcS, gcK, fixEnv_nil, fixEnv_none, fixEnv_d, fixEnv_c, fixEnv_tp, fixEnv_dead, fixEnv_sl, poison_sl, fixC, poison, poisonC_lst, poisonC_dct, poisonC_frz, poisonC_obj, dropTo0, dropTo1, dropTo2, dropTo3, dropTo4, dropTo5, dropTo6, madeQ, dMake, dMeth, DL.isObj, dFld, fldW, dCon, dSetF, fixO, frzS, diDK, diDP, keepD, oIxD, oInD, oLenD, oListK, oSetD, oPopAt, oIsiT, oInS, oTupleOf, oListOf, sd_inj, refsC_pc, toLocC_pc, unLocC_pc, poisonC_pc, diEnumA, enumV_lst, enumV_tup, dFix, dRev, oClear, dLc2]
    exact h
  · have : ¬ i < j := fun z => by cases hb z
    simp [dSeq, dIfS, dAsg, dIf, dTest, dOp2, dOp1, dOpN, dVar, dC, dCons, dNil, dgName, dRet, dRetN, dDrop, dNext, dLst, dTup, startE, endsD, oI, oInt1, oInt2, oNeg, oIs, oDivmod, dAnd, dOr, dNot, dAndV, dOrV, dNotV, dgSub, dgTup, dgCons, dgNil, oSetL, dPar, dPar3, dFor, diRange1, diRange2, dLc, dCall, dBM, isT, dSl, dP, dNoP, oEq, dChain, oRepr, oIsi, oBools, retD_d, isTy, dDict0, dDict, dPairs, isFl, isFls, isPy, isPys, isPyKV, look_d, look_c, lookC_lst, lookC_dct, lookC_frz, itM_some, oIx_v, ixV_lst, ixV_tup, ixV_scr, ixV_str, oAdd_v, addV_int, addV_str, addV_tup, addV_lst, oMul_v, mulV_int, mulV_lst, oLen_v, lenV_str, lenV_lst, lenV_tup, lenV_scr, oSl_v, slV_str, slV_tup, slV_lst, oIn_v, inV_lst, inV_tup, inV_sign, diSeq_v, seqV_lst, seqV_tup, seqV_str, fixW_d, fixW_c, fixV_frz, fixV_lst, fixV_dct, fixAll_nil, fixAll_cons, gcS, gcK, fixEnv_nil, fixEnv_none, fixEnv_d, fixEnv_c, fixEnv_tp, fixEnv_dead, fixEnv_sl, poison_sl, fixC, poison, poisonC_lst, poisonC_dct, poisonC_frz, poisonC_obj, dropTo0, dropTo1, dropTo2, dropTo3, dropTo4, dropTo5, dropTo6, madeQ, dMake, dMeth, DL.isObj, dFld, fldW, dCon, dSetF, fixO, frzS, diDK, diDP, keepD, oIxD, oInD, oLenD, oListK, oSetD, oPopAt, oIsiT, oInS, oTupleOf, oListOf, sd_inj, refsC_pc, toLocC_pc, unLocC_pc, poisonC_pc, diEnumA, enumV_lst, enumV_tup, dFix, dRev, oClear, dLc2, this]
    exact h
theorem p__law_row_right : ∀ ws cs Q E, sl__law_row_right ws cs Q E → t__law_row_right (endsD cs.length Q E) (startE N__law_row_right ws) cs := by
  rintro ws cs Q E ⟨R, m, o, i, rfl, rfl, hR, hl, h1, h3, hi, hq⟩
  have sz := sz6
  have hX := pts_ok (R := R) (m := m)
  have hO : ∀ {i j : Nat} {p q : List Str}, (ptsP R m)[i]? = some p → (ptsP R m)[j]? = some q → i < j → liesB R p q = false := fun a b c => lies_order hR a b c
  generalize ptsP R m = X at hi hX hO ⊢
  have hp0 : X[i]? = some X[i] := List.getElem?_eq_getElem hi
  generalize X[i] = p at hp0
  have hp := hX p (List.mem_of_getElem? hp0)
  refine r_a (p := p) (by rw [List.getElem?_map, hp0]; rfl) ?_
  simp only [dSeq]
  show forD _ _ _ _ _ _ _
  refine forD_inv (fun j env c => (∃ a b d e, env = [some (.d (hier R)), some (.c 0), some (.d (.lst (X.map tupS))), some (.d (.int i)), some (.d (tupS p)), slt a, slt b, slt d, slt e]) ∧ c = [.dct (sd (upsD R)) o]) (fun _ _ _ h => by obtain ⟨_, rfl⟩ := h; rfl) _ 0 _ _ ⟨⟨none, none, none, none, rfl⟩, rfl⟩ (fun j x hx env c hJ D' h1' h2' h3' h4' h5' => ?_) fun env c hJ => ?_
  · obtain ⟨⟨a, b, d, e, rfl⟩, rfl⟩ := hJ
    rw [pairUp_get, List.getElem?_map] at hx
    cases hy : X[j]? with
    | none => rw [hy] at hx; cases hx
    | some q =>
      rw [hy] at hx; cases hx
      have hq2 := hX q (List.mem_of_getElem? hy)
      clear h1' h2' h3' h5'
      simp only [Nat.zero_add]
      refine ⟨rfl, rfl, ?_⟩
      show dSeq _ _ _ _ _
      refine r_b hR hp hq2 h1 h3 (r_c hR hp h3 (r_d hR hp hq2 (r_e (fun z => hO hp0 hy z) ?_)))
      exact h4' _ _ ⟨⟨some _, some _, some _, some _, rfl⟩, rfl⟩
  · obtain ⟨⟨a, b, d, e, rfl⟩, rfl⟩ := hJ
    simp [dSeq, dIfS, dAsg, dIf, dTest, dOp2, dOp1, dOpN, dVar, dC, dCons, dNil, dgName, dRet, dRetN, dDrop, dNext, dLst, dTup, startE, endsD, oI, oInt1, oInt2, oNeg, oIs, oDivmod, dAnd, dOr, dNot, dAndV, dOrV, dNotV, dgSub, dgTup, dgCons, dgNil, oSetL, dPar, dPar3, dFor, diRange1, diRange2, dLc, dCall, dBM, isT, dSl, dP, dNoP, oEq, dChain, oRepr, oIsi, oBools, retD_d, isTy, dDict0, dDict, dPairs, isFl, isFls, isPy, isPys, isPyKV, look_d, look_c, lookC_lst, lookC_dct, lookC_frz, itM_some, oIx_v, ixV_lst, ixV_tup, ixV_scr, ixV_str, oAdd_v, addV_int, addV_str, addV_tup, addV_lst, oMul_v, mulV_int, mulV_lst, oLen_v, lenV_str, lenV_lst, lenV_tup, lenV_scr, oSl_v, slV_str, slV_tup, slV_lst, oIn_v, inV_lst, inV_tup, inV_sign, diSeq_v, seqV_lst, seqV_tup, seqV_str, fixW_d, fixW_c, fixV_frz, fixV_lst, fixV_dct, fixAll_nil, fixAll_cons, gcS, gcK, fixEnv_nil, fixEnv_none, fixEnv_d, fixEnv_c, fixEnv_tp, fixEnv_dead, fixEnv_sl, poison_sl, fixC, poison, poisonC_lst, poisonC_dct, poisonC_frz, poisonC_obj, dropTo0, dropTo1, dropTo2, dropTo3, dropTo4, dropTo5, dropTo6, madeQ, dMake, dMeth, DL.isObj, dFld, fldW, dCon, dSetF, fixO, frzS, diDK, diDP, keepD, oIxD, oInD, oLenD, oListK, oSetD, oPopAt, oIsiT, oInS, oTupleOf, oListOf, sd_inj, refsC_pc, toLocC_pc, unLocC_pc, poisonC_pc, diEnumA, enumV_lst, enumV_tup, dFix, dRev, oClear, dLc2]
    exact hq
end K22
namespace K22
open PySem PySem.Spec L2 DL DH
theorem refsC_new : refsC (.obj 0 [none, none]) = [] := rfl
theorem toLocC_new {js : List Nat} : toLocC js (.obj 0 [none, none]) = .obj 0 [none, none] := rfl
theorem ups_at {R : List DH.Row} {k : Nat} {g : Cs} {Q : DQ} {E : DX} (hk : g[k]? = some (.lst (R.map rowD))) (hR : RowsOk R) (hl : R.length ≤ 25) (h : ∀ o, Q (.c g.length) (g ++ [.dct (sd (upsD R)) o])) : sp__law_ups [.c k] g Q E := by
  have e : g.set k (.lst (R.map rowD)) = g := by
    obtain ⟨h1, h2⟩ := List.getElem?_eq_some_iff.mp hk
    rw [← h2, List.set_getElem_self]
  have ek : List.idxOf k [k] = 0 := by simp [List.idxOf_cons]
  simp [sp__law_ups, loc, locAt, locJ, namesOf, refsC_pc, refsC_lst, refsC_dct, refsC_frz, toLocC_pc, toLocC_lst, toLocC_dct, toLocC_frz, unLocC_pc, unLocC_lst, unLocC_dct, unLocC_frz, getCs, inJ, toLoc, unLoc, putC, hk, ek, sl__law_ups]
  exact ⟨R, rfl, hR, hl, fun o => by simpa [loc, locAt, locJ, namesOf, refsC_pc, refsC_lst, refsC_dct, refsC_frz, toLocC_pc, toLocC_lst, toLocC_dct, toLocC_frz, unLocC_pc, unLocC_lst, unLocC_dct, unLocC_frz, getCs, inJ, toLoc, unLoc, putC, e] using h o⟩
theorem lap_at {R : List DH.Row} {m : Int} {k : Nat} {g : Cs} {Q : DQ} {E : DX} (hk : g[k]? = some (.lst (R.map rowD))) (h0 : 1 ≤ m) (h1 : m ≤ 3) (hl : R.length ≤ 20) (h : Q (.d (.lst ((prodL (List.replicate m.toNat (namesR R))).map tupS))) g) : sp__law_all_points [.c k, .d (.int m)] g Q E := by
  have e : g.set k (.lst (R.map rowD)) = g := by
    obtain ⟨h1, h2⟩ := List.getElem?_eq_some_iff.mp hk
    rw [← h2, List.set_getElem_self]
  have ek : List.idxOf k [k] = 0 := by simp [List.idxOf_cons]
  simp [sp__law_all_points, loc, locAt, locJ, namesOf, refsC_pc, refsC_lst, refsC_dct, refsC_frz, toLocC_pc, toLocC_lst, toLocC_dct, toLocC_frz, unLocC_pc, unLocC_lst, unLocC_dct, unLocC_frz, getCs, inJ, toLoc, unLoc, putC, hk, ek, sl__law_all_points]
  exact ⟨R, rfl, h0, h1, hl, by simpa [loc, locAt, locJ, namesOf, refsC_pc, refsC_lst, refsC_dct, refsC_frz, toLocC_pc, toLocC_lst, toLocC_dct, toLocC_frz, unLocC_pc, unLocC_lst, unLocC_dct, unLocC_frz, getCs, inJ, toLoc, unLoc, putC, e] using h⟩
theorem siz1 {p : Pt} {Q : DQ} {E : DX} (h : ∀ (a b : Int) p', 1 ≤ a → a ≤ 8 → 1 ≤ b → b ≤ 3 → Q (.d (.tup [.int a, .int b])) [pc p']) : sp__law_sizes [.c 0] [pc p] Q E := by
  simp [sp__law_sizes, loc, locAt, locJ, namesOf, refsC_pc, refsC_lst, refsC_dct, refsC_frz, toLocC_pc, toLocC_lst, toLocC_dct, toLocC_frz, unLocC_pc, unLocC_lst, unLocC_dct, unLocC_frz, getCs, inJ, toLoc, unLoc, putC]
  exact ⟨p, rfl, rfl, fun a b p' h1 h2 h3 h4 _ => by simpa [loc, locAt, locJ, namesOf, refsC_pc, refsC_lst, refsC_dct, refsC_frz, toLocC_pc, toLocC_lst, toLocC_dct, toLocC_frz, unLocC_pc, unLocC_lst, unLocC_dct, unLocC_frz, getCs, inJ, toLoc, unLoc, putC] using h a b p' h1 h2 h3 h4⟩
theorem kin1 {p : Pt} {m : Int} {Q : DQ} {E : DX} (h0 : 1 ≤ m) (h1 : m ≤ 25) (h : ∀ R p', RowsOk R → 1 ≤ R.length → (R.length : Int) ≤ m → Q (.c 1) [pc p', .lst (R.map rowD)]) : sp__law_kinds [.c 0, .d (.int m)] [pc p] Q E := by
  simp [sp__law_kinds, loc, locAt, locJ, namesOf, refsC_pc, refsC_lst, refsC_dct, refsC_frz, toLocC_pc, toLocC_lst, toLocC_dct, toLocC_frz, unLocC_pc, unLocC_lst, unLocC_dct, unLocC_frz, getCs, inJ, toLoc, unLoc, putC]
  exact ⟨p, m, rfl, rfl, h0, h1, fun R p' a b c => by simpa [loc, locAt, locJ, namesOf, refsC_pc, refsC_lst, refsC_dct, refsC_frz, toLocC_pc, toLocC_lst, toLocC_dct, toLocC_frz, unLocC_pc, unLocC_lst, unLocC_dct, unLocC_frz, getCs, inJ, toLoc, unLoc, putC] using h R p' a b c⟩
theorem ini1 {x0 : Cell} {R : List DH.Row} {Q : DQ} {E : DX} (hR : RowsOk R) (hl : R.length ≤ 20) (h : Q (.d .non) [x0, .lst (R.map rowD), .frz (hier R)]) : sp_Hierarchy_init [.c 2, .c 1] [x0, .lst (R.map rowD), .obj 0 [none, none]] Q E := by
  simp [sp_Hierarchy_init, loc, locAt, locJ, namesOf, refsC_pc, refsC_lst, refsC_dct, refsC_frz, toLocC_pc, toLocC_lst, toLocC_dct, toLocC_frz, unLocC_pc, unLocC_lst, unLocC_dct, unLocC_frz, getCs, inJ, toLoc, unLoc, putC, refsC_new, toLocC_new, List.idxOf_cons]
  exact ⟨.c 1, [.lst (R.map rowD)], R, rfl, rfl, .inl ⟨rfl, rfl⟩, hR, hl, by simpa [loc, locAt, locJ, namesOf, refsC_pc, refsC_lst, refsC_dct, refsC_frz, toLocC_pc, toLocC_lst, toLocC_dct, toLocC_frz, unLocC_pc, unLocC_lst, unLocC_dct, unLocC_frz, getCs, inJ, toLoc, unLoc, putC] using h⟩
theorem rr1 {x0 x1 x3 : Cell} {R : List DH.Row} {m i : Nat} {o : Obj} {Q : DQ} {E : DX} (hR : RowsOk R) (hl : R.length ≤ 8) (h1 : 1 ≤ m) (h3 : m ≤ 3) (hi : i < (ptsP R m).length) (h : Q (.d (.bl true)) [x0, x1, .dct (sd (upsD R)) o, x3]) : sp__law_row_right [.d (hier R), .c 2, .d (.lst ((ptsP R m).map tupS)), .d (.int i)] [x0, x1, .dct (sd (upsD R)) o, x3] Q E := by
  simp [sp__law_row_right, loc, locAt, locJ, namesOf, refsC_pc, refsC_lst, refsC_dct, refsC_frz, toLocC_pc, toLocC_lst, toLocC_dct, toLocC_frz, unLocC_pc, unLocC_lst, unLocC_dct, unLocC_frz, getCs, inJ, toLoc, unLoc, putC, List.idxOf_cons]
  exact ⟨R, m, o, i, rfl, rfl, hR, hl, h1, h3, hi, by simpa [loc, locAt, locJ, namesOf, refsC_pc, refsC_lst, refsC_dct, refsC_frz, toLocC_pc, toLocC_lst, toLocC_dct, toLocC_frz, unLocC_pc, unLocC_lst, unLocC_dct, unLocC_frz, getCs, inJ, toLoc, unLoc, putC] using h⟩
theorem mk1 {s0 s1 s2 s3 s4 s6 s7 s8 s9 : Option W} {p : Pt} {R : List DH.Row} {Q : DQ} {E : DX} (hR : RowsOk R) (hl : R.length ≤ 20) (h : Q (.d (hier R)) [pc p, .lst (R.map rowD)]) :
    dFix (dMake 0 2 sp_Hierarchy_init 1 0 (fun us _ => us ++ []) (dCons (dVar 5) (dNil)) dNil) [s0, s1, s2, s3, s4, some (.c 1), s6, s7, s8, s9] [pc p, .lst (R.map rowD)] Q E := by
  simp [dSeq, dIfS, dAsg, dIf, dTest, dOp2, dOp1, dOpN, dVar, dC, dCons, dNil, dgName, dRet, dRetN, dDrop, dNext, dLst, dTup, startE, endsD, oI, oInt1, oInt2, oNeg, oIs, oDivmod, dAnd, dOr, dNot, dAndV, dOrV, dNotV, dgSub, dgTup, dgCons, dgNil, oSetL, dPar, dPar3, dFor, diRange1, diRange2, dLc, dCall, dBM, isT, dSl, dP, dNoP, oEq, dChain, oRepr, oIsi, oBools, retD_d, isTy, dDict0, dDict, dPairs, isFl, isFls, isPy, isPys, isPyKV, look_d, look_c, lookC_lst, lookC_dct, lookC_frz, itM_some, oIx_v, ixV_lst, ixV_tup, ixV_scr, ixV_str, oAdd_v, addV_int, addV_str, addV_tup, addV_lst, oMul_v, mulV_int, mulV_lst, oLen_v, lenV_str, lenV_lst, lenV_tup, lenV_scr, oSl_v, slV_str, slV_tup, slV_lst, oIn_v, inV_lst, inV_tup, inV_sign, diSeq_v, seqV_lst, seqV_tup, seqV_str, fixW_d, fixW_c, fixV_frz, fixV_lst, fixV_dct, fixAll_nil, fixAll_cons, gcS, gcK, fixEnv_nil, fixEnv_none, fixEnv_d, fixEnv_c, fixEnv_tp, fixEnv_dead, fixEnv_sl, poison_sl, fixC, poison, poisonC_lst, poisonC_dct, poisonC_frz, poisonC_obj, dropTo0, dropTo1, dropTo2, dropTo3, dropTo4, dropTo5, dropTo6, madeQ, dMake, dMeth, DL.isObj, dFld, fldW, dCon, dSetF, fixO, frzS, diDK, diDP, keepD, oIxD, oInD, oLenD, oListK, oSetD, oPopAt, oIsiT, oInS, oTupleOf, oListOf, sd_inj, refsC_pc, toLocC_pc, unLocC_pc, poisonC_pc, diEnumA, enumV_lst, enumV_tup, dFix, dRev, oClear, dLc2]
  refine ini1 hR hl ?_
  simp [dSeq, dIfS, dAsg, dIf, dTest, dOp2, dOp1, dOpN, dVar, dC, dCons, dNil, dgName, dRet, dRetN, dDrop, dNext, dLst, dTup, startE, endsD, oI, oInt1, oInt2, oNeg, oIs, oDivmod, dAnd, dOr, dNot, dAndV, dOrV, dNotV, dgSub, dgTup, dgCons, dgNil, oSetL, dPar, dPar3, dFor, diRange1, diRange2, dLc, dCall, dBM, isT, dSl, dP, dNoP, oEq, dChain, oRepr, oIsi, oBools, retD_d, isTy, dDict0, dDict, dPairs, isFl, isFls, isPy, isPys, isPyKV, look_d, look_c, lookC_lst, lookC_dct, lookC_frz, itM_some, oIx_v, ixV_lst, ixV_tup, ixV_scr, ixV_str, oAdd_v, addV_int, addV_str, addV_tup, addV_lst, oMul_v, mulV_int, mulV_lst, oLen_v, lenV_str, lenV_lst, lenV_tup, lenV_scr, oSl_v, slV_str, slV_tup, slV_lst, oIn_v, inV_lst, inV_tup, inV_sign, diSeq_v, seqV_lst, seqV_tup, seqV_str, fixW_d, fixW_c, fixV_frz, fixV_lst, fixV_dct, fixAll_nil, fixAll_cons, gcS, gcK, fixEnv_nil, fixEnv_none, fixEnv_d, fixEnv_c, fixEnv_tp, fixEnv_dead, fixEnv_sl, poison_sl, fixC, poison, poisonC_lst, poisonC_dct, poisonC_frz, poisonC_obj, dropTo0, dropTo1, dropTo2, dropTo3, dropTo4, dropTo5, dropTo6, madeQ, dMake, dMeth, DL.isObj, dFld, fldW, dCon, dSetF, fixO, frzS, diDK, diDP, keepD, oIxD, oInD, oLenD, oListK, oSetD, oPopAt, oIsiT, oInS, oTupleOf, oListOf, sd_inj, refsC_pc, toLocC_pc, unLocC_pc, poisonC_pc, diEnumA, enumV_lst, enumV_tup, dFix, dRev, oClear, dLc2]
  exact h
theorem all_true : ∀ {items : List W} {ys : List DL.D}, Paired (fun _ y => y = DL.D.bl true) items ys → ∃ k, bools ys = some (List.replicate k true)
  | _, _, .nil => ⟨0, rfl⟩
  | _, _, .cons h t => by
    subst h
    obtain ⟨k, e⟩ := all_true t
    exact ⟨k + 1, by simp [bools, e, List.replicate_succ]⟩
theorem fl_pts : ∀ P : List (List Str), isFls (P.map tupS) = true
  | [] => rfl
  | a :: P => by
    have h1 := fl_pts P
    have h2 := fl_tupS a
    simp only [List.map_cons, isFls, h1, h2, Bool.and_self]
theorem eqv_pts : ∀ P : List (List Str), PyData.eqvAll (pys (P.map tupS)) (pys (P.map tupS)) = true
  | [] => by simp [pys, PyData.eqvAll]
  | a :: P => by
    have h1 := eqv_pts P
    simp only [List.map_cons, pys, PyData.eqvAll, eqv_tupS, h1]
    simp
theorem dep_pts : ∀ P : List (List Str), PyData.depthAll (pys (P.map tupS)) ≤ 2
  | [] => by simp [pys, PyData.depthAll]
  | a :: P => by
    have h1 := dep_pts P
    have h2 := dep_tupS a
    simp only [List.map_cons, pys, PyData.depthAll]
    omega
theorem f1 {ns : List Int} {D : DEnds} {j : Nat} {s2 s3 s4 s5 s6 s7 s8 s9 : Option W} (hj : j < 100) (h : ∀ p, D.nx [some (.d (.scr ns)), some (.d (.int j)), some (.c 0), s3, s4, s5, s6, s7, s8, s9] [pc p]) :
    (dAsg (dCall DH.sp__law_pot 2 0 (fun us _ => us) (dCons (dVar 0) (dCons (dVar 1) (dNil))) dNil) (dgName 2)) D [some (.d (.scr ns)), some (.d (.int j)), s2, s3, s4, s5, s6, s7, s8, s9] [] := by
  simp [dSeq, dIfS, dAsg, dIf, dTest, dOp2, dOp1, dOpN, dVar, dC, dCons, dNil, dgName, dRet, dRetN, dDrop, dNext, dLst, dTup, startE, endsD, oI, oInt1, oInt2, oNeg, oIs, oDivmod, dAnd, dOr, dNot, dAndV, dOrV, dNotV, dgSub, dgTup, dgCons, dgNil, oSetL, dPar, dPar3, dFor, diRange1, diRange2, dLc, dCall, dBM, isT, dSl, dP, dNoP, oEq, dChain, oRepr, oIsi, oBools, retD_d, isTy, dDict0, dDict, dPairs, isFl, isFls, isPy, isPys, isPyKV, look_d, look_c, lookC_lst, lookC_dct, lookC_frz, itM_some, oIx_v, ixV_lst, ixV_tup, ixV_scr, ixV_str, oAdd_v, addV_int, addV_str, addV_tup, addV_lst, oMul_v, mulV_int, mulV_lst, oLen_v, lenV_str, lenV_lst, lenV_tup, lenV_scr, oSl_v, slV_str, slV_tup, slV_lst, oIn_v, inV_lst, inV_tup, inV_sign, diSeq_v, seqV_lst, seqV_tup, seqV_str, fixW_d, fixW_c, fixV_frz, fixV_lst, fixV_dct, fixAll_nil, fixAll_cons, gcS, gcK, fixEnv_nil, fixEnv_none, fixEnv_d, fixEnv_c, fixEnv_tp, fixEnv_dead, fixEnv_sl, poison_sl, fixC, poison, poisonC_lst, poisonC_dct, poisonC_frz, poisonC_obj, dropTo0, dropTo1, dropTo2, dropTo3, dropTo4, dropTo5, dropTo6, dMeth, DL.isObj, dFld, fldW, dCon, dSetF, fixO, frzS, diDK, diDP, keepD, oIxD, oInD, oLenD, oListK, oSetD, oPopAt, oIsiT, oInS, oTupleOf, oListOf, sd_inj, refsC_pc, toLocC_pc, unLocC_pc, poisonC_pc, diEnumA, enumV_lst, enumV_tup, dRev, oClear, dLc2]
  refine pot0 (by omega) (by omega) fun p => ?_
  exact h p
theorem f2 {D : DEnds} {p : Pt} {s0 s1 s3 s4 s5 s6 s7 s8 s9 : Option W} (h : ∀ (a b : Int) p', 1 ≤ a → a ≤ 8 → 1 ≤ b → b ≤ 3 → D.nx [s0, s1, some (.c 0), some (.d (.int a)), some (.d (.int b)), s5, s6, s7, s8, s9] [pc p']) :
    (dAsg (dCall sp__law_sizes 1 0 (fun us _ => us) (dCons (dVar 2) (dNil)) dNil) (dgTup 2 (dgCons (dgName 3) (dgCons (dgName 4) (dgNil))))) D [s0, s1, some (.c 0), s3, s4, s5, s6, s7, s8, s9] [pc p] := by
  simp [dSeq, dIfS, dAsg, dIf, dTest, dOp2, dOp1, dOpN, dVar, dC, dCons, dNil, dgName, dRet, dRetN, dDrop, dNext, dLst, dTup, startE, endsD, oI, oInt1, oInt2, oNeg, oIs, oDivmod, dAnd, dOr, dNot, dAndV, dOrV, dNotV, dgSub, dgTup, dgCons, dgNil, oSetL, dPar, dPar3, dFor, diRange1, diRange2, dLc, dCall, dBM, isT, dSl, dP, dNoP, oEq, dChain, oRepr, oIsi, oBools, retD_d, isTy, dDict0, dDict, dPairs, isFl, isFls, isPy, isPys, isPyKV, look_d, look_c, lookC_lst, lookC_dct, lookC_frz, itM_some, oIx_v, ixV_lst, ixV_tup, ixV_scr, ixV_str, oAdd_v, addV_int, addV_str, addV_tup, addV_lst, oMul_v, mulV_int, mulV_lst, oLen_v, lenV_str, lenV_lst, lenV_tup, lenV_scr, oSl_v, slV_str, slV_tup, slV_lst, oIn_v, inV_lst, inV_tup, inV_sign, diSeq_v, seqV_lst, seqV_tup, seqV_str, fixW_d, fixW_c, fixV_frz, fixV_lst, fixV_dct, fixAll_nil, fixAll_cons, gcS, gcK, fixEnv_nil, fixEnv_none, fixEnv_d, fixEnv_c, fixEnv_tp, fixEnv_dead, fixEnv_sl, poison_sl, fixC, poison, poisonC_lst, poisonC_dct, poisonC_frz, poisonC_obj, dropTo0, dropTo1, dropTo2, dropTo3, dropTo4, dropTo5, dropTo6, dMeth, DL.isObj, dFld, fldW, dCon, dSetF, fixO, frzS, diDK, diDP, keepD, oIxD, oInD, oLenD, oListK, oSetD, oPopAt, oIsiT, oInS, oTupleOf, oListOf, sd_inj, refsC_pc, toLocC_pc, unLocC_pc, poisonC_pc, diEnumA, enumV_lst, enumV_tup, dRev, oClear, dLc2]
  refine siz1 fun a b p' h1 h2 h3 h4 => ?_
  simp [dSeq, dIfS, dAsg, dIf, dTest, dOp2, dOp1, dOpN, dVar, dC, dCons, dNil, dgName, dRet, dRetN, dDrop, dNext, dLst, dTup, startE, endsD, oI, oInt1, oInt2, oNeg, oIs, oDivmod, dAnd, dOr, dNot, dAndV, dOrV, dNotV, dgSub, dgTup, dgCons, dgNil, oSetL, dPar, dPar3, dFor, diRange1, diRange2, dLc, dCall, dBM, isT, dSl, dP, dNoP, oEq, dChain, oRepr, oIsi, oBools, retD_d, isTy, dDict0, dDict, dPairs, isFl, isFls, isPy, isPys, isPyKV, look_d, look_c, lookC_lst, lookC_dct, lookC_frz, itM_some, oIx_v, ixV_lst, ixV_tup, ixV_scr, ixV_str, oAdd_v, addV_int, addV_str, addV_tup, addV_lst, oMul_v, mulV_int, mulV_lst, oLen_v, lenV_str, lenV_lst, lenV_tup, lenV_scr, oSl_v, slV_str, slV_tup, slV_lst, oIn_v, inV_lst, inV_tup, inV_sign, diSeq_v, seqV_lst, seqV_tup, seqV_str, fixW_d, fixW_c, fixV_frz, fixV_lst, fixV_dct, fixAll_nil, fixAll_cons, gcS, gcK, fixEnv_nil, fixEnv_none, fixEnv_d, fixEnv_c, fixEnv_tp, fixEnv_dead, fixEnv_sl, poison_sl, fixC, poison, poisonC_lst, poisonC_dct, poisonC_frz, poisonC_obj, dropTo0, dropTo1, dropTo2, dropTo3, dropTo4, dropTo5, dropTo6, dMeth, DL.isObj, dFld, fldW, dCon, dSetF, fixO, frzS, diDK, diDP, keepD, oIxD, oInD, oLenD, oListK, oSetD, oPopAt, oIsiT, oInS, oTupleOf, oListOf, sd_inj, refsC_pc, toLocC_pc, unLocC_pc, poisonC_pc, diEnumA, enumV_lst, enumV_tup, dRev, oClear, dLc2]
  exact h a b p' h1 h2 h3 h4
theorem f3 {D : DEnds} {p : Pt} {a : Int} {s0 s1 s4 s5 s6 s7 s8 s9 : Option W} (h1 : 1 ≤ a) (h2 : a ≤ 8) (h : ∀ R p', RowsOk R → 1 ≤ R.length → R.length ≤ 8 → D.nx [s0, s1, some (.c 0), some (.d (.int a)), s4, some (.c 1), s6, s7, s8, s9] [pc p', .lst (R.map rowD)]) :
    (dAsg (dCall DH.sp__law_kinds 2 0 (fun us _ => us) (dCons (dVar 2) (dCons (dVar 3) (dNil))) dNil) (dgName 5)) D [s0, s1, some (.c 0), some (.d (.int a)), s4, s5, s6, s7, s8, s9] [pc p] := by
  simp [dSeq, dIfS, dAsg, dIf, dTest, dOp2, dOp1, dOpN, dVar, dC, dCons, dNil, dgName, dRet, dRetN, dDrop, dNext, dLst, dTup, startE, endsD, oI, oInt1, oInt2, oNeg, oIs, oDivmod, dAnd, dOr, dNot, dAndV, dOrV, dNotV, dgSub, dgTup, dgCons, dgNil, oSetL, dPar, dPar3, dFor, diRange1, diRange2, dLc, dCall, dBM, isT, dSl, dP, dNoP, oEq, dChain, oRepr, oIsi, oBools, retD_d, isTy, dDict0, dDict, dPairs, isFl, isFls, isPy, isPys, isPyKV, look_d, look_c, lookC_lst, lookC_dct, lookC_frz, itM_some, oIx_v, ixV_lst, ixV_tup, ixV_scr, ixV_str, oAdd_v, addV_int, addV_str, addV_tup, addV_lst, oMul_v, mulV_int, mulV_lst, oLen_v, lenV_str, lenV_lst, lenV_tup, lenV_scr, oSl_v, slV_str, slV_tup, slV_lst, oIn_v, inV_lst, inV_tup, inV_sign, diSeq_v, seqV_lst, seqV_tup, seqV_str, fixW_d, fixW_c, fixV_frz, fixV_lst, fixV_dct, fixAll_nil, fixAll_cons, gcS, gcK, fixEnv_nil, fixEnv_none, fixEnv_d, fixEnv_c, fixEnv_tp, fixEnv_dead, fixEnv_sl, poison_sl, fixC, poison, poisonC_lst, poisonC_dct, poisonC_frz, poisonC_obj, dropTo0, dropTo1, dropTo2, dropTo3, dropTo4, dropTo5, dropTo6, dMeth, DL.isObj, dFld, fldW, dCon, dSetF, fixO, frzS, diDK, diDP, keepD, oIxD, oInD, oLenD, oListK, oSetD, oPopAt, oIsiT, oInS, oTupleOf, oListOf, sd_inj, refsC_pc, toLocC_pc, unLocC_pc, poisonC_pc, diEnumA, enumV_lst, enumV_tup, dRev, oClear, dLc2]
  refine kin1 h1 (by omega) fun R p' hR h1 h2 => ?_
  exact h R p' hR h1 (by omega)
theorem f4 {D : DEnds} {p : Pt} {b : Int} {R : List DH.Row} {s0 s1 s2 s3 s6 s7 s8 s9 : Option W} (hR : RowsOk R) (hl : R.length ≤ 8) (h1 : 1 ≤ b) (h3 : b ≤ 3) (h : ∀ o, D.nx [s0, s1, s2, s3, some (.d (.int b)), some (.c 1), some (.d (hier R)), some (.c 2), some (.d (.lst ((ptsP R b.toNat).map tupS))), s9] [pc p, .lst (R.map rowD), .dct (sd (upsD R)) o]) :
    (dPar3 6 7 8 (dCons (dFix (dMake 0 2 DH.sp_Hierarchy_init 1 0 (fun us _ => us ++ []) (dCons (dVar 5) (dNil)) dNil)) (dCons (dCall DH.sp__law_ups 1 0 (fun us _ => us) (dCons (dVar 5) (dNil)) dNil) (dCons (dCall DH.sp__law_all_points 2 0 (fun us _ => us) (dCons (dVar 5) (dCons (dVar 4) (dNil))) dNil) (dNil))))) D [s0, s1, s2, s3, some (.d (.int b)), some (.c 1), s6, s7, s8, s9] [pc p, .lst (R.map rowD)] := by
  simp [dSeq, dIfS, dAsg, dIf, dTest, dOp2, dOp1, dOpN, dVar, dC, dCons, dNil, dgName, dRet, dRetN, dDrop, dNext, dLst, dTup, startE, endsD, oI, oInt1, oInt2, oNeg, oIs, oDivmod, dAnd, dOr, dNot, dAndV, dOrV, dNotV, dgSub, dgTup, dgCons, dgNil, oSetL, dPar, dPar3, dFor, diRange1, diRange2, dLc, dCall, dBM, isT, dSl, dP, dNoP, oEq, dChain, oRepr, oIsi, oBools, retD_d, isTy, dDict0, dDict, dPairs, isFl, isFls, isPy, isPys, isPyKV, look_d, look_c, lookC_lst, lookC_dct, lookC_frz, itM_some, oIx_v, ixV_lst, ixV_tup, ixV_scr, ixV_str, oAdd_v, addV_int, addV_str, addV_tup, addV_lst, oMul_v, mulV_int, mulV_lst, oLen_v, lenV_str, lenV_lst, lenV_tup, lenV_scr, oSl_v, slV_str, slV_tup, slV_lst, oIn_v, inV_lst, inV_tup, inV_sign, diSeq_v, seqV_lst, seqV_tup, seqV_str, fixW_d, fixW_c, fixV_frz, fixV_lst, fixV_dct, fixAll_nil, fixAll_cons, gcS, gcK, fixEnv_nil, fixEnv_none, fixEnv_d, fixEnv_c, fixEnv_tp, fixEnv_dead, fixEnv_sl, poison_sl, fixC, poison, poisonC_lst, poisonC_dct, poisonC_frz, poisonC_obj, dropTo0, dropTo1, dropTo2, dropTo3, dropTo4, dropTo5, dropTo6, dMeth, DL.isObj, dFld, fldW, dCon, dSetF, fixO, frzS, diDK, diDP, keepD, oIxD, oInD, oLenD, oListK, oSetD, oPopAt, oIsiT, oInS, oTupleOf, oListOf, sd_inj, refsC_pc, toLocC_pc, unLocC_pc, poisonC_pc, diEnumA, enumV_lst, enumV_tup, dRev, oClear, dLc2]
  refine mk1 hR (by omega) ?_
  refine ups_at rfl hR (by omega) fun o => ?_
  simp [dSeq, dIfS, dAsg, dIf, dTest, dOp2, dOp1, dOpN, dVar, dC, dCons, dNil, dgName, dRet, dRetN, dDrop, dNext, dLst, dTup, startE, endsD, oI, oInt1, oInt2, oNeg, oIs, oDivmod, dAnd, dOr, dNot, dAndV, dOrV, dNotV, dgSub, dgTup, dgCons, dgNil, oSetL, dPar, dPar3, dFor, diRange1, diRange2, dLc, dCall, dBM, isT, dSl, dP, dNoP, oEq, dChain, oRepr, oIsi, oBools, retD_d, isTy, dDict0, dDict, dPairs, isFl, isFls, isPy, isPys, isPyKV, look_d, look_c, lookC_lst, lookC_dct, lookC_frz, itM_some, oIx_v, ixV_lst, ixV_tup, ixV_scr, ixV_str, oAdd_v, addV_int, addV_str, addV_tup, addV_lst, oMul_v, mulV_int, mulV_lst, oLen_v, lenV_str, lenV_lst, lenV_tup, lenV_scr, oSl_v, slV_str, slV_tup, slV_lst, oIn_v, inV_lst, inV_tup, inV_sign, diSeq_v, seqV_lst, seqV_tup, seqV_str, fixW_d, fixW_c, fixV_frz, fixV_lst, fixV_dct, fixAll_nil, fixAll_cons, gcS, gcK, fixEnv_nil, fixEnv_none, fixEnv_d, fixEnv_c, fixEnv_tp, fixEnv_dead, fixEnv_sl, poison_sl, fixC, poison, poisonC_lst, poisonC_dct, poisonC_frz, poisonC_obj, dropTo0, dropTo1, dropTo2, dropTo3, dropTo4, dropTo5, dropTo6, dMeth, DL.isObj, dFld, fldW, dCon, dSetF, fixO, frzS, diDK, diDP, keepD, oIxD, oInD, oLenD, oListK, oSetD, oPopAt, oIsiT, oInS, oTupleOf, oListOf, sd_inj, refsC_pc, toLocC_pc, unLocC_pc, poisonC_pc, diEnumA, enumV_lst, enumV_tup, dRev, oClear, dLc2]
  refine lap_at rfl h1 h3 (by omega) ?_
  exact h o
theorem f5 {D : DEnds} {b : Int} {R : List DH.Row} {x0 x1 x2 : Cell} {s0 s1 s2 s3 s5 s7 s9 : Option W} (hl : R.length ≤ 8) (h1 : 1 ≤ b) (h3 : b ≤ 3) (h : D.nx [s0, s1, s2, s3, some (.d (.int b)), s5, some (.d (hier R)), s7, some (.d (.lst ((ptsP R b.toNat).map tupS))), s9] [x0, x1, x2, .lst ((ptsP R b.toNat).map tupS)]) :
    (dIfS (dTest (dOp2 (oEq true) (dCall DH.sp_all_points 2 0 (fun us _ => us) (dCons (dVar 6) (dCons (dVar 4) (dNil))) dNil) (dVar 8))) (dRet (dC (.bl false))) (dNext)) D [s0, s1, s2, s3, some (.d (.int b)), s5, some (.d (hier R)), s7, some (.d (.lst ((ptsP R b.toNat).map tupS))), s9] [x0, x1, x2] := by
  have sz := sz6
  simp [dSeq, dIfS, dAsg, dIf, dTest, dOp2, dOp1, dOpN, dVar, dC, dCons, dNil, dgName, dRet, dRetN, dDrop, dNext, dLst, dTup, startE, endsD, oI, oInt1, oInt2, oNeg, oIs, oDivmod, dAnd, dOr, dNot, dAndV, dOrV, dNotV, dgSub, dgTup, dgCons, dgNil, oSetL, dPar, dPar3, dFor, diRange1, diRange2, dLc, dCall, dBM, isT, dSl, dP, dNoP, oEq, dChain, oRepr, oIsi, oBools, retD_d, isTy, dDict0, dDict, dPairs, isFl, isFls, isPy, isPys, isPyKV, look_d, look_c, lookC_lst, lookC_dct, lookC_frz, itM_some, oIx_v, ixV_lst, ixV_tup, ixV_scr, ixV_str, oAdd_v, addV_int, addV_str, addV_tup, addV_lst, oMul_v, mulV_int, mulV_lst, oLen_v, lenV_str, lenV_lst, lenV_tup, lenV_scr, oSl_v, slV_str, slV_tup, slV_lst, oIn_v, inV_lst, inV_tup, inV_sign, diSeq_v, seqV_lst, seqV_tup, seqV_str, fixW_d, fixW_c, fixV_frz, fixV_lst, fixV_dct, fixAll_nil, fixAll_cons, gcS, gcK, fixEnv_nil, fixEnv_none, fixEnv_d, fixEnv_c, fixEnv_tp, fixEnv_dead, fixEnv_sl, poison_sl, fixC, poison, poisonC_lst, poisonC_dct, poisonC_frz, poisonC_obj, dropTo0, dropTo1, dropTo2, dropTo3, dropTo4, dropTo5, dropTo6, dMeth, DL.isObj, dFld, fldW, dCon, dSetF, fixO, frzS, diDK, diDP, keepD, oIxD, oInD, oLenD, oListK, oSetD, oPopAt, oIsiT, oInS, oTupleOf, oListOf, sd_inj, refsC_pc, toLocC_pc, unLocC_pc, poisonC_pc, diEnumA, enumV_lst, enumV_tup, dRev, oClear, dLc2]
  refine allp0 h1 h3 (by omega) ?_
  rw [show (prodL (List.replicate b.toNat (namesR R))) = ptsP R b.toNat from rfl]
  have g1 := fl_pts (ptsP R b.toNat)
  have g2 := eqv_pts (ptsP R b.toNat)
  have g3 := dep_pts (ptsP R b.toNat)
  generalize (ptsP R b.toNat).map tupS = Y at g1 g2 g3 h ⊢
  have g4 : (py (.lst Y)).depth ≤ 60 := by simp only [py, PyData.depth]; omega
  have g5 : PyData.eqv (py (.lst Y)) (py (.lst Y)) = true := by simp only [py, PyData.eqv, g2]
  simp [dSeq, dIfS, dAsg, dIf, dTest, dOp2, dOp1, dOpN, dVar, dC, dCons, dNil, dgName, dRet, dRetN, dDrop, dNext, dLst, dTup, startE, endsD, oI, oInt1, oInt2, oNeg, oIs, oDivmod, dAnd, dOr, dNot, dAndV, dOrV, dNotV, dgSub, dgTup, dgCons, dgNil, oSetL, dPar, dPar3, dFor, diRange1, diRange2, dLc, dCall, dBM, isT, dSl, dP, dNoP, oEq, dChain, oRepr, oIsi, oBools, retD_d, isTy, dDict0, dDict, dPairs, isFl, isFls, isPy, isPys, isPyKV, look_d, look_c, lookC_lst, lookC_dct, lookC_frz, itM_some, oIx_v, ixV_lst, ixV_tup, ixV_scr, ixV_str, oAdd_v, addV_int, addV_str, addV_tup, addV_lst, oMul_v, mulV_int, mulV_lst, oLen_v, lenV_str, lenV_lst, lenV_tup, lenV_scr, oSl_v, slV_str, slV_tup, slV_lst, oIn_v, inV_lst, inV_tup, inV_sign, diSeq_v, seqV_lst, seqV_tup, seqV_str, fixW_d, fixW_c, fixV_frz, fixV_lst, fixV_dct, fixAll_nil, fixAll_cons, gcS, gcK, fixEnv_nil, fixEnv_none, fixEnv_d, fixEnv_c, fixEnv_tp, fixEnv_dead, fixEnv_sl, poison_sl, fixC, poison, poisonC_lst, poisonC_dct, poisonC_frz, poisonC_obj, dropTo0, dropTo1, dropTo2, dropTo3, dropTo4, dropTo5, dropTo6, dMeth, DL.isObj, dFld, fldW, dCon, dSetF, fixO, frzS, diDK, diDP, keepD, oIxD, oInD, oLenD, oListK, oSetD, oPopAt, oIsiT, oInS, oTupleOf, oListOf, sd_inj, refsC_pc, toLocC_pc, unLocC_pc, poisonC_pc, diEnumA, enumV_lst, enumV_tup, dRev, oClear, dLc2, g1, g4, g5, isFl]
  exact h
theorem f6 {D : DEnds} {m : Nat} {R : List DH.Row} {p : Pt} {a1 a3 : List DL.D} {o : Obj} {s0 s1 s2 s3 s4 s5 s9 : Option W} (hR : RowsOk R) (hl : R.length ≤ 8) (h1 : 1 ≤ m) (h3 : m ≤ 3) (h : ∀ x4, D.nx [s0, s1, s2, s3, s4, s5, some (.d (hier R)), some (.c 2), some (.d (.lst ((ptsP R m).map tupS))), s9] [pc p, .lst a1, .dct (sd (upsD R)) o, .lst a3, .lst x4]) :
    (dIfS (dNot (dTest (dOpN (oBools fun bs => bs.all id) (dCons (dLc (diRange1 (dCons (dOpN oLen (dCons (dVar 8) (dNil))) (dNil))) (dgName 9) (dYes) (dCall sp__law_row_right 4 0 (fun us _ => us) (dCons (dVar 6) (dCons (dVar 7) (dCons (dVar 8) (dCons (dVar 9) (dNil))))) dNil) [9]) (dNil))))) (dRet (dC (.bl false))) (dNext)) D [s0, s1, s2, s3, s4, s5, some (.d (hier R)), some (.c 2), some (.d (.lst ((ptsP R m).map tupS))), s9] [pc p, .lst a1, .dct (sd (upsD R)) o, .lst a3] := by
  have sz := sz6
  have hL := pts_len (R := R) (m := m) hl h3
  simp [dSeq, dIfS, dAsg, dIf, dTest, dOp2, dOp1, dOpN, dVar, dC, dCons, dNil, dgName, dRet, dRetN, dDrop, dNext, dLst, dTup, startE, endsD, oI, oInt1, oInt2, oNeg, oIs, oDivmod, dAnd, dOr, dNot, dAndV, dOrV, dNotV, dgSub, dgTup, dgCons, dgNil, oSetL, dPar, dPar3, dFor, diRange1, diRange2, dLc, dCall, dBM, isT, dSl, dP, dNoP, oEq, dChain, oRepr, oIsi, oBools, retD_d, isTy, dDict0, dDict, dPairs, isFl, isFls, isPy, isPys, isPyKV, look_d, look_c, lookC_lst, lookC_dct, lookC_frz, itM_some, oIx_v, ixV_lst, ixV_tup, ixV_scr, ixV_str, oAdd_v, addV_int, addV_str, addV_tup, addV_lst, oMul_v, mulV_int, mulV_lst, oLen_v, lenV_str, lenV_lst, lenV_tup, lenV_scr, oSl_v, slV_str, slV_tup, slV_lst, oIn_v, inV_lst, inV_tup, inV_sign, diSeq_v, seqV_lst, seqV_tup, seqV_str, fixW_d, fixW_c, fixV_frz, fixV_lst, fixV_dct, fixAll_nil, fixAll_cons, gcS, gcK, fixEnv_nil, fixEnv_none, fixEnv_d, fixEnv_c, fixEnv_tp, fixEnv_dead, fixEnv_sl, poison_sl, fixC, poison, poisonC_lst, poisonC_dct, poisonC_frz, poisonC_obj, dropTo0, dropTo1, dropTo2, dropTo3, dropTo4, dropTo5, dropTo6, dMeth, DL.isObj, dFld, fldW, dCon, dSetF, fixO, frzS, diDK, diDP, keepD, oIxD, oInD, oLenD, oListK, oSetD, oPopAt, oIsiT, oInS, oTupleOf, oListOf, sd_inj, refsC_pc, toLocC_pc, unLocC_pc, poisonC_pc, diEnumA, enumV_lst, enumV_tup, dRev, oClear, dLc2]
  refine ⟨by omega, ?_⟩
  refine lcD_all (fun c => c = [pc p, .lst a1, .dct (sd (upsD R)) o, .lst a3]) (fun _ y => y = .bl true) (fun _ _ => True.intro) _ _ rfl (by simp; omega) (fun w hw c hcs K hK => ?_) (fun ys c hp hcs => ?_)
  · subst hcs
    simp at hw
    obtain ⟨i, hi, rfl⟩ := hw
    simp [dSeq, dIfS, dAsg, dIf, dTest, dOp2, dOp1, dOpN, dVar, dC, dCons, dNil, dgName, dRet, dRetN, dDrop, dNext, dLst, dTup, startE, endsD, oI, oInt1, oInt2, oNeg, oIs, oDivmod, dAnd, dOr, dNot, dAndV, dOrV, dNotV, dgSub, dgTup, dgCons, dgNil, oSetL, dPar, dPar3, dFor, diRange1, diRange2, dLc, dCall, dBM, isT, dSl, dP, dNoP, oEq, dChain, oRepr, oIsi, oBools, retD_d, isTy, dDict0, dDict, dPairs, isFl, isFls, isPy, isPys, isPyKV, look_d, look_c, lookC_lst, lookC_dct, lookC_frz, itM_some, oIx_v, ixV_lst, ixV_tup, ixV_scr, ixV_str, oAdd_v, addV_int, addV_str, addV_tup, addV_lst, oMul_v, mulV_int, mulV_lst, oLen_v, lenV_str, lenV_lst, lenV_tup, lenV_scr, oSl_v, slV_str, slV_tup, slV_lst, oIn_v, inV_lst, inV_tup, inV_sign, diSeq_v, seqV_lst, seqV_tup, seqV_str, fixW_d, fixW_c, fixV_frz, fixV_lst, fixV_dct, fixAll_nil, fixAll_cons, gcS, gcK, fixEnv_nil, fixEnv_none, fixEnv_d, fixEnv_c, fixEnv_tp, fixEnv_dead, fixEnv_sl, poison_sl, fixC, poison, poisonC_lst, poisonC_dct, poisonC_frz, poisonC_obj, dropTo0, dropTo1, dropTo2, dropTo3, dropTo4, dropTo5, dropTo6, dMeth, DL.isObj, dFld, fldW, dCon, dSetF, fixO, frzS, diDK, diDP, keepD, oIxD, oInD, oLenD, oListK, oSetD, oPopAt, oIsiT, oInS, oTupleOf, oListOf, sd_inj, refsC_pc, toLocC_pc, unLocC_pc, poisonC_pc, diEnumA, enumV_lst, enumV_tup, dRev, oClear, dLc2, wipeE]
    refine rr1 hR hl h1 h3 hi ?_
    simp [dSeq, dIfS, dAsg, dIf, dTest, dOp2, dOp1, dOpN, dVar, dC, dCons, dNil, dgName, dRet, dRetN, dDrop, dNext, dLst, dTup, startE, endsD, oI, oInt1, oInt2, oNeg, oIs, oDivmod, dAnd, dOr, dNot, dAndV, dOrV, dNotV, dgSub, dgTup, dgCons, dgNil, oSetL, dPar, dPar3, dFor, diRange1, diRange2, dLc, dCall, dBM, isT, dSl, dP, dNoP, oEq, dChain, oRepr, oIsi, oBools, retD_d, isTy, dDict0, dDict, dPairs, isFl, isFls, isPy, isPys, isPyKV, look_d, look_c, lookC_lst, lookC_dct, lookC_frz, itM_some, oIx_v, ixV_lst, ixV_tup, ixV_scr, ixV_str, oAdd_v, addV_int, addV_str, addV_tup, addV_lst, oMul_v, mulV_int, mulV_lst, oLen_v, lenV_str, lenV_lst, lenV_tup, lenV_scr, oSl_v, slV_str, slV_tup, slV_lst, oIn_v, inV_lst, inV_tup, inV_sign, diSeq_v, seqV_lst, seqV_tup, seqV_str, fixW_d, fixW_c, fixV_frz, fixV_lst, fixV_dct, fixAll_nil, fixAll_cons, gcS, gcK, fixEnv_nil, fixEnv_none, fixEnv_d, fixEnv_c, fixEnv_tp, fixEnv_dead, fixEnv_sl, poison_sl, fixC, poison, poisonC_lst, poisonC_dct, poisonC_frz, poisonC_obj, dropTo0, dropTo1, dropTo2, dropTo3, dropTo4, dropTo5, dropTo6, dMeth, DL.isObj, dFld, fldW, dCon, dSetF, fixO, frzS, diDK, diDP, keepD, oIxD, oInD, oLenD, oListK, oSetD, oPopAt, oIsiT, oInS, oTupleOf, oListOf, sd_inj, refsC_pc, toLocC_pc, unLocC_pc, poisonC_pc, diEnumA, enumV_lst, enumV_tup, dRev, oClear, dLc2]
    exact hK _ _ rfl (by simp [dSeq, dIfS, dAsg, dIf, dTest, dOp2, dOp1, dOpN, dVar, dC, dCons, dNil, dgName, dRet, dRetN, dDrop, dNext, dLst, dTup, startE, endsD, oI, oInt1, oInt2, oNeg, oIs, oDivmod, dAnd, dOr, dNot, dAndV, dOrV, dNotV, dgSub, dgTup, dgCons, dgNil, oSetL, dPar, dPar3, dFor, diRange1, diRange2, dLc, dCall, dBM, isT, dSl, dP, dNoP, oEq, dChain, oRepr, oIsi, oBools, retD_d, isTy, dDict0, dDict, dPairs, isFl, isFls, isPy, isPys, isPyKV, look_d, look_c, lookC_lst, lookC_dct, lookC_frz, itM_some, oIx_v, ixV_lst, ixV_tup, ixV_scr, ixV_str, oAdd_v, addV_int, addV_str, addV_tup, addV_lst, oMul_v, mulV_int, mulV_lst, oLen_v, lenV_str, lenV_lst, lenV_tup, lenV_scr, oSl_v, slV_str, slV_tup, slV_lst, oIn_v, inV_lst, inV_tup, inV_sign, diSeq_v, seqV_lst, seqV_tup, seqV_str, fixW_d, fixW_c, fixV_frz, fixV_lst, fixV_dct, fixAll_nil, fixAll_cons, gcS, gcK, fixEnv_nil, fixEnv_none, fixEnv_d, fixEnv_c, fixEnv_tp, fixEnv_dead, fixEnv_sl, poison_sl, fixC, poison, poisonC_lst, poisonC_dct, poisonC_frz, poisonC_obj, dropTo0, dropTo1, dropTo2, dropTo3, dropTo4, dropTo5, dropTo6, dMeth, DL.isObj, dFld, fldW, dCon, dSetF, fixO, frzS, diDK, diDP, keepD, oIxD, oInD, oLenD, oListK, oSetD, oPopAt, oIsiT, oInS, oTupleOf, oListOf, sd_inj, refsC_pc, toLocC_pc, unLocC_pc, poisonC_pc, diEnumA, enumV_lst, enumV_tup, dRev, oClear, dLc2])
  · subst hcs
    obtain ⟨k, ek⟩ := all_true hp
    rw [ek]
    simp [dSeq, dIfS, dAsg, dIf, dTest, dOp2, dOp1, dOpN, dVar, dC, dCons, dNil, dgName, dRet, dRetN, dDrop, dNext, dLst, dTup, startE, endsD, oI, oInt1, oInt2, oNeg, oIs, oDivmod, dAnd, dOr, dNot, dAndV, dOrV, dNotV, dgSub, dgTup, dgCons, dgNil, oSetL, dPar, dPar3, dFor, diRange1, diRange2, dLc, dCall, dBM, isT, dSl, dP, dNoP, oEq, dChain, oRepr, oIsi, oBools, retD_d, isTy, dDict0, dDict, dPairs, isFl, isFls, isPy, isPys, isPyKV, look_d, look_c, lookC_lst, lookC_dct, lookC_frz, itM_some, oIx_v, ixV_lst, ixV_tup, ixV_scr, ixV_str, oAdd_v, addV_int, addV_str, addV_tup, addV_lst, oMul_v, mulV_int, mulV_lst, oLen_v, lenV_str, lenV_lst, lenV_tup, lenV_scr, oSl_v, slV_str, slV_tup, slV_lst, oIn_v, inV_lst, inV_tup, inV_sign, diSeq_v, seqV_lst, seqV_tup, seqV_str, fixW_d, fixW_c, fixV_frz, fixV_lst, fixV_dct, fixAll_nil, fixAll_cons, gcS, gcK, fixEnv_nil, fixEnv_none, fixEnv_d, fixEnv_c, fixEnv_tp, fixEnv_dead, fixEnv_sl, poison_sl, fixC, poison, poisonC_lst, poisonC_dct, poisonC_frz, poisonC_obj, dropTo0, dropTo1, dropTo2, dropTo3, dropTo4, dropTo5, dropTo6, dMeth, DL.isObj, dFld, fldW, dCon, dSetF, fixO, frzS, diDK, diDP, keepD, oIxD, oInD, oLenD, oListK, oSetD, oPopAt, oIsiT, oInS, oTupleOf, oListOf, sd_inj, refsC_pc, toLocC_pc, unLocC_pc, poisonC_pc, diEnumA, enumV_lst, enumV_tup, dRev, oClear, dLc2]
    exact h _
theorem p_law : ∀ ws cs Q E, sl_law ws cs Q E → t_law (endsD cs.length Q E) (startE N_law ws) cs := by
  rintro ws cs Q E ⟨ns, rfl, rfl, hn, hq⟩
  have sz := sz6
  unfold t_law
  simp only [dSeq]
  simp [dSeq, dIfS, dAsg, dIf, dTest, dOp2, dOp1, dOpN, dVar, dC, dCons, dNil, dgName, dRet, dRetN, dDrop, dNext, dLst, dTup, startE, endsD, oI, oInt1, oInt2, oNeg, oIs, oDivmod, dAnd, dOr, dNot, dAndV, dOrV, dNotV, dgSub, dgTup, dgCons, dgNil, oSetL, dPar, dPar3, dFor, diRange1, diRange2, dLc, dCall, dBM, isT, dSl, dP, dNoP, oEq, dChain, oRepr, oIsi, oBools, retD_d, isTy, dDict0, dDict, dPairs, isFl, isFls, isPy, isPys, isPyKV, look_d, look_c, lookC_lst, lookC_dct, lookC_frz, itM_some, oIx_v, ixV_lst, ixV_tup, ixV_scr, ixV_str, oAdd_v, addV_int, addV_str, addV_tup, addV_lst, oMul_v, mulV_int, mulV_lst, oLen_v, lenV_str, lenV_lst, lenV_tup, lenV_scr, oSl_v, slV_str, slV_tup, slV_lst, oIn_v, inV_lst, inV_tup, inV_sign, diSeq_v, seqV_lst, seqV_tup, seqV_str, fixW_d, fixW_c, fixV_frz, fixV_lst, fixV_dct, fixAll_nil, fixAll_cons, gcS, gcK, fixEnv_nil, fixEnv_none, fixEnv_d, fixEnv_c, fixEnv_tp, fixEnv_dead, fixEnv_sl, poison_sl, fixC, poison, poisonC_lst, poisonC_dct, poisonC_frz, poisonC_obj, dropTo0, dropTo1, dropTo2, dropTo3, dropTo4, dropTo5, dropTo6, dMeth, DL.isObj, dFld, fldW, dCon, dSetF, fixO, frzS, diDK, diDP, keepD, oIxD, oInD, oLenD, oListK, oSetD, oPopAt, oIsiT, oInS, oTupleOf, oListOf, sd_inj, refsC_pc, toLocC_pc, unLocC_pc, poisonC_pc, diEnumA, enumV_lst, enumV_tup, dRev, oClear, dLc2]
  generalize hN : (if 1 < (if (ns.length : Int) < 3 then (ns.length : Int) else 3) then (if (ns.length : Int) < 3 then (ns.length : Int) else 3) else 1) = N
  have hN6 : 1 ≤ N ∧ N ≤ 3 := by
    subst hN
    split <;> split at * <;> omega
  refine ⟨by omega, by omega, ?_⟩
  refine forD_inv (fun i env c => (∃ a b d e f g h2 i, env = [some (.d (.scr ns)), slt a, slt b, slt d, slt e, slt f, slt g, slt h2, slt i, none]) ∧ c = []) (fun _ _ _ _ => True.intro) _ 0 _ _ ⟨⟨none, none, none, none, none, none, none, none, rfl⟩, rfl⟩ (fun j x hx env c hJ D' h1 h2 h3 h4 h5 => ?_) fun env c hJ => ?_
  · obtain ⟨⟨a, b, d, e, f, g, h2', i, rfl⟩, rfl⟩ := hJ
    obtain ⟨hj, rfl⟩ := rng_at hx
    clear h1 h2 h3 h5 hx
    show dSeq _ _ _ _ _
    refine f1 (by omega) fun p => f2 fun a b p2 a1 a2 b1 b3 => f3 a1 a2 fun R p3 hR r1 r8 => f4 hR r8 b1 b3 fun o => f5 r8 b1 b3 (f6 hR r8 (by omega) (by omega) fun x4 => ?_)
    simp [dSeq, dIfS, dAsg, dIf, dTest, dOp2, dOp1, dOpN, dVar, dC, dCons, dNil, dgName, dRet, dRetN, dDrop, dNext, dLst, dTup, startE, endsD, oI, oInt1, oInt2, oNeg, oIs, oDivmod, dAnd, dOr, dNot, dAndV, dOrV, dNotV, dgSub, dgTup, dgCons, dgNil, oSetL, dPar, dPar3, dFor, diRange1, diRange2, dLc, dCall, dBM, isT, dSl, dP, dNoP, oEq, dChain, oRepr, oIsi, oBools, retD_d, isTy, dDict0, dDict, dPairs, isFl, isFls, isPy, isPys, isPyKV, look_d, look_c, lookC_lst, lookC_dct, lookC_frz, itM_some, oIx_v, ixV_lst, ixV_tup, ixV_scr, ixV_str, oAdd_v, addV_int, addV_str, addV_tup, addV_lst, oMul_v, mulV_int, mulV_lst, oLen_v, lenV_str, lenV_lst, lenV_tup, lenV_scr, oSl_v, slV_str, slV_tup, slV_lst, oIn_v, inV_lst, inV_tup, inV_sign, diSeq_v, seqV_lst, seqV_tup, seqV_str, fixW_d, fixW_c, fixV_frz, fixV_lst, fixV_dct, fixAll_nil, fixAll_cons, gcS, gcK, fixEnv_nil, fixEnv_none, fixEnv_d, fixEnv_c, fixEnv_tp, fixEnv_dead, fixEnv_sl, poison_sl, fixC, poison, poisonC_lst, poisonC_dct, poisonC_frz, poisonC_obj, dropTo0, dropTo1, dropTo2, dropTo3, dropTo4, dropTo5, dropTo6, dMeth, DL.isObj, dFld, fldW, dCon, dSetF, fixO, frzS, diDK, diDP, keepD, oIxD, oInD, oLenD, oListK, oSetD, oPopAt, oIsiT, oInS, oTupleOf, oListOf, sd_inj, refsC_pc, toLocC_pc, unLocC_pc, poisonC_pc, diEnumA, enumV_lst, enumV_tup, dRev, oClear, dLc2]
    exact h4 _ _ ⟨⟨some _, some _, some _, some _, some _, some _, some _, some _, rfl⟩, rfl⟩
  · obtain ⟨⟨a, b, d, e, f, g, h2', i, rfl⟩, rfl⟩ := hJ
    simp [dSeq, dIfS, dAsg, dIf, dTest, dOp2, dOp1, dOpN, dVar, dC, dCons, dNil, dgName, dRet, dRetN, dDrop, dNext, dLst, dTup, startE, endsD, oI, oInt1, oInt2, oNeg, oIs, oDivmod, dAnd, dOr, dNot, dAndV, dOrV, dNotV, dgSub, dgTup, dgCons, dgNil, oSetL, dPar, dPar3, dFor, diRange1, diRange2, dLc, dCall, dBM, isT, dSl, dP, dNoP, oEq, dChain, oRepr, oIsi, oBools, retD_d, isTy, dDict0, dDict, dPairs, isFl, isFls, isPy, isPys, isPyKV, look_d, look_c, lookC_lst, lookC_dct, lookC_frz, itM_some, oIx_v, ixV_lst, ixV_tup, ixV_scr, ixV_str, oAdd_v, addV_int, addV_str, addV_tup, addV_lst, oMul_v, mulV_int, mulV_lst, oLen_v, lenV_str, lenV_lst, lenV_tup, lenV_scr, oSl_v, slV_str, slV_tup, slV_lst, oIn_v, inV_lst, inV_tup, inV_sign, diSeq_v, seqV_lst, seqV_tup, seqV_str, fixW_d, fixW_c, fixV_frz, fixV_lst, fixV_dct, fixAll_nil, fixAll_cons, gcS, gcK, fixEnv_nil, fixEnv_none, fixEnv_d, fixEnv_c, fixEnv_tp, fixEnv_dead, fixEnv_sl, poison_sl, fixC, poison, poisonC_lst, poisonC_dct, poisonC_frz, poisonC_obj, dropTo0, dropTo1, dropTo2, dropTo3, dropTo4, dropTo5, dropTo6, dMeth, DL.isObj, dFld, fldW, dCon, dSetF, fixO, frzS, diDK, diDP, keepD, oIxD, oInD, oLenD, oListK, oSetD, oPopAt, oIsiT, oInS, oTupleOf, oListOf, sd_inj, refsC_pc, toLocC_pc, unLocC_pc, poisonC_pc, diEnumA, enumV_lst, enumV_tup, dRev, oClear, dLc2]
    exact hq _
end K22
namespace K22
open PySem PySem.Spec L2 DL DH
theorem len__law_row_right : ∀ ws cs Q E, sl__law_row_right ws cs Q E → ws.length = 4 := by
  intro ws cs Q E h
  have h := h
  first
    | (obtain ⟨rfl, _⟩ := h; rfl)
    | (obtain ⟨_, rfl, _⟩ := h; rfl)
    | (obtain ⟨_, _, rfl, _⟩ := h; rfl)
    | (obtain ⟨_, _, _, rfl, _⟩ := h; rfl)
    | (obtain ⟨_, _, _, _, rfl, _⟩ := h; rfl)
    | (obtain ⟨_, _, _, _, _, rfl, _⟩ := h; rfl)
    | (obtain ⟨_, _, _, _, _, _, rfl, _⟩ := h; rfl)
    | (obtain ⟨_, _, _, _, _, _, _, rfl, _⟩ := h; rfl)
    | (obtain ⟨_, _, _, _, _, _, _, _, rfl, _⟩ := h; rfl)
    | (obtain ⟨_, _, _, _, _, _, _, _, _, rfl, _⟩ := h; rfl)
theorem len_law : ∀ ws cs Q E, sl_law ws cs Q E → ws.length = 1 := by
  intro ws cs Q E h
  have h := h
  first
    | (obtain ⟨rfl, _⟩ := h; rfl)
    | (obtain ⟨_, rfl, _⟩ := h; rfl)
    | (obtain ⟨_, _, rfl, _⟩ := h; rfl)
    | (obtain ⟨_, _, _, rfl, _⟩ := h; rfl)
    | (obtain ⟨_, _, _, _, rfl, _⟩ := h; rfl)
    | (obtain ⟨_, _, _, _, _, rfl, _⟩ := h; rfl)
    | (obtain ⟨_, _, _, _, _, _, rfl, _⟩ := h; rfl)
    | (obtain ⟨_, _, _, _, _, _, _, rfl, _⟩ := h; rfl)
    | (obtain ⟨_, _, _, _, _, _, _, _, rfl, _⟩ := h; rfl)
    | (obtain ⟨_, _, _, _, _, _, _, _, _, rfl, _⟩ := h; rfl)
theorem law_sp (ns : List Int) (hn : ns.length ≤ 63) : sp_law [.d (.scr ns)] [] (fun w _ => w = .d (.bl true)) fun _ _ => False := by
  simp [sp_law, loc, locAt, locJ, namesOf, getCs, inJ, toLoc, unLoc, putC]
  exact ⟨ns, rfl, rfl, hn, fun _ => rfl⟩
end K22
namespace K22
open PySem PySem.Spec L2 DL
open PyProof.Rows (envOfC)
def top (i : Nat) : Stmt := PySem.Challenge.pw_fewestmethods_k22_whole_order_of_points.main.body.getD i (.Pass ⟨0, 0, 0, 0⟩)
/-- what the head tells -/
structure Fx (K : PySem.W.Frag) (mg : Str → Option Value) where
  a_Hierarchy_ancestors_of_new : Addr
  d_Hierarchy_ancestors_of_new : FuncData
  F_Hierarchy_ancestors_of_new : FunD K "ancestors_of_new" "Hierarchy.ancestors_of_new" (defArgs (inClass (top 31) 4)) (defBody (inClass (top 31) 4)) (defScope (inClass (top 31) 4)) [] [] a_Hierarchy_ancestors_of_new d_Hierarchy_ancestors_of_new
  a_are_different_classes : Addr
  d_are_different_classes : FuncData
  F_are_different_classes : FunD K "are_different_classes" "are_different_classes" (defArgs (top 27)) (defBody (top 27)) (defScope (top 27)) [] [] a_are_different_classes d_are_different_classes
  g_are_different_classes : mg "are_different_classes" = some (.ref a_are_different_classes)
  a_is_name : Addr
  d_is_name : FuncData
  F_is_name : FunD K "is_name" "is_name" (defArgs (top 25)) (defBody (top 25)) (defScope (top 25)) [] [] a_is_name d_is_name
  g_is_name : mg "is_name" = some (.ref a_is_name)
  a_element_problem : Addr
  d_element_problem : FuncData
  F_element_problem : FunD K "element_problem" "element_problem" (defArgs (top 28)) (defBody (top 28)) (defScope (top 28)) [] [] a_element_problem d_element_problem
  g_element_problem : mg "element_problem" = some (.ref a_element_problem)
  a_Hierarchy_init : Addr
  d_Hierarchy_init : FuncData
  F_Hierarchy_init : FunD K "__init__" "Hierarchy.__init__" (defArgs (inClass (top 31) 1)) (defBody (inClass (top 31) 1)) (defScope (inClass (top 31) 1)) [He.Dv.v K (.adr (He.dflAt ("Hierarchy", some "__init__") 0))] [] a_Hierarchy_init d_Hierarchy_init
  T_Hierarchy_init_0 : ∀ F : Hp, PTu K F (He.dflAt ("Hierarchy", some "__init__") 0 K) []
  a__law_all_points : Addr
  d__law_all_points : FuncData
  F__law_all_points : FunD K "_law_all_points" "_law_all_points" (defArgs (top 42)) (defBody (top 42)) (defScope (top 42)) [] [] a__law_all_points d__law_all_points
  g__law_all_points : mg "_law_all_points" = some (.ref a__law_all_points)
  a__law_draw : Addr
  d__law_draw : FuncData
  F__law_draw : FunD K "_law_draw" "_law_draw" (defArgs (top 34)) (defBody (top 34)) (defScope (top 34)) [] [] a__law_draw d__law_draw
  g__law_draw : mg "_law_draw" = some (.ref a__law_draw)
  a__law_mixed : Addr
  d__law_mixed : FuncData
  F__law_mixed : FunD K "_law_mixed" "_law_mixed" (defArgs (top 35)) (defBody (top 35)) (defScope (top 35)) [] [] a__law_mixed d__law_mixed
  g__law_mixed : mg "_law_mixed" = some (.ref a__law_mixed)
  a__law_name : Addr
  d__law_name : FuncData
  F__law_name : FunD K "_law_name" "_law_name" (defArgs (top 36)) (defBody (top 36)) (defScope (top 36)) [] [] a__law_name d__law_name
  g__law_name : mg "_law_name" = some (.ref a__law_name)
  a__law_names : Addr
  d__law_names : FuncData
  F__law_names : FunD K "_law_names" "_law_names" (defArgs (top 37)) (defBody (top 37)) (defScope (top 37)) [] [] a__law_names d__law_names
  g__law_names : mg "_law_names" = some (.ref a__law_names)
  a__law_kinds : Addr
  d__law_kinds : FuncData
  F__law_kinds : FunD K "_law_kinds" "_law_kinds" (defArgs (top 38)) (defBody (top 38)) (defScope (top 38)) [] [] a__law_kinds d__law_kinds
  g__law_kinds : mg "_law_kinds" = some (.ref a__law_kinds)
  a__law_pot : Addr
  d__law_pot : FuncData
  F__law_pot : FunD K "_law_pot" "_law_pot" (defArgs (top 33)) (defBody (top 33)) (defScope (top 33)) [] [] a__law_pot d__law_pot
  g__law_pot : mg "_law_pot" = some (.ref a__law_pot)
  a__law_is_under : Addr
  d__law_is_under : FuncData
  F__law_is_under : FunD K "_law_is_under" "_law_is_under" (defArgs (top 41)) (defBody (top 41)) (defScope (top 41)) [] [] a__law_is_under d__law_is_under
  g__law_is_under : mg "_law_is_under" = some (.ref a__law_is_under)
  a_Hierarchy_has_class : Addr
  d_Hierarchy_has_class : FuncData
  F_Hierarchy_has_class : FunD K "has_class" "Hierarchy.has_class" (defArgs (inClass (top 31) 7)) (defBody (inClass (top 31) 7)) (defScope (inClass (top 31) 7)) [] [] a_Hierarchy_has_class d_Hierarchy_has_class
  a_Hierarchy_require_class : Addr
  d_Hierarchy_require_class : FuncData
  F_Hierarchy_require_class : FunD K "require_class" "Hierarchy.require_class" (defArgs (inClass (top 31) 5)) (defBody (inClass (top 31) 5)) (defScope (inClass (top 31) 5)) [] [] a_Hierarchy_require_class d_Hierarchy_require_class
  a_Hierarchy_is_at_or_below : Addr
  d_Hierarchy_is_at_or_below : FuncData
  F_Hierarchy_is_at_or_below : FunD K "is_at_or_below" "Hierarchy.is_at_or_below" (defArgs (inClass (top 31) 10)) (defBody (inClass (top 31) 10)) (defScope (inClass (top 31) 10)) [] [] a_Hierarchy_is_at_or_below d_Hierarchy_is_at_or_below
  a_lies_at_or_below : Addr
  d_lies_at_or_below : FuncData
  F_lies_at_or_below : FunD K "lies_at_or_below" "lies_at_or_below" (defArgs (top 18)) (defBody (top 18)) (defScope (top 18)) [] [] a_lies_at_or_below d_lies_at_or_below
  g_lies_at_or_below : mg "lies_at_or_below" = some (.ref a_lies_at_or_below)
  a_is_count : Addr
  d_is_count : FuncData
  F_is_count : FunD K "is_count" "is_count" (defArgs (top 14)) (defBody (top 14)) (defScope (top 14)) [] [] a_is_count d_is_count
  g_is_count : mg "is_count" = some (.ref a_is_count)
  a_is_point : Addr
  d_is_point : FuncData
  F_is_point : FunD K "is_point" "is_point" (defArgs (top 15)) (defBody (top 15)) (defScope (top 15)) [] [] a_is_point d_is_point
  g_is_point : mg "is_point" = some (.ref a_is_point)
  a_require_point : Addr
  d_require_point : FuncData
  F_require_point : FunD K "require_point" "require_point" (defArgs (top 16)) (defBody (top 16)) (defScope (top 16)) [] [] a_require_point d_require_point
  g_require_point : mg "require_point" = some (.ref a_require_point)
  a_require_alike_points : Addr
  d_require_alike_points : FuncData
  F_require_alike_points : FunD K "require_alike_points" "require_alike_points" (defArgs (top 17)) (defBody (top 17)) (defScope (top 17)) [] [] a_require_alike_points d_require_alike_points
  g_require_alike_points : mg "require_alike_points" = some (.ref a_require_alike_points)
  a_is_point_at_or_below : Addr
  d_is_point_at_or_below : FuncData
  F_is_point_at_or_below : FunD K "is_point_at_or_below" "is_point_at_or_below" (defArgs (top 19)) (defBody (top 19)) (defScope (top 19)) [] [] a_is_point_at_or_below d_is_point_at_or_below
  g_is_point_at_or_below : mg "is_point_at_or_below" = some (.ref a_is_point_at_or_below)
  a__law_row_right : Addr
  d__law_row_right : FuncData
  F__law_row_right : FunD K "_law_row_right" "_law_row_right" (defArgs (top 44)) (defBody (top 44)) (defScope (top 44)) [] [] a__law_row_right d__law_row_right
  g__law_row_right : mg "_law_row_right" = some (.ref a__law_row_right)
  a__law_sizes : Addr
  d__law_sizes : FuncData
  F__law_sizes : FunD K "_law_sizes" "_law_sizes" (defArgs (top 43)) (defBody (top 43)) (defScope (top 43)) [] [] a__law_sizes d__law_sizes
  g__law_sizes : mg "_law_sizes" = some (.ref a__law_sizes)
  a__law_above : Addr
  d__law_above : FuncData
  F__law_above : FunD K "_law_above" "_law_above" (defArgs (top 39)) (defBody (top 39)) (defScope (top 39)) [] [] a__law_above d__law_above
  g__law_above : mg "_law_above" = some (.ref a__law_above)
  a__law_ups : Addr
  d__law_ups : FuncData
  F__law_ups : FunD K "_law_ups" "_law_ups" (defArgs (top 40)) (defBody (top 40)) (defScope (top 40)) [] [] a__law_ups d__law_ups
  g__law_ups : mg "_law_ups" = some (.ref a__law_ups)
  a_Hierarchy_names : Addr
  d_Hierarchy_names : FuncData
  F_Hierarchy_names : FunD K "names" "Hierarchy.names" (defArgs (inClass (top 31) 6)) (defBody (inClass (top 31) 6)) (defScope (inClass (top 31) 6)) [] [] a_Hierarchy_names d_Hierarchy_names
  a_combined : Addr
  d_combined : FuncData
  F_combined : FunD K "combined" "combined" (defArgs (top 20)) (defBody (top 20)) (defScope (top 20)) [] [] a_combined d_combined
  g_combined : mg "combined" = some (.ref a_combined)
  a_all_points : Addr
  d_all_points : FuncData
  F_all_points : FunD K "all_points" "all_points" (defArgs (top 21)) (defBody (top 21)) (defScope (top 21)) [] [] a_all_points d_all_points
  g_all_points : mg "all_points" = some (.ref a_all_points)
  a_law : Addr
  d_law : FuncData
  F_law : FunD K "law" "law" (defArgs (top 45)) (defBody (top 45)) (defScope (top 45)) [] [] a_law d_law
  g_law : mg "law" = some (.ref a_law)
  C_Hierarchy : Addr
  g_Hierarchy : mg "Hierarchy" = some (.ref C_Hierarchy)
  c_Hierarchy : Cls K C_Hierarchy
  no_Hierarchy_superclasses_by_class : NoAttr K C_Hierarchy "superclasses_by_class"
  no_Hierarchy_ancestors_by_class : NoAttr K C_Hierarchy "ancestors_by_class"
  mk_Hierarchy : Mk K C_Hierarchy a_Hierarchy_init
  me_Hierarchy_ancestors_of_new : Meth K C_Hierarchy "ancestors_of_new" a_Hierarchy_ancestors_of_new
  me_Hierarchy_has_class : Meth K C_Hierarchy "has_class" a_Hierarchy_has_class
  me_Hierarchy_is_at_or_below : Meth K C_Hierarchy "is_at_or_below" a_Hierarchy_is_at_or_below
  me_Hierarchy_names : Meth K C_Hierarchy "names" a_Hierarchy_names
  me_Hierarchy_require_class : Meth K C_Hierarchy "require_class" a_Hierarchy_require_class
  u_Hierarchy_LIMIT : Value
  k_Hierarchy_LIMIT : Con K C_Hierarchy "LIMIT" (.int 20) u_Hierarchy_LIMIT
  u_LETTERS : Value
  m_LETTERS : mg "LETTERS" = some u_LETTERS
  v_LETTERS : ∃ t, u_LETTERS = .str "abcdefghijklmnopqrstuvwxyz" t
  u_MAX_NAME_LENGTH : Value
  m_MAX_NAME_LENGTH : mg "MAX_NAME_LENGTH" = some u_MAX_NAME_LENGTH
  v_MAX_NAME_LENGTH : ∃ t, u_MAX_NAME_LENGTH = .int 8 t
  u_MAX_PARAMETERS : Value
  m_MAX_PARAMETERS : mg "MAX_PARAMETERS" = some u_MAX_PARAMETERS
  v_MAX_PARAMETERS : ∃ t, u_MAX_PARAMETERS = .int 3 t
  n_abs : mg "abs" = none
  n_all : mg "all" = none
  n_bool : mg "bool" = none
  n_dict : mg "dict" = none
  n_divmod : mg "divmod" = none
  n_enumerate : mg "enumerate" = none
  n_int : mg "int" = none
  n_isinstance : mg "isinstance" = none
  n_len : mg "len" = none
  n_list : mg "list" = none
  n_max : mg "max" = none
  n_min : mg "min" = none
  n_range : mg "range" = none
  n_repr : mg "repr" = none
  n_str : mg "str" = none
  n_tuple : mg "tuple" = none
  n_zip : mg "zip" = none
/-- the plain laws, as the walks need them -/
structure Pures : Prop where
  ok : True
  l__law_row_right : ∀ ws cs Q E, sl__law_row_right ws cs Q E → ws.length = 4
  p__law_row_right : ∀ ws cs Q E, sl__law_row_right ws cs Q E → t__law_row_right (endsD cs.length Q E) (startE N__law_row_right ws) cs
  l_law : ∀ ws cs Q E, sl_law ws cs Q E → ws.length = 1
  p_law : ∀ ws cs Q E, sl_law ws cs Q E → t_law (endsD cs.length Q E) (startE N_law ws) cs
section
variable {K : PySem.W.Frag} {mg : Str → Option Value}
def gm (Z : Fx K mg) (w : World) : Gam := ⟨K, w, fun c => if c = 0 then some (Z.C_Hierarchy, ["superclasses_by_class", "ancestors_by_class"]) else none⟩
variable {P : Program} {w : World} {base : Heap}
theorem cl_Hierarchy (Z : Fx K mg) {X : Cx} (hX : X.K = K := by rfl) : ClsD X (gm Z w) 0 Z.C_Hierarchy ["superclasses_by_class", "ancestors_by_class"] := by
  subst hX
  exact ⟨rfl, Z.c_Hierarchy, fun f hf => by
    simp only [List.mem_cons, List.not_mem_nil, or_false] at hf
    rcases hf with rfl | rfl
    · exact Z.no_Hierarchy_superclasses_by_class
    · exact Z.no_Hierarchy_ancestors_by_class⟩
theorem mk_Hierarchy (Z : Fx K mg) {X : Cx} (hX : X.K = K := by rfl) : MkD X (gm Z w) 0 Z.C_Hierarchy Z.a_Hierarchy_init ["superclasses_by_class", "ancestors_by_class"] := by
  subst hX
  exact ⟨rfl, Z.mk_Hierarchy, by decide, by decide⟩
theorem sc_Hierarchy_ancestors_of_new : FnScope DH.N_Hierarchy_ancestors_of_new ["self", "name"] (defScope (inClass (top 31) 4)) := ⟨rfl, rfl, rfl, by decide +kernel, rfl, by decide +kernel, by decide +kernel⟩
theorem pos_Hierarchy_ancestors_of_new (Z : Fx K mg) : BindD (gm Z w) Z.d_Hierarchy_ancestors_of_new ["self", "name"] 2 [] (fun us _ => us) := BindD.pos (Z.F_Hierarchy_ancestors_of_new.bindsN fun _ _ _ _ _ _ us hl => match us, hl with | [_, _], _ => rfl)
theorem sc_are_different_classes : FnScope DH.N_are_different_classes ["value", "known"] (defScope (top 27)) := ⟨rfl, rfl, rfl, by decide +kernel, rfl, by decide +kernel, by decide +kernel⟩
theorem pos_are_different_classes (Z : Fx K mg) : BindD (gm Z w) Z.d_are_different_classes ["value", "known"] 2 [] (fun us _ => us) := BindD.pos (Z.F_are_different_classes.bindsN fun _ _ _ _ _ _ us hl => match us, hl with | [_, _], _ => rfl)
theorem sc_is_name : FnScope DH.N_is_name ["value"] (defScope (top 25)) := ⟨rfl, rfl, rfl, by decide +kernel, rfl, by decide +kernel, by decide +kernel⟩
theorem pos_is_name (Z : Fx K mg) : BindD (gm Z w) Z.d_is_name ["value"] 1 [] (fun us _ => us) := BindD.pos (Z.F_is_name.bindsN fun _ _ _ _ _ _ us hl => match us, hl with | [_], _ => rfl)
theorem sc_element_problem : FnScope DH.N_element_problem ["element", "known"] (defScope (top 28)) := ⟨rfl, rfl, rfl, by decide +kernel, rfl, by decide +kernel, by decide +kernel⟩
theorem pos_element_problem (Z : Fx K mg) : BindD (gm Z w) Z.d_element_problem ["element", "known"] 2 [] (fun us _ => us) := BindD.pos (Z.F_element_problem.bindsN fun _ _ _ _ _ _ us hl => match us, hl with | [_, _], _ => rfl)
theorem sc_Hierarchy_init : FnScope DH.N_Hierarchy_init ["self", "classes"] (defScope (inClass (top 31) 1)) := ⟨rfl, rfl, rfl, by decide +kernel, rfl, by decide +kernel, by decide +kernel⟩
theorem sc__law_all_points : FnScope DH.N__law_all_points ["_law_rows", "_law_many"] (defScope (top 42)) := ⟨rfl, rfl, rfl, by decide +kernel, rfl, by decide +kernel, by decide +kernel⟩
theorem pos__law_all_points (Z : Fx K mg) : BindD (gm Z w) Z.d__law_all_points ["_law_rows", "_law_many"] 2 [] (fun us _ => us) := BindD.pos (Z.F__law_all_points.bindsN fun _ _ _ _ _ _ us hl => match us, hl with | [_, _], _ => rfl)
theorem sc__law_draw : FnScope DH.N__law_draw ["_law_pot_here", "_law_many"] (defScope (top 34)) := ⟨rfl, rfl, rfl, by decide +kernel, rfl, by decide +kernel, by decide +kernel⟩
theorem pos__law_draw (Z : Fx K mg) : BindD (gm Z w) Z.d__law_draw ["_law_pot_here", "_law_many"] 2 [] (fun us _ => us) := BindD.pos (Z.F__law_draw.bindsN fun _ _ _ _ _ _ us hl => match us, hl with | [_, _], _ => rfl)
theorem sc__law_mixed : FnScope DH.N__law_mixed ["_law_pot_here", "_law_some"] (defScope (top 35)) := ⟨rfl, rfl, rfl, by decide +kernel, rfl, by decide +kernel, by decide +kernel⟩
theorem pos__law_mixed (Z : Fx K mg) : BindD (gm Z w) Z.d__law_mixed ["_law_pot_here", "_law_some"] 2 [] (fun us _ => us) := BindD.pos (Z.F__law_mixed.bindsN fun _ _ _ _ _ _ us hl => match us, hl with | [_, _], _ => rfl)
theorem sc__law_name : FnScope DH.N__law_name ["_law_pot_here"] (defScope (top 36)) := ⟨rfl, rfl, rfl, by decide +kernel, rfl, by decide +kernel, by decide +kernel⟩
theorem pos__law_name (Z : Fx K mg) : BindD (gm Z w) Z.d__law_name ["_law_pot_here"] 1 [] (fun us _ => us) := BindD.pos (Z.F__law_name.bindsN fun _ _ _ _ _ _ us hl => match us, hl with | [_], _ => rfl)
theorem sc__law_names : FnScope DH.N__law_names ["_law_pot_here", "_law_many"] (defScope (top 37)) := ⟨rfl, rfl, rfl, by decide +kernel, rfl, by decide +kernel, by decide +kernel⟩
theorem pos__law_names (Z : Fx K mg) : BindD (gm Z w) Z.d__law_names ["_law_pot_here", "_law_many"] 2 [] (fun us _ => us) := BindD.pos (Z.F__law_names.bindsN fun _ _ _ _ _ _ us hl => match us, hl with | [_, _], _ => rfl)
theorem sc__law_kinds : FnScope DH.N__law_kinds ["_law_pot_here", "_law_most"] (defScope (top 38)) := ⟨rfl, rfl, rfl, by decide +kernel, rfl, by decide +kernel, by decide +kernel⟩
theorem pos__law_kinds (Z : Fx K mg) : BindD (gm Z w) Z.d__law_kinds ["_law_pot_here", "_law_most"] 2 [] (fun us _ => us) := BindD.pos (Z.F__law_kinds.bindsN fun _ _ _ _ _ _ us hl => match us, hl with | [_, _], _ => rfl)
theorem sc__law_pot : FnScope DH.N__law_pot ["_law_script", "_law_k"] (defScope (top 33)) := ⟨rfl, rfl, rfl, by decide +kernel, rfl, by decide +kernel, by decide +kernel⟩
theorem pos__law_pot (Z : Fx K mg) : BindD (gm Z w) Z.d__law_pot ["_law_script", "_law_k"] 2 [] (fun us _ => us) := BindD.pos (Z.F__law_pot.bindsN fun _ _ _ _ _ _ us hl => match us, hl with | [_, _], _ => rfl)
theorem sc__law_is_under : FnScope DH.N__law_is_under ["_law_ups_here", "_law_inner", "_law_outer"] (defScope (top 41)) := ⟨rfl, rfl, rfl, by decide +kernel, rfl, by decide +kernel, by decide +kernel⟩
theorem pos__law_is_under (Z : Fx K mg) : BindD (gm Z w) Z.d__law_is_under ["_law_ups_here", "_law_inner", "_law_outer"] 3 [] (fun us _ => us) := BindD.pos (Z.F__law_is_under.bindsN fun _ _ _ _ _ _ us hl => match us, hl with | [_, _, _], _ => rfl)
theorem sc_Hierarchy_has_class : FnScope DH.N_Hierarchy_has_class ["self", "value"] (defScope (inClass (top 31) 7)) := ⟨rfl, rfl, rfl, by decide +kernel, rfl, by decide +kernel, by decide +kernel⟩
theorem pos_Hierarchy_has_class (Z : Fx K mg) : BindD (gm Z w) Z.d_Hierarchy_has_class ["self", "value"] 2 [] (fun us _ => us) := BindD.pos (Z.F_Hierarchy_has_class.bindsN fun _ _ _ _ _ _ us hl => match us, hl with | [_, _], _ => rfl)
theorem sc_Hierarchy_require_class : FnScope DH.N_Hierarchy_require_class ["self", "value"] (defScope (inClass (top 31) 5)) := ⟨rfl, rfl, rfl, by decide +kernel, rfl, by decide +kernel, by decide +kernel⟩
theorem pos_Hierarchy_require_class (Z : Fx K mg) : BindD (gm Z w) Z.d_Hierarchy_require_class ["self", "value"] 2 [] (fun us _ => us) := BindD.pos (Z.F_Hierarchy_require_class.bindsN fun _ _ _ _ _ _ us hl => match us, hl with | [_, _], _ => rfl)
theorem sc_Hierarchy_is_at_or_below : FnScope DH.N_Hierarchy_is_at_or_below ["self", "name", "other"] (defScope (inClass (top 31) 10)) := ⟨rfl, rfl, rfl, by decide +kernel, rfl, by decide +kernel, by decide +kernel⟩
theorem pos_Hierarchy_is_at_or_below (Z : Fx K mg) : BindD (gm Z w) Z.d_Hierarchy_is_at_or_below ["self", "name", "other"] 3 [] (fun us _ => us) := BindD.pos (Z.F_Hierarchy_is_at_or_below.bindsN fun _ _ _ _ _ _ us hl => match us, hl with | [_, _, _], _ => rfl)
theorem sc_lies_at_or_below : FnScope DH.N_lies_at_or_below ["hierarchy", "first", "second"] (defScope (top 18)) := ⟨rfl, rfl, rfl, by decide +kernel, rfl, by decide +kernel, by decide +kernel⟩
theorem pos_lies_at_or_below (Z : Fx K mg) : BindD (gm Z w) Z.d_lies_at_or_below ["hierarchy", "first", "second"] 3 [] (fun us _ => us) := BindD.pos (Z.F_lies_at_or_below.bindsN fun _ _ _ _ _ _ us hl => match us, hl with | [_, _, _], _ => rfl)
theorem sc_is_count : FnScope DH.N_is_count ["value"] (defScope (top 14)) := ⟨rfl, rfl, rfl, by decide +kernel, rfl, by decide +kernel, by decide +kernel⟩
theorem pos_is_count (Z : Fx K mg) : BindD (gm Z w) Z.d_is_count ["value"] 1 [] (fun us _ => us) := BindD.pos (Z.F_is_count.bindsN fun _ _ _ _ _ _ us hl => match us, hl with | [_], _ => rfl)
theorem sc_is_point : FnScope DH.N_is_point ["hierarchy", "value"] (defScope (top 15)) := ⟨rfl, rfl, rfl, by decide +kernel, rfl, by decide +kernel, by decide +kernel⟩
theorem pos_is_point (Z : Fx K mg) : BindD (gm Z w) Z.d_is_point ["hierarchy", "value"] 2 [] (fun us _ => us) := BindD.pos (Z.F_is_point.bindsN fun _ _ _ _ _ _ us hl => match us, hl with | [_, _], _ => rfl)
theorem sc_require_point : FnScope DH.N_require_point ["hierarchy", "value"] (defScope (top 16)) := ⟨rfl, rfl, rfl, by decide +kernel, rfl, by decide +kernel, by decide +kernel⟩
theorem pos_require_point (Z : Fx K mg) : BindD (gm Z w) Z.d_require_point ["hierarchy", "value"] 2 [] (fun us _ => us) := BindD.pos (Z.F_require_point.bindsN fun _ _ _ _ _ _ us hl => match us, hl with | [_, _], _ => rfl)
theorem sc_require_alike_points : FnScope DH.N_require_alike_points ["hierarchy", "first", "others"] (defScope (top 17)) := ⟨rfl, rfl, rfl, by decide +kernel, rfl, by decide +kernel, by decide +kernel⟩
theorem bs_require_alike_points (Z : Fx K mg) : ∀ us rest : List Value, us.length = (["hierarchy", "first"] : List Str).length → bindArgs Z.d_require_alike_points ⟨us ++ rest, []⟩ = (newTuple rest >>= fun t => pure ((["hierarchy", "first"] : List Str).zip us ++ [(("others" : Str), t)])) := bindsS Z.F_require_alike_points fun _ _ _ _ _ _ us rest hl => match us, rest, hl with | [_, _], [], _ => rfl | [_, _], _ :: _, _ => rfl
theorem sc_is_point_at_or_below : FnScope DH.N_is_point_at_or_below ["hierarchy", "first", "second"] (defScope (top 19)) := ⟨rfl, rfl, rfl, by decide +kernel, rfl, by decide +kernel, by decide +kernel⟩
theorem pos_is_point_at_or_below (Z : Fx K mg) : BindD (gm Z w) Z.d_is_point_at_or_below ["hierarchy", "first", "second"] 3 [] (fun us _ => us) := BindD.pos (Z.F_is_point_at_or_below.bindsN fun _ _ _ _ _ _ us hl => match us, hl with | [_, _, _], _ => rfl)
theorem sc__law_row_right : FnScope N__law_row_right ["_law_world", "_law_ups_here", "_law_spots", "_law_place"] (defScope (top 44)) := ⟨rfl, rfl, rfl, by decide +kernel, rfl, by decide +kernel, by decide +kernel⟩
theorem pos__law_row_right (Z : Fx K mg) : BindD (gm Z w) Z.d__law_row_right ["_law_world", "_law_ups_here", "_law_spots", "_law_place"] 4 [] (fun us _ => us) := BindD.pos (Z.F__law_row_right.bindsN fun _ _ _ _ _ _ us hl => match us, hl with | [_, _, _, _], _ => rfl)
theorem sc__law_sizes : FnScope DH.N__law_sizes ["_law_pot_here"] (defScope (top 43)) := ⟨rfl, rfl, rfl, by decide +kernel, rfl, by decide +kernel, by decide +kernel⟩
theorem pos__law_sizes (Z : Fx K mg) : BindD (gm Z w) Z.d__law_sizes ["_law_pot_here"] 1 [] (fun us _ => us) := BindD.pos (Z.F__law_sizes.bindsN fun _ _ _ _ _ _ us hl => match us, hl with | [_], _ => rfl)
theorem sc__law_above : FnScope DH.N__law_above ["_law_rows", "_law_label"] (defScope (top 39)) := ⟨rfl, rfl, rfl, by decide +kernel, rfl, by decide +kernel, by decide +kernel⟩
theorem pos__law_above (Z : Fx K mg) : BindD (gm Z w) Z.d__law_above ["_law_rows", "_law_label"] 2 [] (fun us _ => us) := BindD.pos (Z.F__law_above.bindsN fun _ _ _ _ _ _ us hl => match us, hl with | [_, _], _ => rfl)
theorem sc__law_ups : FnScope DH.N__law_ups ["_law_rows"] (defScope (top 40)) := ⟨rfl, rfl, rfl, by decide +kernel, rfl, by decide +kernel, by decide +kernel⟩
theorem pos__law_ups (Z : Fx K mg) : BindD (gm Z w) Z.d__law_ups ["_law_rows"] 1 [] (fun us _ => us) := BindD.pos (Z.F__law_ups.bindsN fun _ _ _ _ _ _ us hl => match us, hl with | [_], _ => rfl)
theorem sc_Hierarchy_names : FnScope DH.N_Hierarchy_names ["self"] (defScope (inClass (top 31) 6)) := ⟨rfl, rfl, rfl, by decide +kernel, rfl, by decide +kernel, by decide +kernel⟩
theorem pos_Hierarchy_names (Z : Fx K mg) : BindD (gm Z w) Z.d_Hierarchy_names ["self"] 1 [] (fun us _ => us) := BindD.pos (Z.F_Hierarchy_names.bindsN fun _ _ _ _ _ _ us hl => match us, hl with | [_], _ => rfl)
theorem sc_combined : FnScope DH.N_combined ["choices"] (defScope (top 20)) := ⟨rfl, rfl, rfl, by decide +kernel, rfl, by decide +kernel, by decide +kernel⟩
theorem pos_combined (Z : Fx K mg) : BindD (gm Z w) Z.d_combined ["choices"] 1 [] (fun us _ => us) := BindD.pos (Z.F_combined.bindsN fun _ _ _ _ _ _ us hl => match us, hl with | [_], _ => rfl)
theorem sc_all_points : FnScope DH.N_all_points ["hierarchy", "count"] (defScope (top 21)) := ⟨rfl, rfl, rfl, by decide +kernel, rfl, by decide +kernel, by decide +kernel⟩
theorem pos_all_points (Z : Fx K mg) : BindD (gm Z w) Z.d_all_points ["hierarchy", "count"] 2 [] (fun us _ => us) := BindD.pos (Z.F_all_points.bindsN fun _ _ _ _ _ _ us hl => match us, hl with | [_, _], _ => rfl)
theorem sc_law : FnScope N_law ["_law_script"] (defScope (top 45)) := ⟨rfl, rfl, rfl, by decide +kernel, rfl, by decide +kernel, by decide +kernel⟩
theorem pos_Hierarchy_init_2 (Z : Fx K mg) : BindD (gm Z w) Z.d_Hierarchy_init ["self", "classes"] 2 [] (fun us _ => us ++ []) := by
  obtain ⟨ds, hv, hb⟩ := Z.F_Hierarchy_init.binds1 (ps := ["self", "classes"]) 2 1 (by simp) rfl (fun _ _ _ _ _ _ _ us its hl hi => match us, hl, its, hi with | [_, _], _, [_], _ => ⟨_, rfl, rfl⟩)
  exact BindD.dfl hb hv (fun F ι => .nil) rfl
theorem b_Hierarchy_ancestors_of_new (U : Pures) (Z : Fx K mg) (hm : (base.get? sysModules).isSome = true) {cdv : Value} {A : Around} {outer : List PySem.Env} {s : Shared} {H : Hp} {E : XK} (hgd : A.guards = some []) (hr : Room 0 (A.deeper (envOfC "Hierarchy.ancestors_of_new" (defScope (inClass (top 31) 4)) s.heap.objs.size Z.a_Hierarchy_ancestors_of_new cdv))) :
    DSs (cxOf (L2.CX P w) P w K mg base DH.N_Hierarchy_ancestors_of_new "Hierarchy.ancestors_of_new" (defScope (inClass (top 31) 4)) Z.a_Hierarchy_ancestors_of_new cdv A outer s H E) (gm Z w) (fun c d _ H => E c d H) (defBody (inClass (top 31) 4)) DH.t_Hierarchy_ancestors_of_new :=
  s_cons (s_set (i := 2) sc_Hierarchy_ancestors_of_new.nd rfl (by first | exact Or.inl rfl | exact Or.inr rfl) (e_lst (a_cons (ev 1) (a_nil))))
  (s_cons (s_for (passes_of rfl) rfl (vs := [3]) (i_seq rfl (e_sub (x_ixD rfl rfl) (e_fld (cl_Hierarchy Z) rfl (ev 0)) (ev 1) (fun _ _ => rfl))) (g_name (i := 3) sc_Hierarchy_ancestors_of_new.nd rfl (by first | exact Or.inl rfl | exact Or.inr rfl) (hv := by decide)) (ss_gc (s_one (s_expr (e_bm PySem.F.plainAttrs_list PySem.F.slot_list_extend PySem.F.type_list_extend rfl m_extend (ev 2) (a_cons (e_sub (x_ixD rfl rfl) (e_fld (cl_Hierarchy Z) rfl (ev 0)) (ev 3) (fun _ _ => rfl)) (a_nil)))))))
  (s_one (s_ret (e_lc (own := [("known", 4)]) rfl sc_Hierarchy_ancestors_of_new.nd (i_dk rfl rfl (e_fld (cl_Hierarchy Z) rfl (ev 0))) (blkOk_by (own := [("known", 4)]) (N := DH.N_Hierarchy_ancestors_of_new) (sc := defScope (inClass (top 31) 4)) (by decide +kernel)) (fun _ _ _ _ _ => g_name (i := 4) sc_Hierarchy_ancestors_of_new.nd rfl (by first | exact Or.inl rfl | exact Or.inr rfl) (hv := by decide)) (fun _ _ _ _ _ => ts_one (t_cmp (o_inSeq rfl hr.units) (ev 4) (ev 2) (by with_unfolding_all rfl))) (fun _ _ _ _ _ => ev 4)))))
theorem fn_Hierarchy_ancestors_of_new (U : Pures) (Z : Fx K mg) (hm : (base.get? sysModules).isSome = true) : FnD P w K mg base (gm Z w) 1 Z.a_Hierarchy_ancestors_of_new Z.d_Hierarchy_ancestors_of_new ["self", "name"] DH.sp_Hierarchy_ancestors_of_new :=
  FnD.loc (fnD_of (sp := DH.sl_Hierarchy_ancestors_of_new) Z.F_Hierarchy_ancestors_of_new sc_Hierarchy_ancestors_of_new DH.len_Hierarchy_ancestors_of_new (fun cdv A outer s H E hgd hr => b_Hierarchy_ancestors_of_new U Z hm hgd hr) fun ws cs Q E _ h => DH.p_Hierarchy_ancestors_of_new ws cs Q E h)
theorem b_are_different_classes (U : Pures) (Z : Fx K mg) (hm : (base.get? sysModules).isSome = true) {cdv : Value} {A : Around} {outer : List PySem.Env} {s : Shared} {H : Hp} {E : XK} (hgd : A.guards = some []) (hr : Room 0 (A.deeper (envOfC "are_different_classes" (defScope (top 27)) s.heap.objs.size Z.a_are_different_classes cdv))) :
    DSs (cxOf (L2.CX P w) P w K mg base DH.N_are_different_classes "are_different_classes" (defScope (top 27)) Z.a_are_different_classes cdv A outer s H E) (gm Z w) (fun c d _ H => E c d H) (defBody (top 27)) DH.t_are_different_classes :=
  s_cons (s_if (t_not (t_val (e_callB (c_isi rfl) rfl Z.n_isinstance bo_isinstance (a_cons (ev 0) (a_cons (e_ty rfl Z.n_tuple bo_tuple) (a_nil)))))) (s_one (s_ret (e_bl))) (s_nil))
  (s_cons (s_for (passes_of rfl) rfl (vs := [2, 3]) (i_enumA rfl rfl Z.n_enumerate (a_cons (ev 0) (a_nil))) (g_tup rfl rfl (gs_cons (g_name (i := 2) sc_are_different_classes.nd rfl (by first | exact Or.inl rfl | exact Or.inr rfl) (hv := by decide)) (gs_cons (g_name (i := 3) sc_are_different_classes.nd rfl (by first | exact Or.inl rfl | exact Or.inr rfl) (hv := by decide)) (gs_nil)))) (ss_gc (s_one (s_if (t_bool (w_or (t_not (t_val (e_callB (c_isi rfl) rfl Z.n_isinstance bo_isinstance (a_cons (ev 3) (a_cons (e_ty rfl Z.n_str bo_str) (a_nil)))))) (w_or (t_cmp (o_notInD rfl rfl) (ev 3) (ev 1) (by with_unfolding_all rfl)) (w_or1 (t_cmp (o_inSeq rfl hr.units) (ev 3) (e_slice rfl (ev 0) (p_none) (p_some (ev 2))) (by with_unfolding_all rfl)))))) (s_one (s_ret (e_bl))) (s_nil)))))
  (s_one (s_ret (e_bl))))
theorem fn_are_different_classes (U : Pures) (Z : Fx K mg) (hm : (base.get? sysModules).isSome = true) : FnD P w K mg base (gm Z w) 1 Z.a_are_different_classes Z.d_are_different_classes ["value", "known"] DH.sp_are_different_classes :=
  FnD.loc (fnD_of (sp := DH.sl_are_different_classes) Z.F_are_different_classes sc_are_different_classes DH.len_are_different_classes (fun cdv A outer s H E hgd hr => b_are_different_classes U Z hm hgd hr) fun ws cs Q E _ h => DH.p_are_different_classes ws cs Q E h)
theorem b_is_name (U : Pures) (Z : Fx K mg) (hm : (base.get? sysModules).isSome = true) {cdv : Value} {A : Around} {outer : List PySem.Env} {s : Shared} {H : Hp} {E : XK} (hgd : A.guards = some []) (hr : Room 0 (A.deeper (envOfC "is_name" (defScope (top 25)) s.heap.objs.size Z.a_is_name cdv))) :
    DSs (cxOf (L2.CX P w) P w K mg base DH.N_is_name "is_name" (defScope (top 25)) Z.a_is_name cdv A outer s H E) (gm Z w) (fun c d _ H => E c d H) (defBody (top 25)) DH.t_is_name :=
  s_cons (s_if (t_bool (w_or (t_not (t_val (e_callB (c_isi rfl) rfl Z.n_isinstance bo_isinstance (a_cons (ev 0) (a_cons (e_ty rfl Z.n_str bo_str) (a_nil)))))) (w_or1 (t_not (t_chain o_le o_le (e_int) (e_callB (c_len rfl) rfl Z.n_len bo_len (a_cons (ev 0) (a_nil))) (e_gint rfl Z.m_MAX_NAME_LENGTH Z.v_MAX_NAME_LENGTH)))))) (s_one (s_ret (e_bl))) (s_nil))
  (s_one (s_ret (e_callB (c_all rfl rfl) rfl Z.n_all bo_all (a_cons (e_lc (own := [("character", 1)]) rfl sc_is_name.nd (i_seq rfl (ev 0)) (blkOk_by (own := [("character", 1)]) (N := DH.N_is_name) (sc := defScope (top 25)) (by decide +kernel)) (fun _ _ _ _ _ => g_name (i := 1) sc_is_name.nd rfl (by first | exact Or.inl rfl | exact Or.inr rfl) (hv := by decide)) (fun _ _ _ _ _ => ts_nil) (fun _ _ _ _ _ => e_cmp o_inS (ev 1) (e_gstr rfl Z.m_LETTERS Z.v_LETTERS (by decide +kernel)) (by with_unfolding_all rfl))) (a_nil)))))
theorem fn_is_name (U : Pures) (Z : Fx K mg) (hm : (base.get? sysModules).isSome = true) : FnD P w K mg base (gm Z w) 1 Z.a_is_name Z.d_is_name ["value"] DH.sp_is_name :=
  FnD.loc (fnD_of (sp := DH.sl_is_name) Z.F_is_name sc_is_name DH.len_is_name (fun cdv A outer s H E hgd hr => b_is_name U Z hm hgd hr) fun ws cs Q E _ h => DH.p_is_name ws cs Q E h)
theorem b_element_problem (U : Pures) (Z : Fx K mg) (hm : (base.get? sysModules).isSome = true) {cdv : Value} {A : Around} {outer : List PySem.Env} {s : Shared} {H : Hp} {E : XK} (hgd : A.guards = some []) (hr : Room 1 (A.deeper (envOfC "element_problem" (defScope (top 28)) s.heap.objs.size Z.a_element_problem cdv))) :
    DSs (cxOf (L2.CX P w) P w K mg base DH.N_element_problem "element_problem" (defScope (top 28)) Z.a_element_problem cdv A outer s H E) (gm Z w) (fun c d _ H => E c d H) (defBody (top 28)) DH.t_element_problem :=
  s_cons (s_if (t_bool (w_or (t_not (t_val (e_callB (c_isi rfl) rfl Z.n_isinstance bo_isinstance (a_cons (ev 0) (a_cons (e_ty rfl Z.n_tuple bo_tuple) (a_nil)))))) (w_or1 (t_cmp (o_ne rfl hr.units) (e_callB (c_len rfl) rfl Z.n_len bo_len (a_cons (ev 0) (a_nil))) (e_int) (nomark _))))) (s_one (s_ret (e_str))) (s_nil))
  (s_cons (s_asg (vs := [2, 3]) (ev 0) (g_tup rfl rfl (gs_cons (g_name (i := 2) sc_element_problem.nd rfl (by first | exact Or.inl rfl | exact Or.inr rfl) (hv := by decide)) (gs_cons (g_name (i := 3) sc_element_problem.nd rfl (by first | exact Or.inl rfl | exact Or.inr rfl) (hv := by decide)) (gs_nil)))))
  (s_cons (s_if (t_not (t_val (e_call (fn_is_name U Z hm) hgd (hr.mono (by decide)) (takes_of rfl rfl rfl rfl) rfl rfl Z.g_is_name Z.F_is_name.kp (pos_is_name Z) (a_cons (ev 2) (a_nil))))) (s_one (s_ret (e_str))) (s_nil))
  (s_cons (s_if (t_cmp (o_inD rfl rfl) (ev 2) (ev 1) (by with_unfolding_all rfl)) (s_one (s_ret (e_str))) (s_nil))
  (s_one (s_ret (e_ifExp (t_val (e_call (fn_are_different_classes U Z hm) hgd (hr.mono (by decide)) (takes_of rfl rfl rfl rfl) rfl rfl Z.g_are_different_classes Z.F_are_different_classes.kp (pos_are_different_classes Z) (a_cons (ev 3) (a_cons (ev 1) (a_nil))))) (e_non) (e_str)))))))
theorem fn_element_problem (U : Pures) (Z : Fx K mg) (hm : (base.get? sysModules).isSome = true) : FnD P w K mg base (gm Z w) 2 Z.a_element_problem Z.d_element_problem ["element", "known"] DH.sp_element_problem :=
  FnD.loc (fnD_of (sp := DH.sl_element_problem) Z.F_element_problem sc_element_problem DH.len_element_problem (fun cdv A outer s H E hgd hr => b_element_problem U Z hm hgd hr) fun ws cs Q E _ h => DH.p_element_problem ws cs Q E h)
theorem b_Hierarchy_init (U : Pures) (Z : Fx K mg) (hm : (base.get? sysModules).isSome = true) {cdv : Value} {A : Around} {outer : List PySem.Env} {s : Shared} {H : Hp} {E : XK} (hgd : A.guards = some []) (hr : Room 2 (A.deeper (envOfC "Hierarchy.__init__" (defScope (inClass (top 31) 1)) s.heap.objs.size Z.a_Hierarchy_init cdv))) :
    DSs (cxOf (L2.CX P w) P w K mg base DH.N_Hierarchy_init "Hierarchy.__init__" (defScope (inClass (top 31) 1)) Z.a_Hierarchy_init cdv A outer s H E) (gm Z w) (fun c d _ H => E c d H) (defBody (inClass (top 31) 1)) DH.t_Hierarchy_init :=
  ss_frz 0 (s_cons (s_if (t_not (t_val (e_callB (c_isiT rfl) rfl Z.n_isinstance bo_isinstance (a_cons (ev 1) (a_cons (e_tup (a_cons (e_ty rfl Z.n_list bo_list) (a_cons (e_ty rfl Z.n_tuple bo_tuple) (a_nil)))) (a_nil)))))) (s_one (s_never)) (s_nil))
  (s_cons (s_fld (cl_Hierarchy Z) rfl (ev 0) (e_dict0))
  (s_cons (s_for (passes_of rfl) rfl (vs := [2, 3]) (i_enumA rfl rfl Z.n_enumerate (a_cons (ev 1) (a_nil))) (g_tup rfl rfl (gs_cons (g_name (i := 2) sc_Hierarchy_init.nd rfl (by first | exact Or.inl rfl | exact Or.inr rfl) (hv := by decide)) (gs_cons (g_name (i := 3) sc_Hierarchy_init.nd rfl (by first | exact Or.inl rfl | exact Or.inr rfl) (hv := by decide)) (gs_nil)))) (ss_gc (s_cons (s_set (i := 4) sc_Hierarchy_init.nd rfl (by first | exact Or.inl rfl | exact Or.inr rfl) (e_call (fn_element_problem U Z hm) hgd (hr.mono (by decide)) (takes_of rfl rfl rfl rfl) rfl rfl Z.g_element_problem Z.F_element_problem.kp (pos_element_problem Z) (a_cons (ev 3) (a_cons (e_fld (cl_Hierarchy Z) rfl (ev 0)) (a_nil)))))
  (s_cons (s_if (t_cmp o_isnot (ev 4) (e_non) (nomark _)) (s_one (s_never)) (s_nil))
  (s_cons (s_asg (vs := [5, 6]) (ev 3) (g_tup rfl rfl (gs_cons (g_name (i := 5) sc_Hierarchy_init.nd rfl (by first | exact Or.inl rfl | exact Or.inr rfl) (hv := by decide)) (gs_cons (g_name (i := 6) sc_Hierarchy_init.nd rfl (by first | exact Or.inl rfl | exact Or.inr rfl) (hv := by decide)) (gs_nil)))))
  (s_one (s_asg (vs := []) (ev 6) (g_sub (e_fld (cl_Hierarchy Z) rfl (ev 0)) (ev 5) (st_dict rfl)))))))))
  (s_cons (s_if (t_cmp o_gt (e_callB (c_lenD rfl rfl) rfl Z.n_len bo_len (a_cons (e_fld (cl_Hierarchy Z) rfl (ev 0)) (a_nil))) (e_con (cl_Hierarchy Z) Z.k_Hierarchy_LIMIT (by decide) (fun F => by simp only [Rep]) (ev 0)) (nomark _)) (s_one (s_never)) (s_nil))
  (s_cons (s_fld (cl_Hierarchy Z) rfl (ev 0) (e_dict0))
  (s_one (s_for (passes_of rfl) rfl (vs := [5]) (i_dk rfl rfl (e_fld (cl_Hierarchy Z) rfl (ev 0))) (g_name (i := 5) sc_Hierarchy_init.nd rfl (by first | exact Or.inl rfl | exact Or.inr rfl) (hv := by decide)) (ss_gc (s_one (s_asg (vs := []) (e_meth (cl_Hierarchy Z) Z.me_Hierarchy_ancestors_of_new (by decide) (fn_Hierarchy_ancestors_of_new U Z hm) hgd (hr.mono (by decide)) (takes_of rfl rfl rfl rfl) rfl (pos_Hierarchy_ancestors_of_new Z) (ev 0) (a_cons (ev 5) (a_nil))) (g_sub (e_fld (cl_Hierarchy Z) rfl (ev 0)) (ev 5) (st_dict rfl))))))))))))
theorem fn_Hierarchy_init (U : Pures) (Z : Fx K mg) (hm : (base.get? sysModules).isSome = true) : FnD P w K mg base (gm Z w) 3 Z.a_Hierarchy_init Z.d_Hierarchy_init ["self", "classes"] DH.sp_Hierarchy_init :=
  FnD.loc (fnD_of (sp := DH.sl_Hierarchy_init) Z.F_Hierarchy_init sc_Hierarchy_init DH.len_Hierarchy_init (fun cdv A outer s H E hgd hr => b_Hierarchy_init U Z hm hgd hr) fun ws cs Q E _ h => DH.p_Hierarchy_init ws cs Q E h)
theorem b__law_all_points (U : Pures) (Z : Fx K mg) (hm : (base.get? sysModules).isSome = true) {cdv : Value} {A : Around} {outer : List PySem.Env} {s : Shared} {H : Hp} {E : XK} (hgd : A.guards = some []) (hr : Room 0 (A.deeper (envOfC "_law_all_points" (defScope (top 42)) s.heap.objs.size Z.a__law_all_points cdv))) :
    DSs (cxOf (L2.CX P w) P w K mg base DH.N__law_all_points "_law_all_points" (defScope (top 42)) Z.a__law_all_points cdv A outer s H E) (gm Z w) (fun c d _ H => E c d H) (defBody (top 42)) DH.t__law_all_points :=
  s_cons (s_set (i := 2) sc__law_all_points.nd rfl (by first | exact Or.inl rfl | exact Or.inr rfl) (e_lst (a_cons (e_tup (a_nil)) (a_nil))))
  (s_cons (s_for (passes_of rfl) rfl (vs := [3]) (i_range1 rfl Z.n_range (a_cons (ev 1) (a_nil))) (g_name (i := 3) sc__law_all_points.nd rfl (by first | exact Or.inl rfl | exact Or.inr rfl) (hv := by decide)) (ss_gc (s_cons (s_set (i := 4) sc__law_all_points.nd rfl (by first | exact Or.inl rfl | exact Or.inr rfl) (e_lst (a_nil)))
  (s_cons (s_for (passes_of rfl) rfl (vs := [5]) (i_seq rfl (ev 2)) (g_name (i := 5) sc__law_all_points.nd rfl (by first | exact Or.inl rfl | exact Or.inr rfl) (hv := by decide)) (ss_gc (s_one (s_expr (e_bm PySem.F.plainAttrs_list PySem.F.slot_list_extend PySem.F.type_list_extend rfl m_extend (ev 4) (a_cons (e_lc (own := [("_law_row", 6)]) rfl sc__law_all_points.nd (i_seq rfl (ev 0)) (blkOk_by (own := [("_law_row", 6)]) (N := DH.N__law_all_points) (sc := defScope (top 42)) (by decide +kernel)) (fun _ _ _ _ _ => g_name (i := 6) sc__law_all_points.nd rfl (by first | exact Or.inl rfl | exact Or.inr rfl) (hv := by decide)) (fun _ _ _ _ _ => ts_nil) (fun _ _ _ _ _ => e_bin (o_add rfl) (ev 5) (e_tup (a_cons (e_sub (x_ix rfl) (ev 6) (e_int) (fun _ _ => rfl)) (a_nil))))) (a_nil)))))))
  (s_one (s_set (i := 2) sc__law_all_points.nd rfl (by first | exact Or.inl rfl | exact Or.inr rfl) (ev 4)))))))
  (s_one (s_ret (ev 2))))
theorem fn__law_all_points (U : Pures) (Z : Fx K mg) (hm : (base.get? sysModules).isSome = true) : FnD P w K mg base (gm Z w) 1 Z.a__law_all_points Z.d__law_all_points ["_law_rows", "_law_many"] DH.sp__law_all_points :=
  FnD.loc (fnD_of (sp := DH.sl__law_all_points) Z.F__law_all_points sc__law_all_points DH.len__law_all_points (fun cdv A outer s H E hgd hr => b__law_all_points U Z hm hgd hr) fun ws cs Q E _ h => DH.p__law_all_points ws cs Q E h)
theorem b__law_draw (U : Pures) (Z : Fx K mg) (hm : (base.get? sysModules).isSome = true) {cdv : Value} {A : Around} {outer : List PySem.Env} {s : Shared} {H : Hp} {E : XK} (hgd : A.guards = some []) (hr : Room 0 (A.deeper (envOfC "_law_draw" (defScope (top 34)) s.heap.objs.size Z.a__law_draw cdv))) :
    DSs (cxOf (L2.CX P w) P w K mg base DH.N__law_draw "_law_draw" (defScope (top 34)) Z.a__law_draw cdv A outer s H E) (gm Z w) (fun c d _ H => E c d H) (defBody (top 34)) DH.t__law_draw :=
  s_cons (s_if (t_cmp o_gt (e_sub (x_ix rfl) (ev 0) (e_int) (fun _ _ => rfl)) (e_int) (nomark _)) (s_cons (s_asg (vs := [2]) (e_callB (c_divmod) rfl Z.n_divmod bo_divmod (a_cons (e_sub (x_ix rfl) (ev 0) (e_int) (fun _ _ => rfl)) (a_cons (ev 1) (a_nil)))) (g_tup rfl rfl (gs_cons (g_sub (ev 0) (e_int) st_list) (gs_cons (g_name (i := 2) sc__law_draw.nd rfl (by first | exact Or.inl rfl | exact Or.inr rfl) (hv := by decide)) (gs_nil)))))
  (s_one (s_ret (ev 2)))) (s_nil))
  (s_cons (s_asg (vs := []) (e_bin o_mod (e_bin (o_add rfl) (e_bin o_mul (e_sub (x_ix rfl) (ev 0) (e_int) (fun _ _ => rfl)) (e_int)) (e_int)) (e_int)) (g_sub (ev 0) (e_int) st_list))
  (s_one (s_ret (e_bin o_mod (e_bin o_fdiv (e_bin o_mod (e_bin o_mul (e_sub (x_ix rfl) (ev 0) (e_int) (fun _ _ => rfl)) (e_sub (x_ix rfl) (ev 0) (e_int) (fun _ _ => rfl))) (e_int)) (e_int)) (ev 1)))))
theorem fn__law_draw (U : Pures) (Z : Fx K mg) (hm : (base.get? sysModules).isSome = true) : FnD P w K mg base (gm Z w) 1 Z.a__law_draw Z.d__law_draw ["_law_pot_here", "_law_many"] DH.sp__law_draw :=
  FnD.loc (fnD_of (sp := DH.sl__law_draw) Z.F__law_draw sc__law_draw DH.len__law_draw (fun cdv A outer s H E hgd hr => b__law_draw U Z hm hgd hr) fun ws cs Q E _ h => DH.p__law_draw ws cs Q E h)
theorem b__law_mixed (U : Pures) (Z : Fx K mg) (hm : (base.get? sysModules).isSome = true) {cdv : Value} {A : Around} {outer : List PySem.Env} {s : Shared} {H : Hp} {E : XK} (hgd : A.guards = some []) (hr : Room 1 (A.deeper (envOfC "_law_mixed" (defScope (top 35)) s.heap.objs.size Z.a__law_mixed cdv))) :
    DSs (cxOf (L2.CX P w) P w K mg base DH.N__law_mixed "_law_mixed" (defScope (top 35)) Z.a__law_mixed cdv A outer s H E) (gm Z w) (fun c d _ H => E c d H) (defBody (top 35)) DH.t__law_mixed :=
  s_cons (s_set (i := 2) sc__law_mixed.nd rfl (by first | exact Or.inl rfl | exact Or.inr rfl) (e_callTy (c_listOf rfl) rfl Z.n_list bo_list (a_cons (ev 1) (a_nil))))
  (s_one (s_ret (e_lc (own := [("_law_turn", 3)]) rfl sc__law_mixed.nd (i_range1 rfl Z.n_range (a_cons (e_callB (c_len rfl) rfl Z.n_len bo_len (a_cons (ev 1) (a_nil))) (a_nil))) (blkOk_by (own := [("_law_turn", 3)]) (N := DH.N__law_mixed) (sc := defScope (top 35)) (by decide +kernel)) (fun _ _ _ _ _ => g_name (i := 3) sc__law_mixed.nd rfl (by first | exact Or.inl rfl | exact Or.inr rfl) (hv := by decide)) (fun _ _ _ _ _ => ts_nil) (fun _ _ _ _ _ => e_bm PySem.F.plainAttrs_list PySem.F.slot_list_pop PySem.F.type_list_pop rfl m_popAt (ev 2) (a_cons (e_call (fn__law_draw U Z hm) hgd (hr.mono (by decide)) tkF rfl rfl Z.g__law_draw Z.F__law_draw.kp (pos__law_draw Z) (a_cons (ev 0) (a_cons (e_callB (c_len rfl) rfl Z.n_len bo_len (a_cons (ev 2) (a_nil))) (a_nil)))) (a_nil))))))
theorem fn__law_mixed (U : Pures) (Z : Fx K mg) (hm : (base.get? sysModules).isSome = true) : FnD P w K mg base (gm Z w) 2 Z.a__law_mixed Z.d__law_mixed ["_law_pot_here", "_law_some"] DH.sp__law_mixed :=
  FnD.loc (fnD_of (sp := DH.sl__law_mixed) Z.F__law_mixed sc__law_mixed DH.len__law_mixed (fun cdv A outer s H E hgd hr => b__law_mixed U Z hm hgd hr) fun ws cs Q E _ h => DH.p__law_mixed ws cs Q E h)
theorem b__law_name (U : Pures) (Z : Fx K mg) (hm : (base.get? sysModules).isSome = true) {cdv : Value} {A : Around} {outer : List PySem.Env} {s : Shared} {H : Hp} {E : XK} (hgd : A.guards = some []) (hr : Room 1 (A.deeper (envOfC "_law_name" (defScope (top 36)) s.heap.objs.size Z.a__law_name cdv))) :
    DSs (cxOf (L2.CX P w) P w K mg base DH.N__law_name "_law_name" (defScope (top 36)) Z.a__law_name cdv A outer s H E) (gm Z w) (fun c d _ H => E c d H) (defBody (top 36)) DH.t__law_name :=
  s_cons (s_set (i := 1) sc__law_name.nd rfl (by first | exact Or.inl rfl | exact Or.inr rfl) (e_str))
  (s_one (s_ret (e_bm PySem.F.plainAttrs_str PySem.F.slot_str_join PySem.F.type_str_join rfl (m_join rfl) (e_str) (a_cons (e_lc (own := [("_law_turn", 2)]) rfl sc__law_name.nd (i_range1 rfl Z.n_range (a_cons (e_sub (x_ix rfl) (e_lst (a_cons (e_int) (a_cons (e_int) (a_cons (e_int) (a_nil))))) (e_call (fn__law_draw U Z hm) hgd (hr.mono (by decide)) (takes_of rfl rfl rfl rfl) rfl rfl Z.g__law_draw Z.F__law_draw.kp (pos__law_draw Z) (a_cons (ev 0) (a_cons (e_int) (a_nil)))) (fun _ _ => rfl)) (a_nil))) (blkOk_by (own := [("_law_turn", 2)]) (N := DH.N__law_name) (sc := defScope (top 36)) (by decide +kernel)) (fun _ _ _ _ _ => g_name (i := 2) sc__law_name.nd rfl (by first | exact Or.inl rfl | exact Or.inr rfl) (hv := by decide)) (fun _ _ _ _ _ => ts_nil) (fun _ _ _ _ _ => e_sub (x_ix rfl) (ev 1) (e_call (fn__law_draw U Z hm) hgd (hr.mono (by decide)) tkF rfl rfl Z.g__law_draw Z.F__law_draw.kp (pos__law_draw Z) (a_cons (ev 0) (a_cons (e_int) (a_nil)))) (fun _ _ => rfl))) (a_nil)))))
theorem fn__law_name (U : Pures) (Z : Fx K mg) (hm : (base.get? sysModules).isSome = true) : FnD P w K mg base (gm Z w) 2 Z.a__law_name Z.d__law_name ["_law_pot_here"] DH.sp__law_name :=
  FnD.loc (fnD_of (sp := DH.sl__law_name) Z.F__law_name sc__law_name DH.len__law_name (fun cdv A outer s H E hgd hr => b__law_name U Z hm hgd hr) fun ws cs Q E _ h => DH.p__law_name ws cs Q E h)
theorem b__law_names (U : Pures) (Z : Fx K mg) (hm : (base.get? sysModules).isSome = true) {cdv : Value} {A : Around} {outer : List PySem.Env} {s : Shared} {H : Hp} {E : XK} (hgd : A.guards = some []) (hr : Room 2 (A.deeper (envOfC "_law_names" (defScope (top 37)) s.heap.objs.size Z.a__law_names cdv))) :
    DSs (cxOf (L2.CX P w) P w K mg base DH.N__law_names "_law_names" (defScope (top 37)) Z.a__law_names cdv A outer s H E) (gm Z w) (fun c d _ H => E c d H) (defBody (top 37)) DH.t__law_names :=
  s_cons (s_set (i := 2) sc__law_names.nd rfl (by first | exact Or.inl rfl | exact Or.inr rfl) (e_lst (a_nil)))
  (s_cons (s_for (passes_of rfl) rfl (vs := [3]) (i_range1 rfl Z.n_range (a_cons (ev 1) (a_nil))) (g_name (i := 3) sc__law_names.nd rfl (by first | exact Or.inl rfl | exact Or.inr rfl) (hv := by decide)) (ss_gc (s_cons (s_set (i := 4) sc__law_names.nd rfl (by first | exact Or.inl rfl | exact Or.inr rfl) (e_call (fn__law_name U Z hm) hgd (hr.mono (by decide)) (takes_of rfl rfl rfl rfl) rfl rfl Z.g__law_name Z.F__law_name.kp (pos__law_name Z) (a_cons (ev 0) (a_nil))))
  (s_cons (s_setLc (i := 5) (own := [("_law_letter", 6)]) rfl sc__law_names.nd rfl rfl (sw_true rfl rfl rfl (by decide +kernel)) (i_seq rfl (e_str)) (blkOk_by (own := [("_law_letter", 6)]) (N := DH.N__law_names) (sc := defScope (top 37)) (by decide +kernel)) (fun _ _ _ _ _ => g_name (i := 6) sc__law_names.nd rfl (by first | exact Or.inl rfl | exact Or.inr rfl) (hv := by decide)) (fun _ _ _ _ _ => ts_one (t_cmp (o_notInSeq rfl hr.units) (ev 6) (ev 2) (by with_unfolding_all rfl))) (fun _ _ _ _ _ => ev 6))
  (s_one (s_expr (e_bm PySem.F.plainAttrs_list PySem.F.slot_list_append PySem.F.type_list_append rfl m_append (ev 2) (a_cons (e_ifExp (t_cmp (o_inSeq rfl hr.units) (ev 4) (ev 2) (by with_unfolding_all rfl)) (e_sub (x_ix rfl) (ev 5) (e_int) (fun _ _ => rfl)) (ev 4)) (a_nil)))))))))
  (s_one (s_ret (ev 2))))
theorem fn__law_names (U : Pures) (Z : Fx K mg) (hm : (base.get? sysModules).isSome = true) : FnD P w K mg base (gm Z w) 3 Z.a__law_names Z.d__law_names ["_law_pot_here", "_law_many"] DH.sp__law_names :=
  FnD.loc (fnD_of (sp := DH.sl__law_names) Z.F__law_names sc__law_names DH.len__law_names (fun cdv A outer s H E hgd hr => b__law_names U Z hm hgd hr) fun ws cs Q E _ h => DH.p__law_names ws cs Q E h)
theorem b__law_kinds (U : Pures) (Z : Fx K mg) (hm : (base.get? sysModules).isSome = true) {cdv : Value} {A : Around} {outer : List PySem.Env} {s : Shared} {H : Hp} {E : XK} (hgd : A.guards = some []) (hr : Room 3 (A.deeper (envOfC "_law_kinds" (defScope (top 38)) s.heap.objs.size Z.a__law_kinds cdv))) :
    DSs (cxOf (L2.CX P w) P w K mg base DH.N__law_kinds "_law_kinds" (defScope (top 38)) Z.a__law_kinds cdv A outer s H E) (gm Z w) (fun c d _ H => E c d H) (defBody (top 38)) DH.t__law_kinds :=
  s_cons (s_set (i := 2) sc__law_kinds.nd rfl (by first | exact Or.inl rfl | exact Or.inr rfl) (e_lst (a_nil)))
  (s_cons (s_for (passes_of rfl) rfl (vs := [3]) (i_seq rfl (e_call (fn__law_names U Z hm) hgd (hr.mono (by decide)) (takes_of rfl rfl rfl rfl) rfl rfl Z.g__law_names Z.F__law_names.kp (pos__law_names Z) (a_cons (ev 0) (a_cons (e_bin (o_add rfl) (e_int) (e_call (fn__law_draw U Z hm) hgd (hr.mono (by decide)) (takes_of rfl rfl rfl rfl) rfl rfl Z.g__law_draw Z.F__law_draw.kp (pos__law_draw Z) (a_cons (ev 0) (a_cons (ev 1) (a_nil))))) (a_nil))))) (g_name (i := 3) sc__law_kinds.nd rfl (by first | exact Or.inl rfl | exact Or.inr rfl) (hv := by decide)) (ss_gc (s_cons (s_set (i := 4) sc__law_kinds.nd rfl (by first | exact Or.inl rfl | exact Or.inr rfl) (e_sub (x_ix rfl) (e_lst (a_cons (e_int) (a_cons (e_int) (a_cons (e_int) (a_cons (e_int) (a_cons (e_int) (a_cons (e_int) (a_nil)))))))) (e_call (fn__law_draw U Z hm) hgd (hr.mono (by decide)) (takes_of rfl rfl rfl rfl) rfl rfl Z.g__law_draw Z.F__law_draw.kp (pos__law_draw Z) (a_cons (ev 0) (a_cons (e_int) (a_nil)))) (fun _ _ => rfl)))
  (s_one (s_expr (e_bm PySem.F.plainAttrs_list PySem.F.slot_list_append PySem.F.type_list_append rfl m_append (ev 2) (a_cons (e_tup (a_cons (ev 3) (a_cons (e_callTy (c_tupleOf rfl) rfl Z.n_tuple bo_tuple (a_cons (e_slice rfl (e_call (fn__law_mixed U Z hm) hgd (hr.mono (by decide)) (takes_of rfl rfl rfl rfl) rfl rfl Z.g__law_mixed Z.F__law_mixed.kp (pos__law_mixed Z) (a_cons (ev 0) (a_cons (e_lc (own := [("_law_row", 5)]) rfl sc__law_kinds.nd (i_seq rfl (ev 2)) (blkOk_by (own := [("_law_row", 5)]) (N := DH.N__law_kinds) (sc := defScope (top 38)) (by decide +kernel)) (fun _ _ _ _ _ => g_name (i := 5) sc__law_kinds.nd rfl (by first | exact Or.inl rfl | exact Or.inr rfl) (hv := by decide)) (fun _ _ _ _ _ => ts_nil) (fun _ _ _ _ _ => e_sub (x_ix rfl) (ev 5) (e_int) (fun _ _ => rfl))) (a_nil)))) (p_none) (p_some (ev 4))) (a_nil))) (a_nil)))) (a_nil))))))))
  (s_one (s_ret (ev 2))))
theorem fn__law_kinds (U : Pures) (Z : Fx K mg) (hm : (base.get? sysModules).isSome = true) : FnD P w K mg base (gm Z w) 4 Z.a__law_kinds Z.d__law_kinds ["_law_pot_here", "_law_most"] DH.sp__law_kinds :=
  FnD.loc (fnD_of (sp := DH.sl__law_kinds) Z.F__law_kinds sc__law_kinds DH.len__law_kinds (fun cdv A outer s H E hgd hr => b__law_kinds U Z hm hgd hr) fun ws cs Q E _ h => DH.p__law_kinds ws cs Q E h)
theorem b__law_pot (U : Pures) (Z : Fx K mg) (hm : (base.get? sysModules).isSome = true) {cdv : Value} {A : Around} {outer : List PySem.Env} {s : Shared} {H : Hp} {E : XK} (hgd : A.guards = some []) (hr : Room 0 (A.deeper (envOfC "_law_pot" (defScope (top 33)) s.heap.objs.size Z.a__law_pot cdv))) :
    DSs (cxOf (L2.CX P w) P w K mg base DH.N__law_pot "_law_pot" (defScope (top 33)) Z.a__law_pot cdv A outer s H E) (gm Z w) (fun c d _ H => E c d H) (defBody (top 33)) DH.t__law_pot :=
  s_cons (s_set (i := 2) sc__law_pot.nd rfl (by first | exact Or.inl rfl | exact Or.inr rfl) (e_ifExp (t_cmp o_lt (ev 1) (e_callB (c_len rfl) rfl Z.n_len bo_len (a_cons (ev 0) (a_nil))) (nomark _)) (e_sub (x_ix rfl) (ev 0) (ev 1) (fun _ _ => rfl)) (e_int)))
  (s_one (s_ret (e_lst (a_cons (e_callB (c_max2 rfl) rfl Z.n_max bo_max (a_cons (e_int) (a_cons (e_bin o_sub (e_callB (c_abs) rfl Z.n_abs bo_abs (a_cons (ev 2) (a_nil))) (e_bin o_pow (e_int) (e_int))) (a_nil)))) (a_cons (e_bin o_mod (e_bin (o_add rfl) (e_bin (o_add rfl) (e_bin o_mul (e_bin o_mod (e_callB (c_abs) rfl Z.n_abs bo_abs (a_cons (ev 2) (a_nil))) (e_int)) (e_int)) (e_bin o_mul (e_int) (ev 1))) (e_int)) (e_int)) (a_nil))))))
theorem fn__law_pot (U : Pures) (Z : Fx K mg) (hm : (base.get? sysModules).isSome = true) : FnD P w K mg base (gm Z w) 1 Z.a__law_pot Z.d__law_pot ["_law_script", "_law_k"] DH.sp__law_pot :=
  FnD.loc (fnD_of (sp := DH.sl__law_pot) Z.F__law_pot sc__law_pot DH.len__law_pot (fun cdv A outer s H E hgd hr => b__law_pot U Z hm hgd hr) fun ws cs Q E _ h => DH.p__law_pot ws cs Q E h)
theorem b__law_is_under (U : Pures) (Z : Fx K mg) (hm : (base.get? sysModules).isSome = true) {cdv : Value} {A : Around} {outer : List PySem.Env} {s : Shared} {H : Hp} {E : XK} (hgd : A.guards = some []) (hr : Room 0 (A.deeper (envOfC "_law_is_under" (defScope (top 41)) s.heap.objs.size Z.a__law_is_under cdv))) :
    DSs (cxOf (L2.CX P w) P w K mg base DH.N__law_is_under "_law_is_under" (defScope (top 41)) Z.a__law_is_under cdv A outer s H E) (gm Z w) (fun c d _ H => E c d H) (defBody (top 41)) DH.t__law_is_under :=
  s_one (s_ret (e_callB (c_all rfl rfl) rfl Z.n_all bo_all (a_cons (e_lc (own := [("_law_low", 3), ("_law_high", 4)]) rfl sc__law_is_under.nd (i_zip rfl rfl Z.n_zip (a_cons (ev 1) (a_cons (ev 2) (a_nil)))) (blkOk_by (own := [("_law_low", 3), ("_law_high", 4)]) (N := DH.N__law_is_under) (sc := defScope (top 41)) (by decide +kernel)) (fun _ _ _ _ _ => g_tup rfl rfl (gs_cons (g_name (i := 3) sc__law_is_under.nd rfl (by first | exact Or.inl rfl | exact Or.inr rfl) (hv := by decide)) (gs_cons (g_name (i := 4) sc__law_is_under.nd rfl (by first | exact Or.inl rfl | exact Or.inr rfl) (hv := by decide)) (gs_nil)))) (fun _ _ _ _ _ => ts_nil) (fun _ _ _ _ _ => e_cmp (o_inSeq rfl hr.units) (ev 4) (e_sub (x_ixD rfl rfl) (ev 0) (ev 3) (fun _ _ => rfl)) (by with_unfolding_all rfl))) (a_nil))))
theorem fn__law_is_under (U : Pures) (Z : Fx K mg) (hm : (base.get? sysModules).isSome = true) : FnD P w K mg base (gm Z w) 1 Z.a__law_is_under Z.d__law_is_under ["_law_ups_here", "_law_inner", "_law_outer"] DH.sp__law_is_under :=
  FnD.loc (fnD_of (sp := DH.sl__law_is_under) Z.F__law_is_under sc__law_is_under DH.len__law_is_under (fun cdv A outer s H E hgd hr => b__law_is_under U Z hm hgd hr) fun ws cs Q E _ h => DH.p__law_is_under ws cs Q E h)
theorem b_Hierarchy_has_class (U : Pures) (Z : Fx K mg) (hm : (base.get? sysModules).isSome = true) {cdv : Value} {A : Around} {outer : List PySem.Env} {s : Shared} {H : Hp} {E : XK} (hgd : A.guards = some []) (hr : Room 0 (A.deeper (envOfC "Hierarchy.has_class" (defScope (inClass (top 31) 7)) s.heap.objs.size Z.a_Hierarchy_has_class cdv))) :
    DSs (cxOf (L2.CX P w) P w K mg base DH.N_Hierarchy_has_class "Hierarchy.has_class" (defScope (inClass (top 31) 7)) Z.a_Hierarchy_has_class cdv A outer s H E) (gm Z w) (fun c d _ H => E c d H) (defBody (inClass (top 31) 7)) DH.t_Hierarchy_has_class :=
  s_one (s_ret (e_and (e_callB (c_isi rfl) rfl Z.n_isinstance bo_isinstance (a_cons (ev 1) (a_cons (e_ty rfl Z.n_str bo_str) (a_nil)))) (e_one (e_cmp (o_inD rfl rfl) (ev 1) (e_fld (cl_Hierarchy Z) rfl (ev 0)) (by with_unfolding_all rfl)))))
theorem fn_Hierarchy_has_class (U : Pures) (Z : Fx K mg) (hm : (base.get? sysModules).isSome = true) : FnD P w K mg base (gm Z w) 1 Z.a_Hierarchy_has_class Z.d_Hierarchy_has_class ["self", "value"] DH.sp_Hierarchy_has_class :=
  FnD.loc (fnD_of (sp := DH.sl_Hierarchy_has_class) Z.F_Hierarchy_has_class sc_Hierarchy_has_class DH.len_Hierarchy_has_class (fun cdv A outer s H E hgd hr => b_Hierarchy_has_class U Z hm hgd hr) fun ws cs Q E _ h => DH.p_Hierarchy_has_class ws cs Q E h)
theorem b_Hierarchy_require_class (U : Pures) (Z : Fx K mg) (hm : (base.get? sysModules).isSome = true) {cdv : Value} {A : Around} {outer : List PySem.Env} {s : Shared} {H : Hp} {E : XK} (hgd : A.guards = some []) (hr : Room 1 (A.deeper (envOfC "Hierarchy.require_class" (defScope (inClass (top 31) 5)) s.heap.objs.size Z.a_Hierarchy_require_class cdv))) :
    DSs (cxOf (L2.CX P w) P w K mg base DH.N_Hierarchy_require_class "Hierarchy.require_class" (defScope (inClass (top 31) 5)) Z.a_Hierarchy_require_class cdv A outer s H E) (gm Z w) (fun c d _ H => E c d H) (defBody (inClass (top 31) 5)) DH.t_Hierarchy_require_class :=
  s_one (s_if (t_not (t_val (e_meth (cl_Hierarchy Z) Z.me_Hierarchy_has_class (by decide) (fn_Hierarchy_has_class U Z hm) hgd (hr.mono (by decide)) (takes_of rfl rfl rfl rfl) rfl (pos_Hierarchy_has_class Z) (ev 0) (a_cons (ev 1) (a_nil))))) (s_one (s_never)) (s_nil))
theorem fn_Hierarchy_require_class (U : Pures) (Z : Fx K mg) (hm : (base.get? sysModules).isSome = true) : FnD P w K mg base (gm Z w) 2 Z.a_Hierarchy_require_class Z.d_Hierarchy_require_class ["self", "value"] DH.sp_Hierarchy_require_class :=
  FnD.loc (fnD_of (sp := DH.sl_Hierarchy_require_class) Z.F_Hierarchy_require_class sc_Hierarchy_require_class DH.len_Hierarchy_require_class (fun cdv A outer s H E hgd hr => b_Hierarchy_require_class U Z hm hgd hr) fun ws cs Q E _ h => DH.p_Hierarchy_require_class ws cs Q E h)
theorem b_Hierarchy_is_at_or_below (U : Pures) (Z : Fx K mg) (hm : (base.get? sysModules).isSome = true) {cdv : Value} {A : Around} {outer : List PySem.Env} {s : Shared} {H : Hp} {E : XK} (hgd : A.guards = some []) (hr : Room 2 (A.deeper (envOfC "Hierarchy.is_at_or_below" (defScope (inClass (top 31) 10)) s.heap.objs.size Z.a_Hierarchy_is_at_or_below cdv))) :
    DSs (cxOf (L2.CX P w) P w K mg base DH.N_Hierarchy_is_at_or_below "Hierarchy.is_at_or_below" (defScope (inClass (top 31) 10)) Z.a_Hierarchy_is_at_or_below cdv A outer s H E) (gm Z w) (fun c d _ H => E c d H) (defBody (inClass (top 31) 10)) DH.t_Hierarchy_is_at_or_below :=
  s_cons (s_expr (e_meth (cl_Hierarchy Z) Z.me_Hierarchy_require_class (by decide) (fn_Hierarchy_require_class U Z hm) hgd (hr.mono (by decide)) (takes_of rfl rfl rfl rfl) rfl (pos_Hierarchy_require_class Z) (ev 0) (a_cons (ev 1) (a_nil))))
  (s_cons (s_expr (e_meth (cl_Hierarchy Z) Z.me_Hierarchy_require_class (by decide) (fn_Hierarchy_require_class U Z hm) hgd (hr.mono (by decide)) (takes_of rfl rfl rfl rfl) rfl (pos_Hierarchy_require_class Z) (ev 0) (a_cons (ev 2) (a_nil))))
  (s_one (s_ret (e_cmp (o_inSeq rfl hr.units) (ev 2) (e_sub (x_ixD rfl rfl) (e_fld (cl_Hierarchy Z) rfl (ev 0)) (ev 1) (fun _ _ => rfl)) (by with_unfolding_all rfl)))))
theorem fn_Hierarchy_is_at_or_below (U : Pures) (Z : Fx K mg) (hm : (base.get? sysModules).isSome = true) : FnD P w K mg base (gm Z w) 3 Z.a_Hierarchy_is_at_or_below Z.d_Hierarchy_is_at_or_below ["self", "name", "other"] DH.sp_Hierarchy_is_at_or_below :=
  FnD.loc (fnD_of (sp := DH.sl_Hierarchy_is_at_or_below) Z.F_Hierarchy_is_at_or_below sc_Hierarchy_is_at_or_below DH.len_Hierarchy_is_at_or_below (fun cdv A outer s H E hgd hr => b_Hierarchy_is_at_or_below U Z hm hgd hr) fun ws cs Q E _ h => DH.p_Hierarchy_is_at_or_below ws cs Q E h)
theorem b_lies_at_or_below (U : Pures) (Z : Fx K mg) (hm : (base.get? sysModules).isSome = true) {cdv : Value} {A : Around} {outer : List PySem.Env} {s : Shared} {H : Hp} {E : XK} (hgd : A.guards = some []) (hr : Room 3 (A.deeper (envOfC "lies_at_or_below" (defScope (top 18)) s.heap.objs.size Z.a_lies_at_or_below cdv))) :
    DSs (cxOf (L2.CX P w) P w K mg base DH.N_lies_at_or_below "lies_at_or_below" (defScope (top 18)) Z.a_lies_at_or_below cdv A outer s H E) (gm Z w) (fun c d _ H => E c d H) (defBody (top 18)) DH.t_lies_at_or_below :=
  s_one (s_ret (e_callB (c_all rfl rfl) rfl Z.n_all bo_all (a_cons (e_lc (own := [("name", 3), ("other", 4)]) rfl sc_lies_at_or_below.nd (i_zip rfl rfl Z.n_zip (a_cons (ev 1) (a_cons (ev 2) (a_nil)))) (blkOk_by (own := [("name", 3), ("other", 4)]) (N := DH.N_lies_at_or_below) (sc := defScope (top 18)) (by decide +kernel)) (fun _ _ _ _ _ => g_tup rfl rfl (gs_cons (g_name (i := 3) sc_lies_at_or_below.nd rfl (by first | exact Or.inl rfl | exact Or.inr rfl) (hv := by decide)) (gs_cons (g_name (i := 4) sc_lies_at_or_below.nd rfl (by first | exact Or.inl rfl | exact Or.inr rfl) (hv := by decide)) (gs_nil)))) (fun _ _ _ _ _ => ts_nil) (fun _ _ _ _ _ => e_meth (cl_Hierarchy Z) Z.me_Hierarchy_is_at_or_below (by decide) (fn_Hierarchy_is_at_or_below U Z hm) hgd (hr.mono (by decide)) tkF rfl (pos_Hierarchy_is_at_or_below Z) (ev 0) (a_cons (ev 3) (a_cons (ev 4) (a_nil))))) (a_nil))))
theorem fn_lies_at_or_below (U : Pures) (Z : Fx K mg) (hm : (base.get? sysModules).isSome = true) : FnD P w K mg base (gm Z w) 4 Z.a_lies_at_or_below Z.d_lies_at_or_below ["hierarchy", "first", "second"] DH.sp_lies_at_or_below :=
  FnD.loc (fnD_of (sp := DH.sl_lies_at_or_below) Z.F_lies_at_or_below sc_lies_at_or_below DH.len_lies_at_or_below (fun cdv A outer s H E hgd hr => b_lies_at_or_below U Z hm hgd hr) fun ws cs Q E _ h => DH.p_lies_at_or_below ws cs Q E h)
theorem b_is_count (U : Pures) (Z : Fx K mg) (hm : (base.get? sysModules).isSome = true) {cdv : Value} {A : Around} {outer : List PySem.Env} {s : Shared} {H : Hp} {E : XK} (hgd : A.guards = some []) (hr : Room 0 (A.deeper (envOfC "is_count" (defScope (top 14)) s.heap.objs.size Z.a_is_count cdv))) :
    DSs (cxOf (L2.CX P w) P w K mg base DH.N_is_count "is_count" (defScope (top 14)) Z.a_is_count cdv A outer s H E) (gm Z w) (fun c d _ H => E c d H) (defBody (top 14)) DH.t_is_count :=
  s_one (s_ret (e_and (e_callB (c_isi rfl) rfl Z.n_isinstance bo_isinstance (a_cons (ev 0) (a_cons (e_ty rfl Z.n_int bo_int) (a_nil)))) (e_and (e_not (e_callB (c_isi rfl) rfl Z.n_isinstance bo_isinstance (a_cons (ev 0) (a_cons (e_ty rfl Z.n_bool bo_bool) (a_nil))))) (e_one (e_chain o_le o_le (e_int) (ev 0) (e_gint rfl Z.m_MAX_PARAMETERS Z.v_MAX_PARAMETERS))))))
theorem fn_is_count (U : Pures) (Z : Fx K mg) (hm : (base.get? sysModules).isSome = true) : FnD P w K mg base (gm Z w) 1 Z.a_is_count Z.d_is_count ["value"] DH.sp_is_count :=
  FnD.loc (fnD_of (sp := DH.sl_is_count) Z.F_is_count sc_is_count DH.len_is_count (fun cdv A outer s H E hgd hr => b_is_count U Z hm hgd hr) fun ws cs Q E _ h => DH.p_is_count ws cs Q E h)
theorem b_is_point (U : Pures) (Z : Fx K mg) (hm : (base.get? sysModules).isSome = true) {cdv : Value} {A : Around} {outer : List PySem.Env} {s : Shared} {H : Hp} {E : XK} (hgd : A.guards = some []) (hr : Room 1 (A.deeper (envOfC "is_point" (defScope (top 15)) s.heap.objs.size Z.a_is_point cdv))) :
    DSs (cxOf (L2.CX P w) P w K mg base DH.N_is_point "is_point" (defScope (top 15)) Z.a_is_point cdv A outer s H E) (gm Z w) (fun c d _ H => E c d H) (defBody (top 15)) DH.t_is_point :=
  s_cons (s_if (t_bool (w_or (t_not (t_val (e_callB (c_isi rfl) rfl Z.n_isinstance bo_isinstance (a_cons (ev 1) (a_cons (e_ty rfl Z.n_tuple bo_tuple) (a_nil)))))) (w_or1 (t_not (t_val (e_call (fn_is_count U Z hm) hgd (hr.mono (by decide)) (takes_of rfl rfl rfl rfl) rfl rfl Z.g_is_count Z.F_is_count.kp (pos_is_count Z) (a_cons (e_callB (c_len rfl) rfl Z.n_len bo_len (a_cons (ev 1) (a_nil))) (a_nil)))))))) (s_one (s_ret (e_bl))) (s_nil))
  (s_one (s_ret (e_callB (c_all rfl rfl) rfl Z.n_all bo_all (a_cons (e_lc (own := [("name", 2)]) rfl sc_is_point.nd (i_seq rfl (ev 1)) (blkOk_by (own := [("name", 2)]) (N := DH.N_is_point) (sc := defScope (top 15)) (by decide +kernel)) (fun _ _ _ _ _ => g_name (i := 2) sc_is_point.nd rfl (by first | exact Or.inl rfl | exact Or.inr rfl) (hv := by decide)) (fun _ _ _ _ _ => ts_nil) (fun _ _ _ _ _ => e_meth (cl_Hierarchy Z) Z.me_Hierarchy_has_class (by decide) (fn_Hierarchy_has_class U Z hm) hgd (hr.mono (by decide)) tkF rfl (pos_Hierarchy_has_class Z) (ev 0) (a_cons (ev 2) (a_nil)))) (a_nil)))))
theorem fn_is_point (U : Pures) (Z : Fx K mg) (hm : (base.get? sysModules).isSome = true) : FnD P w K mg base (gm Z w) 2 Z.a_is_point Z.d_is_point ["hierarchy", "value"] DH.sp_is_point :=
  FnD.loc (fnD_of (sp := DH.sl_is_point) Z.F_is_point sc_is_point DH.len_is_point (fun cdv A outer s H E hgd hr => b_is_point U Z hm hgd hr) fun ws cs Q E _ h => DH.p_is_point ws cs Q E h)
theorem b_require_point (U : Pures) (Z : Fx K mg) (hm : (base.get? sysModules).isSome = true) {cdv : Value} {A : Around} {outer : List PySem.Env} {s : Shared} {H : Hp} {E : XK} (hgd : A.guards = some []) (hr : Room 2 (A.deeper (envOfC "require_point" (defScope (top 16)) s.heap.objs.size Z.a_require_point cdv))) :
    DSs (cxOf (L2.CX P w) P w K mg base DH.N_require_point "require_point" (defScope (top 16)) Z.a_require_point cdv A outer s H E) (gm Z w) (fun c d _ H => E c d H) (defBody (top 16)) DH.t_require_point :=
  s_one (s_if (t_not (t_val (e_call (fn_is_point U Z hm) hgd (hr.mono (by decide)) (takes_of rfl rfl rfl rfl) rfl rfl Z.g_is_point Z.F_is_point.kp (pos_is_point Z) (a_cons (ev 0) (a_cons (ev 1) (a_nil)))))) (s_one (s_never)) (s_nil))
theorem fn_require_point (U : Pures) (Z : Fx K mg) (hm : (base.get? sysModules).isSome = true) : FnD P w K mg base (gm Z w) 3 Z.a_require_point Z.d_require_point ["hierarchy", "value"] DH.sp_require_point :=
  FnD.loc (fnD_of (sp := DH.sl_require_point) Z.F_require_point sc_require_point DH.len_require_point (fun cdv A outer s H E hgd hr => b_require_point U Z hm hgd hr) fun ws cs Q E _ h => DH.p_require_point ws cs Q E h)
theorem b_require_alike_points (U : Pures) (Z : Fx K mg) (hm : (base.get? sysModules).isSome = true) {cdv : Value} {A : Around} {outer : List PySem.Env} {s : Shared} {H : Hp} {E : XK} (hgd : A.guards = some []) (hr : Room 3 (A.deeper (envOfC "require_alike_points" (defScope (top 17)) s.heap.objs.size Z.a_require_alike_points cdv))) :
    DSs (cxOf (L2.CX P w) P w K mg base DH.N_require_alike_points "require_alike_points" (defScope (top 17)) Z.a_require_alike_points cdv A outer s H E) (gm Z w) (fun c d _ H => E c d H) (defBody (top 17)) DH.t_require_alike_points :=
  s_cons (s_expr (e_call (fn_require_point U Z hm) hgd (hr.mono (by decide)) (takes_of rfl rfl rfl rfl) rfl rfl Z.g_require_point Z.F_require_point.kp (pos_require_point Z) (a_cons (ev 0) (a_cons (ev 1) (a_nil)))))
  (s_one (s_for (passes_of rfl) rfl (vs := [3]) (i_seq rfl (ev 2)) (g_name (i := 3) sc_require_alike_points.nd rfl (by first | exact Or.inl rfl | exact Or.inr rfl) (hv := by decide)) (ss_gc (s_one (s_if (t_bool (w_or (t_not (t_val (e_call (fn_is_point U Z hm) hgd (hr.mono (by decide)) (takes_of rfl rfl rfl rfl) rfl rfl Z.g_is_point Z.F_is_point.kp (pos_is_point Z) (a_cons (ev 0) (a_cons (ev 3) (a_nil)))))) (w_or1 (t_cmp (o_ne rfl hr.units) (e_callB (c_len rfl) rfl Z.n_len bo_len (a_cons (ev 3) (a_nil))) (e_callB (c_len rfl) rfl Z.n_len bo_len (a_cons (ev 1) (a_nil))) (nomark _))))) (s_one (s_never)) (s_nil))))))
theorem fn_require_alike_points (U : Pures) (Z : Fx K mg) (hm : (base.get? sysModules).isSome = true) : FnS P w K mg base (gm Z w) 4 Z.a_require_alike_points 2 DH.sp_require_alike_points :=
  FnS.loc (fnS_of (sp := DH.sl_require_alike_points) (ps := ["hierarchy", "first"]) (pv := "others") Z.F_require_alike_points sc_require_alike_points (bs_require_alike_points Z) (fun cdv A outer s H E hgd hr => b_require_alike_points U Z hm hgd hr) fun ws cs Q E _ h => DH.p_require_alike_points ws cs Q E h)
theorem b_is_point_at_or_below (U : Pures) (Z : Fx K mg) (hm : (base.get? sysModules).isSome = true) {cdv : Value} {A : Around} {outer : List PySem.Env} {s : Shared} {H : Hp} {E : XK} (hgd : A.guards = some []) (hr : Room 4 (A.deeper (envOfC "is_point_at_or_below" (defScope (top 19)) s.heap.objs.size Z.a_is_point_at_or_below cdv))) :
    DSs (cxOf (L2.CX P w) P w K mg base DH.N_is_point_at_or_below "is_point_at_or_below" (defScope (top 19)) Z.a_is_point_at_or_below cdv A outer s H E) (gm Z w) (fun c d _ H => E c d H) (defBody (top 19)) DH.t_is_point_at_or_below :=
  s_cons (s_expr (e_callS (fn_require_alike_points U Z hm) hgd (hr.mono (by decide)) (takes_of rfl rfl rfl rfl) rfl Z.g_require_alike_points Z.F_require_alike_points.kp (a_cons (ev 0) (a_cons (ev 1) (a_cons (ev 2) (a_nil))))))
  (s_one (s_ret (e_call (fn_lies_at_or_below U Z hm) hgd (hr.mono (by decide)) (takes_of rfl rfl rfl rfl) rfl rfl Z.g_lies_at_or_below Z.F_lies_at_or_below.kp (pos_lies_at_or_below Z) (a_cons (ev 0) (a_cons (ev 1) (a_cons (ev 2) (a_nil)))))))
theorem fn_is_point_at_or_below (U : Pures) (Z : Fx K mg) (hm : (base.get? sysModules).isSome = true) : FnD P w K mg base (gm Z w) 5 Z.a_is_point_at_or_below Z.d_is_point_at_or_below ["hierarchy", "first", "second"] DH.sp_is_point_at_or_below :=
  FnD.loc (fnD_of (sp := DH.sl_is_point_at_or_below) Z.F_is_point_at_or_below sc_is_point_at_or_below DH.len_is_point_at_or_below (fun cdv A outer s H E hgd hr => b_is_point_at_or_below U Z hm hgd hr) fun ws cs Q E _ h => DH.p_is_point_at_or_below ws cs Q E h)
theorem b__law_row_right (U : Pures) (Z : Fx K mg) (hm : (base.get? sysModules).isSome = true) {cdv : Value} {A : Around} {outer : List PySem.Env} {s : Shared} {H : Hp} {E : XK} (hgd : A.guards = some []) (hr : Room 5 (A.deeper (envOfC "_law_row_right" (defScope (top 44)) s.heap.objs.size Z.a__law_row_right cdv))) :
    DSs (cxOf (L2.CX P w) P w K mg base N__law_row_right "_law_row_right" (defScope (top 44)) Z.a__law_row_right cdv A outer s H E) (gm Z w) (fun c d _ H => E c d H) (defBody (top 44)) t__law_row_right :=
  s_cons (s_set (i := 4) sc__law_row_right.nd rfl (by first | exact Or.inl rfl | exact Or.inr rfl) (e_sub (x_ix rfl) (ev 2) (ev 3) (fun _ _ => rfl)))
  (s_cons (s_for (passes_of rfl) rfl (vs := [5, 6]) (i_enumA rfl rfl Z.n_enumerate (a_cons (ev 2) (a_nil))) (g_tup rfl rfl (gs_cons (g_name (i := 5) sc__law_row_right.nd rfl (by first | exact Or.inl rfl | exact Or.inr rfl) (hv := by decide)) (gs_cons (g_name (i := 6) sc__law_row_right.nd rfl (by first | exact Or.inl rfl | exact Or.inr rfl) (hv := by decide)) (gs_nil)))) (ss_gc (s_cons (s_par (i := 7) (j := 8) rfl sc__law_row_right.nd rfl rfl (by decide) rfl rfl (a_cons (e_call (fn_is_point_at_or_below U Z hm) hgd (hr.mono (by decide)) (takes_of rfl rfl rfl rfl) rfl rfl Z.g_is_point_at_or_below Z.F_is_point_at_or_below.kp (pos_is_point_at_or_below Z) (a_cons (ev 0) (a_cons (ev 4) (a_cons (ev 6) (a_nil))))) (a_cons (e_call (fn_is_point_at_or_below U Z hm) hgd (hr.mono (by decide)) (takes_of rfl rfl rfl rfl) rfl rfl Z.g_is_point_at_or_below Z.F_is_point_at_or_below.kp (pos_is_point_at_or_below Z) (a_cons (ev 0) (a_cons (ev 6) (a_cons (ev 4) (a_nil))))) (a_nil))) (by rfl))
  (s_cons (s_if (t_cmp (o_ne rfl hr.units) (e_callB (c_repr rfl hr.units hgd hm) rfl Z.n_repr bo_repr (a_cons (ev 7) (a_nil))) (e_callB (c_repr rfl hr.units hgd hm) rfl Z.n_repr bo_repr (a_cons (e_call (fn__law_is_under U Z hm) hgd (hr.mono (by decide)) (takes_of rfl rfl rfl rfl) rfl rfl Z.g__law_is_under Z.F__law_is_under.kp (pos__law_is_under Z) (a_cons (ev 1) (a_cons (ev 4) (a_cons (ev 6) (a_nil))))) (a_nil))) (nomark _)) (s_one (s_ret (e_bl))) (s_nil))
  (s_cons (s_if (t_bool (w_or (t_bool (w_and (t_cmp (o_eq rfl hr.units) (ev 4) (ev 6) (nomark _)) (w_and1 (t_cmp o_notBl (ev 7) (e_bl) (nomark _))))) (w_or1 (t_bool (w_and (t_cmp (o_ne rfl hr.units) (ev 4) (ev 6) (nomark _)) (w_and (t_val (ev 7)) (w_and1 (t_val (ev 8))))))))) (s_one (s_ret (e_bl))) (s_nil))
  (s_one (s_if (t_bool (w_and (t_val (ev 7)) (w_and1 (t_cmp o_gt (ev 5) (ev 3) (nomark _))))) (s_one (s_ret (e_bl))) (s_nil))))))))
  (s_one (s_ret (e_bl))))
theorem fn__law_row_right (U : Pures) (Z : Fx K mg) (hm : (base.get? sysModules).isSome = true) : FnD P w K mg base (gm Z w) 6 Z.a__law_row_right Z.d__law_row_right ["_law_world", "_law_ups_here", "_law_spots", "_law_place"] sp__law_row_right :=
  FnD.loc (fnD_of (sp := sl__law_row_right) Z.F__law_row_right sc__law_row_right U.l__law_row_right (fun cdv A outer s H E hgd hr => b__law_row_right U Z hm hgd hr) fun ws cs Q E _ h => U.p__law_row_right ws cs Q E h)
theorem b__law_sizes (U : Pures) (Z : Fx K mg) (hm : (base.get? sysModules).isSome = true) {cdv : Value} {A : Around} {outer : List PySem.Env} {s : Shared} {H : Hp} {E : XK} (hgd : A.guards = some []) (hr : Room 1 (A.deeper (envOfC "_law_sizes" (defScope (top 43)) s.heap.objs.size Z.a__law_sizes cdv))) :
    DSs (cxOf (L2.CX P w) P w K mg base DH.N__law_sizes "_law_sizes" (defScope (top 43)) Z.a__law_sizes cdv A outer s H E) (gm Z w) (fun c d _ H => E c d H) (defBody (top 43)) DH.t__law_sizes :=
  s_one (s_ret (e_sub (x_ix rfl) (e_lst (a_cons (e_tup (a_cons (e_int) (a_cons (e_int) (a_nil)))) (a_cons (e_tup (a_cons (e_int) (a_cons (e_int) (a_nil)))) (a_cons (e_tup (a_cons (e_int) (a_cons (e_int) (a_nil)))) (a_cons (e_tup (a_cons (e_int) (a_cons (e_int) (a_nil)))) (a_cons (e_tup (a_cons (e_int) (a_cons (e_int) (a_nil)))) (a_cons (e_tup (a_cons (e_int) (a_cons (e_int) (a_nil)))) (a_nil)))))))) (e_call (fn__law_draw U Z hm) hgd (hr.mono (by decide)) (takes_of rfl rfl rfl rfl) rfl rfl Z.g__law_draw Z.F__law_draw.kp (pos__law_draw Z) (a_cons (ev 0) (a_cons (e_int) (a_nil)))) (fun _ _ => rfl)))
theorem fn__law_sizes (U : Pures) (Z : Fx K mg) (hm : (base.get? sysModules).isSome = true) : FnD P w K mg base (gm Z w) 2 Z.a__law_sizes Z.d__law_sizes ["_law_pot_here"] DH.sp__law_sizes :=
  FnD.loc (fnD_of (sp := DH.sl__law_sizes) Z.F__law_sizes sc__law_sizes DH.len__law_sizes (fun cdv A outer s H E hgd hr => b__law_sizes U Z hm hgd hr) fun ws cs Q E _ h => DH.p__law_sizes ws cs Q E h)
theorem b__law_above (U : Pures) (Z : Fx K mg) (hm : (base.get? sysModules).isSome = true) {cdv : Value} {A : Around} {outer : List PySem.Env} {s : Shared} {H : Hp} {E : XK} (hgd : A.guards = some []) (hr : Room 0 (A.deeper (envOfC "_law_above" (defScope (top 39)) s.heap.objs.size Z.a__law_above cdv))) :
    DSs (cxOf (L2.CX P w) P w K mg base DH.N__law_above "_law_above" (defScope (top 39)) Z.a__law_above cdv A outer s H E) (gm Z w) (fun c d _ H => E c d H) (defBody (top 39)) DH.t__law_above :=
  s_cons (s_set (i := 2) sc__law_above.nd rfl (by first | exact Or.inl rfl | exact Or.inr rfl) (e_lst (a_cons (ev 1) (a_nil))))
  (s_cons (s_for (passes_of rfl) rfl (vs := [3, 4]) (i_seq rfl (e_rev rfl (ev 0))) (g_tup rfl rfl (gs_cons (g_name (i := 3) sc__law_above.nd rfl (by first | exact Or.inl rfl | exact Or.inr rfl) (hv := by decide)) (gs_cons (g_name (i := 4) sc__law_above.nd rfl (by first | exact Or.inl rfl | exact Or.inr rfl) (hv := by decide)) (gs_nil)))) (ss_gc (s_one (s_if (t_cmp (o_inSeq rfl hr.units) (ev 3) (ev 2) (by with_unfolding_all rfl)) (s_one (s_expr (e_bm PySem.F.plainAttrs_list PySem.F.slot_list_extend PySem.F.type_list_extend rfl m_extend (ev 2) (a_cons (e_lc (own := [("_law_each", 5)]) rfl sc__law_above.nd (i_seq rfl (ev 4)) (blkOk_by (own := [("_law_each", 5)]) (N := DH.N__law_above) (sc := defScope (top 39)) (by decide +kernel)) (fun _ _ _ _ _ => g_name (i := 5) sc__law_above.nd rfl (by first | exact Or.inl rfl | exact Or.inr rfl) (hv := by decide)) (fun _ _ _ _ _ => ts_one (t_cmp (o_notInSeq rfl hr.units) (ev 5) (ev 2) (by with_unfolding_all rfl))) (fun _ _ _ _ _ => ev 5)) (a_nil))))) (s_nil)))))
  (s_one (s_ret (ev 2))))
theorem fn__law_above (U : Pures) (Z : Fx K mg) (hm : (base.get? sysModules).isSome = true) : FnD P w K mg base (gm Z w) 1 Z.a__law_above Z.d__law_above ["_law_rows", "_law_label"] DH.sp__law_above :=
  FnD.loc (fnD_of (sp := DH.sl__law_above) Z.F__law_above sc__law_above DH.len__law_above (fun cdv A outer s H E hgd hr => b__law_above U Z hm hgd hr) fun ws cs Q E _ h => DH.p__law_above ws cs Q E h)
theorem b__law_ups (U : Pures) (Z : Fx K mg) (hm : (base.get? sysModules).isSome = true) {cdv : Value} {A : Around} {outer : List PySem.Env} {s : Shared} {H : Hp} {E : XK} (hgd : A.guards = some []) (hr : Room 1 (A.deeper (envOfC "_law_ups" (defScope (top 40)) s.heap.objs.size Z.a__law_ups cdv))) :
    DSs (cxOf (L2.CX P w) P w K mg base DH.N__law_ups "_law_ups" (defScope (top 40)) Z.a__law_ups cdv A outer s H E) (gm Z w) (fun c d _ H => E c d H) (defBody (top 40)) DH.t__law_ups :=
  s_one (s_ret (e_callTy (c_dictP rfl rfl rfl) rfl Z.n_dict bo_dict (a_cons (e_lc (own := [("_law_row", 1)]) rfl sc__law_ups.nd (i_seq rfl (ev 0)) (blkOk_by (own := [("_law_row", 1)]) (N := DH.N__law_ups) (sc := defScope (top 40)) (by decide +kernel)) (fun _ _ _ _ _ => g_name (i := 1) sc__law_ups.nd rfl (by first | exact Or.inl rfl | exact Or.inr rfl) (hv := by decide)) (fun _ _ _ _ _ => ts_nil) (fun _ _ _ _ _ => e_tup (a_cons (e_sub (x_ix rfl) (ev 1) (e_int) (fun _ _ => rfl)) (a_cons (e_call (fn__law_above U Z hm) hgd (hr.mono (by decide)) tkF rfl rfl Z.g__law_above Z.F__law_above.kp (pos__law_above Z) (a_cons (ev 0) (a_cons (e_sub (x_ix rfl) (ev 1) (e_int) (fun _ _ => rfl)) (a_nil)))) (a_nil))))) (a_nil))))
theorem fn__law_ups (U : Pures) (Z : Fx K mg) (hm : (base.get? sysModules).isSome = true) : FnD P w K mg base (gm Z w) 2 Z.a__law_ups Z.d__law_ups ["_law_rows"] DH.sp__law_ups :=
  FnD.loc (fnD_of (sp := DH.sl__law_ups) Z.F__law_ups sc__law_ups DH.len__law_ups (fun cdv A outer s H E hgd hr => b__law_ups U Z hm hgd hr) fun ws cs Q E _ h => DH.p__law_ups ws cs Q E h)
theorem b_Hierarchy_names (U : Pures) (Z : Fx K mg) (hm : (base.get? sysModules).isSome = true) {cdv : Value} {A : Around} {outer : List PySem.Env} {s : Shared} {H : Hp} {E : XK} (hgd : A.guards = some []) (hr : Room 0 (A.deeper (envOfC "Hierarchy.names" (defScope (inClass (top 31) 6)) s.heap.objs.size Z.a_Hierarchy_names cdv))) :
    DSs (cxOf (L2.CX P w) P w K mg base DH.N_Hierarchy_names "Hierarchy.names" (defScope (inClass (top 31) 6)) Z.a_Hierarchy_names cdv A outer s H E) (gm Z w) (fun c d _ H => E c d H) (defBody (inClass (top 31) 6)) DH.t_Hierarchy_names :=
  s_one (s_ret (e_callTy (c_listK rfl rfl rfl) rfl Z.n_list bo_list (a_cons (e_fld (cl_Hierarchy Z) rfl (ev 0)) (a_nil))))
theorem fn_Hierarchy_names (U : Pures) (Z : Fx K mg) (hm : (base.get? sysModules).isSome = true) : FnD P w K mg base (gm Z w) 1 Z.a_Hierarchy_names Z.d_Hierarchy_names ["self"] DH.sp_Hierarchy_names :=
  FnD.loc (fnD_of (sp := DH.sl_Hierarchy_names) Z.F_Hierarchy_names sc_Hierarchy_names DH.len_Hierarchy_names (fun cdv A outer s H E hgd hr => b_Hierarchy_names U Z hm hgd hr) fun ws cs Q E _ h => DH.p_Hierarchy_names ws cs Q E h)
theorem b_combined (U : Pures) (Z : Fx K mg) (hm : (base.get? sysModules).isSome = true) {cdv : Value} {A : Around} {outer : List PySem.Env} {s : Shared} {H : Hp} {E : XK} (hgd : A.guards = some []) (hr : Room 0 (A.deeper (envOfC "combined" (defScope (top 20)) s.heap.objs.size Z.a_combined cdv))) :
    DSs (cxOf (L2.CX P w) P w K mg base DH.N_combined "combined" (defScope (top 20)) Z.a_combined cdv A outer s H E) (gm Z w) (fun c d _ H => E c d H) (defBody (top 20)) DH.t_combined :=
  s_cons (s_set (i := 1) sc_combined.nd rfl (by first | exact Or.inl rfl | exact Or.inr rfl) (e_lst (a_cons (e_tup (a_nil)) (a_nil))))
  (s_cons (s_for (passes_of rfl) rfl (vs := [2]) (i_seq rfl (ev 0)) (g_name (i := 2) sc_combined.nd rfl (by first | exact Or.inl rfl | exact Or.inr rfl) (hv := by decide)) (s_one (s_setLc2 (i := 1) (own := [("point", 3), ("name", 4)]) (vs1 := [4]) rfl sc_combined.nd rfl rfl (sw_true rfl rfl rfl (by decide +kernel)) (i_seq rfl (ev 1)) (blkOk_by (own := [("point", 3), ("name", 4)]) (N := DH.N_combined) (sc := defScope (top 20)) (by decide +kernel)) (by decide) (fun _ _ _ _ _ => g_name (i := 3) sc_combined.nd rfl (by first | exact Or.inl rfl | exact Or.inr rfl) (hv := by decide)) (fun _ _ _ _ _ => ts_nil) (fun _ _ _ _ _ => i_seq rfl (ev 2)) (fun _ _ _ _ _ => g_name (i := 4) sc_combined.nd rfl (by first | exact Or.inl rfl | exact Or.inr rfl) (hv := by decide)) (fun _ _ _ _ _ => ts_nil) (fun _ _ _ _ _ => e_bin (o_add rfl) (ev 3) (e_tup (a_cons (ev 4) (a_nil)))))))
  (s_one (s_ret (ev 1))))
theorem fn_combined (U : Pures) (Z : Fx K mg) (hm : (base.get? sysModules).isSome = true) : FnD P w K mg base (gm Z w) 1 Z.a_combined Z.d_combined ["choices"] DH.sp_combined :=
  FnD.loc (fnD_of (sp := DH.sl_combined) Z.F_combined sc_combined DH.len_combined (fun cdv A outer s H E hgd hr => b_combined U Z hm hgd hr) fun ws cs Q E _ h => DH.p_combined ws cs Q E h)
theorem b_all_points (U : Pures) (Z : Fx K mg) (hm : (base.get? sysModules).isSome = true) {cdv : Value} {A : Around} {outer : List PySem.Env} {s : Shared} {H : Hp} {E : XK} (hgd : A.guards = some []) (hr : Room 1 (A.deeper (envOfC "all_points" (defScope (top 21)) s.heap.objs.size Z.a_all_points cdv))) :
    DSs (cxOf (L2.CX P w) P w K mg base DH.N_all_points "all_points" (defScope (top 21)) Z.a_all_points cdv A outer s H E) (gm Z w) (fun c d _ H => E c d H) (defBody (top 21)) DH.t_all_points :=
  s_cons (s_if (t_not (t_val (e_call (fn_is_count U Z hm) hgd (hr.mono (by decide)) (takes_of rfl rfl rfl rfl) rfl rfl Z.g_is_count Z.F_is_count.kp (pos_is_count Z) (a_cons (ev 1) (a_nil))))) (s_one (s_never)) (s_nil))
  (s_one (s_ret (e_call (fn_combined U Z hm) hgd (hr.mono (by decide)) (takes_of rfl rfl rfl rfl) rfl rfl Z.g_combined Z.F_combined.kp (pos_combined Z) (a_cons (e_bin o_mul (e_lst (a_cons (e_meth0 (cl_Hierarchy Z) Z.me_Hierarchy_names (by decide) (fn_Hierarchy_names U Z hm) hgd (hr.mono (by decide)) (takes_of rfl rfl rfl rfl) rfl (pos_Hierarchy_names Z) (ev 0)) (a_nil))) (ev 1)) (a_nil)))))
theorem fn_all_points (U : Pures) (Z : Fx K mg) (hm : (base.get? sysModules).isSome = true) : FnD P w K mg base (gm Z w) 2 Z.a_all_points Z.d_all_points ["hierarchy", "count"] DH.sp_all_points :=
  FnD.loc (fnD_of (sp := DH.sl_all_points) Z.F_all_points sc_all_points DH.len_all_points (fun cdv A outer s H E hgd hr => b_all_points U Z hm hgd hr) fun ws cs Q E _ h => DH.p_all_points ws cs Q E h)
theorem b_law (U : Pures) (Z : Fx K mg) (hm : (base.get? sysModules).isSome = true) {cdv : Value} {A : Around} {outer : List PySem.Env} {s : Shared} {H : Hp} {E : XK} (hgd : A.guards = some []) (hr : Room 6 (A.deeper (envOfC "law" (defScope (top 45)) s.heap.objs.size Z.a_law cdv))) :
    DSs (cxOf (L2.CX P w) P w K mg base N_law "law" (defScope (top 45)) Z.a_law cdv A outer s H E) (gm Z w) (fun c d _ H => E c d H) (defBody (top 45)) t_law :=
  s_cons (s_for (passes_of rfl) rfl (vs := [1]) (i_range1 rfl Z.n_range (a_cons (e_callB (c_max2 rfl) rfl Z.n_max bo_max (a_cons (e_int) (a_cons (e_callB (c_min2 rfl) rfl Z.n_min bo_min (a_cons (e_int) (a_cons (e_callB (c_len rfl) rfl Z.n_len bo_len (a_cons (ev 0) (a_nil))) (a_nil)))) (a_nil)))) (a_nil))) (g_name (i := 1) sc_law.nd rfl (by first | exact Or.inl rfl | exact Or.inr rfl) (hv := by decide)) (ss_gc (s_cons (s_set (i := 2) sc_law.nd rfl (by first | exact Or.inl rfl | exact Or.inr rfl) (e_call (fn__law_pot U Z hm) hgd (hr.mono (by decide)) (takes_of rfl rfl rfl rfl) rfl rfl Z.g__law_pot Z.F__law_pot.kp (pos__law_pot Z) (a_cons (ev 0) (a_cons (ev 1) (a_nil)))))
  (s_cons (s_asg (vs := [3, 4]) (e_call (fn__law_sizes U Z hm) hgd (hr.mono (by decide)) (takes_of rfl rfl rfl rfl) rfl rfl Z.g__law_sizes Z.F__law_sizes.kp (pos__law_sizes Z) (a_cons (ev 2) (a_nil))) (g_tup rfl rfl (gs_cons (g_name (i := 3) sc_law.nd rfl (by first | exact Or.inl rfl | exact Or.inr rfl) (hv := by decide)) (gs_cons (g_name (i := 4) sc_law.nd rfl (by first | exact Or.inl rfl | exact Or.inr rfl) (hv := by decide)) (gs_nil)))))
  (s_cons (s_set (i := 5) sc_law.nd rfl (by first | exact Or.inl rfl | exact Or.inr rfl) (e_call (fn__law_kinds U Z hm) hgd (hr.mono (by decide)) (takes_of rfl rfl rfl rfl) rfl rfl Z.g__law_kinds Z.F__law_kinds.kp (pos__law_kinds Z) (a_cons (ev 2) (a_cons (ev 3) (a_nil)))))
  (s_cons (s_par3T (i := 6) (j := 7) (l := 8) rfl rfl sc_law.nd rfl rfl rfl (by first | exact Or.inl rfl | exact Or.inr rfl) (by first | exact Or.inl rfl | exact Or.inr rfl) (by first | exact Or.inl rfl | exact Or.inr rfl) (a_cons (e_fix (e_mk (mk_Hierarchy Z) (fn_Hierarchy_init U Z hm) hgd (hr.mono (by decide)) (takes_of rfl rfl rfl rfl) rfl rfl Z.g_Hierarchy (pos_Hierarchy_init_2 Z) (a_cons (ev 5) (a_nil)))) (a_cons (e_call (fn__law_ups U Z hm) hgd (hr.mono (by decide)) (takes_of rfl rfl rfl rfl) rfl rfl Z.g__law_ups Z.F__law_ups.kp (pos__law_ups Z) (a_cons (ev 5) (a_nil))) (a_cons (e_call (fn__law_all_points U Z hm) hgd (hr.mono (by decide)) (takes_of rfl rfl rfl rfl) rfl rfl Z.g__law_all_points Z.F__law_all_points.kp (pos__law_all_points Z) (a_cons (ev 5) (a_cons (ev 4) (a_nil)))) (a_nil)))))
  (s_cons (s_if (t_cmp (o_ne rfl hr.units) (e_call (fn_all_points U Z hm) hgd (hr.mono (by decide)) (takes_of rfl rfl rfl rfl) rfl rfl Z.g_all_points Z.F_all_points.kp (pos_all_points Z) (a_cons (ev 6) (a_cons (ev 4) (a_nil)))) (ev 8) (nomark _)) (s_one (s_ret (e_bl))) (s_nil))
  (s_one (s_if (t_not (t_val (e_callB (c_all rfl rfl) rfl Z.n_all bo_all (a_cons (e_lc (own := [("_law_place", 9)]) rfl sc_law.nd (i_range1 rfl Z.n_range (a_cons (e_callB (c_len rfl) rfl Z.n_len bo_len (a_cons (ev 8) (a_nil))) (a_nil))) (blkOk_by (own := [("_law_place", 9)]) (N := N_law) (sc := defScope (top 45)) (by decide +kernel)) (fun _ _ _ _ _ => g_name (i := 9) sc_law.nd rfl (by first | exact Or.inl rfl | exact Or.inr rfl) (hv := by decide)) (fun _ _ _ _ _ => ts_nil) (fun _ _ _ _ _ => e_call (fn__law_row_right U Z hm) hgd (hr.mono (by decide)) tkF rfl rfl Z.g__law_row_right Z.F__law_row_right.kp (pos__law_row_right Z) (a_cons (ev 6) (a_cons (ev 7) (a_cons (ev 8) (a_cons (ev 9) (a_nil))))))) (a_nil))))) (s_one (s_ret (e_bl))) (s_nil))))))))))
  (s_one (s_ret (e_bl)))
theorem fn_law (U : Pures) (Z : Fx K mg) (hm : (base.get? sysModules).isSome = true) : FnD P w K mg base (gm Z w) 7 Z.a_law Z.d_law ["_law_script"] sp_law :=
  FnD.loc (fnD_of (sp := sl_law) Z.F_law sc_law U.l_law (fun cdv A outer s H E hgd hr => b_law U Z hm hgd hr) fun ws cs Q E _ h => U.p_law ws cs Q E h)
end
end K22
set_option maxHeartbeats 0
namespace K22
open PySem PySem.Spec L2 DL
theorem pures : Pures where
  ok := True.intro
  l__law_row_right := len__law_row_right
  p__law_row_right := p__law_row_right
  l_law := len_law
  p_law := p_law
def fn0 : List He.DefD := [⟨("Hierarchy", some "ancestors_of_new"), "ancestors_of_new", "Hierarchy.ancestors_of_new", defArgs (inClass (top 31) 4), defBody (inClass (top 31) 4), defScope (inClass (top 31) 4), [], []⟩, ⟨("are_different_classes", none), "are_different_classes", "are_different_classes", defArgs (top 27), defBody (top 27), defScope (top 27), [], []⟩, ⟨("is_name", none), "is_name", "is_name", defArgs (top 25), defBody (top 25), defScope (top 25), [], []⟩, ⟨("element_problem", none), "element_problem", "element_problem", defArgs (top 28), defBody (top 28), defScope (top 28), [], []⟩, ⟨("Hierarchy", some "__init__"), "__init__", "Hierarchy.__init__", defArgs (inClass (top 31) 1), defBody (inClass (top 31) 1), defScope (inClass (top 31) 1), [.adr (He.dflAt ("Hierarchy", some "__init__") 0)], []⟩, ⟨("_law_all_points", none), "_law_all_points", "_law_all_points", defArgs (top 42), defBody (top 42), defScope (top 42), [], []⟩, ⟨("_law_draw", none), "_law_draw", "_law_draw", defArgs (top 34), defBody (top 34), defScope (top 34), [], []⟩, ⟨("_law_mixed", none), "_law_mixed", "_law_mixed", defArgs (top 35), defBody (top 35), defScope (top 35), [], []⟩, ⟨("_law_name", none), "_law_name", "_law_name", defArgs (top 36), defBody (top 36), defScope (top 36), [], []⟩, ⟨("_law_names", none), "_law_names", "_law_names", defArgs (top 37), defBody (top 37), defScope (top 37), [], []⟩, ⟨("_law_kinds", none), "_law_kinds", "_law_kinds", defArgs (top 38), defBody (top 38), defScope (top 38), [], []⟩, ⟨("_law_pot", none), "_law_pot", "_law_pot", defArgs (top 33), defBody (top 33), defScope (top 33), [], []⟩, ⟨("_law_is_under", none), "_law_is_under", "_law_is_under", defArgs (top 41), defBody (top 41), defScope (top 41), [], []⟩, ⟨("Hierarchy", some "has_class"), "has_class", "Hierarchy.has_class", defArgs (inClass (top 31) 7), defBody (inClass (top 31) 7), defScope (inClass (top 31) 7), [], []⟩, ⟨("Hierarchy", some "require_class"), "require_class", "Hierarchy.require_class", defArgs (inClass (top 31) 5), defBody (inClass (top 31) 5), defScope (inClass (top 31) 5), [], []⟩, ⟨("Hierarchy", some "is_at_or_below"), "is_at_or_below", "Hierarchy.is_at_or_below", defArgs (inClass (top 31) 10), defBody (inClass (top 31) 10), defScope (inClass (top 31) 10), [], []⟩, ⟨("lies_at_or_below", none), "lies_at_or_below", "lies_at_or_below", defArgs (top 18), defBody (top 18), defScope (top 18), [], []⟩, ⟨("is_count", none), "is_count", "is_count", defArgs (top 14), defBody (top 14), defScope (top 14), [], []⟩, ⟨("is_point", none), "is_point", "is_point", defArgs (top 15), defBody (top 15), defScope (top 15), [], []⟩, ⟨("require_point", none), "require_point", "require_point", defArgs (top 16), defBody (top 16), defScope (top 16), [], []⟩]
def fn1 : List He.DefD := [⟨("require_alike_points", none), "require_alike_points", "require_alike_points", defArgs (top 17), defBody (top 17), defScope (top 17), [], []⟩, ⟨("is_point_at_or_below", none), "is_point_at_or_below", "is_point_at_or_below", defArgs (top 19), defBody (top 19), defScope (top 19), [], []⟩, ⟨("_law_row_right", none), "_law_row_right", "_law_row_right", defArgs (top 44), defBody (top 44), defScope (top 44), [], []⟩, ⟨("_law_sizes", none), "_law_sizes", "_law_sizes", defArgs (top 43), defBody (top 43), defScope (top 43), [], []⟩, ⟨("_law_above", none), "_law_above", "_law_above", defArgs (top 39), defBody (top 39), defScope (top 39), [], []⟩, ⟨("_law_ups", none), "_law_ups", "_law_ups", defArgs (top 40), defBody (top 40), defScope (top 40), [], []⟩, ⟨("Hierarchy", some "names"), "names", "Hierarchy.names", defArgs (inClass (top 31) 6), defBody (inClass (top 31) 6), defScope (inClass (top 31) 6), [], []⟩, ⟨("combined", none), "combined", "combined", defArgs (top 20), defBody (top 20), defScope (top 20), [], []⟩, ⟨("all_points", none), "all_points", "all_points", defArgs (top 21), defBody (top 21), defScope (top 21), [], []⟩, ⟨("law", none), "law", "law", defArgs (top 45), defBody (top 45), defScope (top 45), [], []⟩]
def fn : List He.DefD := fn0 ++ fn1
def fa0 : List He.Fa := [.glo "are_different_classes", .glo "is_name", .glo "element_problem", .glo "_law_all_points", .glo "_law_draw", .glo "_law_mixed", .glo "_law_name", .glo "_law_names", .glo "_law_kinds", .glo "_law_pot", .glo "_law_is_under", .glo "lies_at_or_below", .glo "is_count", .glo "is_point", .glo "require_point", .glo "require_alike_points", .glo "is_point_at_or_below", .glo "_law_row_right", .glo "_law_sizes", .glo "_law_above"]
def fa1 : List He.Fa := [.glo "_law_ups", .glo "combined", .glo "all_points", .glo "law", .glo "Hierarchy", .free "abs", .free "all", .free "bool", .free "dict", .free "divmod", .free "enumerate", .free "int", .free "isinstance", .free "len", .free "list", .free "max", .free "min", .free "range", .free "repr", .free "str"]
def fa2 : List He.Fa := [.free "tuple", .free "zip", .cls "Hierarchy", .noat "Hierarchy" "superclasses_by_class", .noat "Hierarchy" "ancestors_by_class", .mkr "Hierarchy", .meth "Hierarchy" "ancestors_of_new", .meth "Hierarchy" "has_class", .meth "Hierarchy" "is_at_or_below", .meth "Hierarchy" "names", .meth "Hierarchy" "require_class", .str "LETTERS" "abcdefghijklmnopqrstuvwxyz", .int "MAX_NAME_LENGTH" 8, .int "MAX_PARAMETERS" 3]
def fa : List He.Fa := fa0 ++ fa1 ++ fa2
def loose0 : List Str := ["_wall", "MethodsError", "InvalidHierarchy", "InvalidName", "InvalidSuperclasses", "InvalidText", "InvalidPoint", "InvalidCount", "NotFound", "NameTaken", "TooMany", "MAX_PARAMETERS", "is_count", "is_point", "require_point", "require_alike_points", "lies_at_or_below", "is_point_at_or_below", "combined", "all_points"]
def loose1 : List Str := ["LETTERS", "MAX_NAME_LENGTH", "is_name", "are_different_classes", "element_problem", "split_lines", "with_line", "Hierarchy", "_law_pot", "_law_draw", "_law_mixed", "_law_name", "_law_names", "_law_kinds", "_law_above", "_law_ups", "_law_is_under", "_law_all_points", "_law_sizes", "_law_row_right"]
def loose : List Str := loose0 ++ loose1
abbrev R : PySem.W.OpenRow := PySem.W.OpenLaw.row PySem.Challenge.rw_fewestmethods_k22_whole_order_of_points
def ck (K : PySem.W.Frag) : Bool := He.conB K "Hierarchy" "LIMIT" (.int 20) && tupA K (He.dflAt ("Hierarchy", some "__init__") 0 K) [] && true
abbrev hk : PySem.W.Hook := hookM 6 fa fn ck
def ob (s : PySem.W.SharedT) : AlM := obsM 6 fa fn ck (HandSHeadRun.getT s)
theorem ob_eq (s : PySem.W.SharedT) : ob s = hk.obs s.abs := obsM_eq (HandSHeadRun.getT_eq s)
theorem run (w : World) : HandSHeadRun.RunEq R (PySem.W.view R.prog [45]) hk ob 20000 loose w := by
  intro os
  kernel_rfl
theorem facts {K : PySem.W.Frag} {h : Heap} {mg : Str → Option Value} (X : K.In h) (ns : h.Ns mainGlobals mg) (c : He.SaysD fa fn K) (cc : ck K = true) : ∃ Z : Fx K mg, Z.a_law = He.ga K "law" := by
  unfold ck at cc
  simp only [Bool.and_eq_true] at cc
  obtain ⟨d0, F0⟩ := c.def_ 0 rfl
  obtain ⟨d1, F1⟩ := c.def_ 1 rfl
  obtain ⟨d2, F2⟩ := c.def_ 2 rfl
  obtain ⟨d3, F3⟩ := c.def_ 3 rfl
  obtain ⟨d4, F4⟩ := c.def_ 4 rfl
  obtain ⟨d5, F5⟩ := c.def_ 5 rfl
  obtain ⟨d6, F6⟩ := c.def_ 6 rfl
  obtain ⟨d7, F7⟩ := c.def_ 7 rfl
  obtain ⟨d8, F8⟩ := c.def_ 8 rfl
  obtain ⟨d9, F9⟩ := c.def_ 9 rfl
  obtain ⟨d10, F10⟩ := c.def_ 10 rfl
  obtain ⟨d11, F11⟩ := c.def_ 11 rfl
  obtain ⟨d12, F12⟩ := c.def_ 12 rfl
  obtain ⟨d13, F13⟩ := c.def_ 13 rfl
  obtain ⟨d14, F14⟩ := c.def_ 14 rfl
  obtain ⟨d15, F15⟩ := c.def_ 15 rfl
  obtain ⟨d16, F16⟩ := c.def_ 16 rfl
  obtain ⟨d17, F17⟩ := c.def_ 17 rfl
  obtain ⟨d18, F18⟩ := c.def_ 18 rfl
  obtain ⟨d19, F19⟩ := c.def_ 19 rfl
  obtain ⟨d20, F20⟩ := c.def_ 20 rfl
  obtain ⟨d21, F21⟩ := c.def_ 21 rfl
  obtain ⟨d22, F22⟩ := c.def_ 22 rfl
  obtain ⟨d23, F23⟩ := c.def_ 23 rfl
  obtain ⟨d24, F24⟩ := c.def_ 24 rfl
  obtain ⟨d25, F25⟩ := c.def_ 25 rfl
  obtain ⟨d26, F26⟩ := c.def_ 26 rfl
  obtain ⟨d27, F27⟩ := c.def_ 27 rfl
  obtain ⟨d28, F28⟩ := c.def_ 28 rfl
  obtain ⟨d29, F29⟩ := c.def_ 29 rfl
  obtain ⟨t51, m51⟩ := He.str_ok X ns (c.fact 51 (f := .str "LETTERS" "abcdefghijklmnopqrstuvwxyz") rfl)
  obtain ⟨t52, m52⟩ := He.int_ok X ns (c.fact 52 (f := .int "MAX_NAME_LENGTH" 8) rfl)
  obtain ⟨t53, m53⟩ := He.int_ok X ns (c.fact 53 (f := .int "MAX_PARAMETERS" 3) rfl)
  obtain ⟨k0, K0⟩ := He.conB_ok cc.1.1
  exact ⟨{
    a_Hierarchy_ancestors_of_new := _, d_Hierarchy_ancestors_of_new := d0, F_Hierarchy_ancestors_of_new := F0,
    a_are_different_classes := _, d_are_different_classes := d1, F_are_different_classes := F1,
    g_are_different_classes := He.glo_ok X ns (c.fact 0 (f := .glo "are_different_classes") rfl),
    a_is_name := _, d_is_name := d2, F_is_name := F2,
    g_is_name := He.glo_ok X ns (c.fact 1 (f := .glo "is_name") rfl),
    a_element_problem := _, d_element_problem := d3, F_element_problem := F3,
    g_element_problem := He.glo_ok X ns (c.fact 2 (f := .glo "element_problem") rfl),
    a_Hierarchy_init := _, d_Hierarchy_init := d4, F_Hierarchy_init := F4,
    T_Hierarchy_init_0 := tupA_ok cc.1.2,
    a__law_all_points := _, d__law_all_points := d5, F__law_all_points := F5,
    g__law_all_points := He.glo_ok X ns (c.fact 3 (f := .glo "_law_all_points") rfl),
    a__law_draw := _, d__law_draw := d6, F__law_draw := F6,
    g__law_draw := He.glo_ok X ns (c.fact 4 (f := .glo "_law_draw") rfl),
    a__law_mixed := _, d__law_mixed := d7, F__law_mixed := F7,
    g__law_mixed := He.glo_ok X ns (c.fact 5 (f := .glo "_law_mixed") rfl),
    a__law_name := _, d__law_name := d8, F__law_name := F8,
    g__law_name := He.glo_ok X ns (c.fact 6 (f := .glo "_law_name") rfl),
    a__law_names := _, d__law_names := d9, F__law_names := F9,
    g__law_names := He.glo_ok X ns (c.fact 7 (f := .glo "_law_names") rfl),
    a__law_kinds := _, d__law_kinds := d10, F__law_kinds := F10,
    g__law_kinds := He.glo_ok X ns (c.fact 8 (f := .glo "_law_kinds") rfl),
    a__law_pot := _, d__law_pot := d11, F__law_pot := F11,
    g__law_pot := He.glo_ok X ns (c.fact 9 (f := .glo "_law_pot") rfl),
    a__law_is_under := _, d__law_is_under := d12, F__law_is_under := F12,
    g__law_is_under := He.glo_ok X ns (c.fact 10 (f := .glo "_law_is_under") rfl),
    a_Hierarchy_has_class := _, d_Hierarchy_has_class := d13, F_Hierarchy_has_class := F13,
    a_Hierarchy_require_class := _, d_Hierarchy_require_class := d14, F_Hierarchy_require_class := F14,
    a_Hierarchy_is_at_or_below := _, d_Hierarchy_is_at_or_below := d15, F_Hierarchy_is_at_or_below := F15,
    a_lies_at_or_below := _, d_lies_at_or_below := d16, F_lies_at_or_below := F16,
    g_lies_at_or_below := He.glo_ok X ns (c.fact 11 (f := .glo "lies_at_or_below") rfl),
    a_is_count := _, d_is_count := d17, F_is_count := F17,
    g_is_count := He.glo_ok X ns (c.fact 12 (f := .glo "is_count") rfl),
    a_is_point := _, d_is_point := d18, F_is_point := F18,
    g_is_point := He.glo_ok X ns (c.fact 13 (f := .glo "is_point") rfl),
    a_require_point := _, d_require_point := d19, F_require_point := F19,
    g_require_point := He.glo_ok X ns (c.fact 14 (f := .glo "require_point") rfl),
    a_require_alike_points := _, d_require_alike_points := d20, F_require_alike_points := F20,
    g_require_alike_points := He.glo_ok X ns (c.fact 15 (f := .glo "require_alike_points") rfl),
    a_is_point_at_or_below := _, d_is_point_at_or_below := d21, F_is_point_at_or_below := F21,
    g_is_point_at_or_below := He.glo_ok X ns (c.fact 16 (f := .glo "is_point_at_or_below") rfl),
    a__law_row_right := _, d__law_row_right := d22, F__law_row_right := F22,
    g__law_row_right := He.glo_ok X ns (c.fact 17 (f := .glo "_law_row_right") rfl),
    a__law_sizes := _, d__law_sizes := d23, F__law_sizes := F23,
    g__law_sizes := He.glo_ok X ns (c.fact 18 (f := .glo "_law_sizes") rfl),
    a__law_above := _, d__law_above := d24, F__law_above := F24,
    g__law_above := He.glo_ok X ns (c.fact 19 (f := .glo "_law_above") rfl),
    a__law_ups := _, d__law_ups := d25, F__law_ups := F25,
    g__law_ups := He.glo_ok X ns (c.fact 20 (f := .glo "_law_ups") rfl),
    a_Hierarchy_names := _, d_Hierarchy_names := d26, F_Hierarchy_names := F26,
    a_combined := _, d_combined := d27, F_combined := F27,
    g_combined := He.glo_ok X ns (c.fact 21 (f := .glo "combined") rfl),
    a_all_points := _, d_all_points := d28, F_all_points := F28,
    g_all_points := He.glo_ok X ns (c.fact 22 (f := .glo "all_points") rfl),
    a_law := _, d_law := d29, F_law := F29,
    g_law := He.glo_ok X ns (c.fact 23 (f := .glo "law") rfl),
    C_Hierarchy := He.ga K "Hierarchy", g_Hierarchy := He.glo_ok X ns (c.fact 24 (f := .glo "Hierarchy") rfl), c_Hierarchy := He.cls_ok (c.fact 42 (f := .cls "Hierarchy") rfl),
    no_Hierarchy_superclasses_by_class := He.noat_ok (c.fact 43 (f := .noat "Hierarchy" "superclasses_by_class") rfl),
    no_Hierarchy_ancestors_by_class := He.noat_ok (c.fact 44 (f := .noat "Hierarchy" "ancestors_by_class") rfl),
    mk_Hierarchy := He.mkr_ok (c.fact 45 (f := .mkr "Hierarchy") rfl),
    me_Hierarchy_ancestors_of_new := He.meth_ok (c.fact 46 (f := .meth "Hierarchy" "ancestors_of_new") rfl),
    me_Hierarchy_has_class := He.meth_ok (c.fact 47 (f := .meth "Hierarchy" "has_class") rfl),
    me_Hierarchy_is_at_or_below := He.meth_ok (c.fact 48 (f := .meth "Hierarchy" "is_at_or_below") rfl),
    me_Hierarchy_names := He.meth_ok (c.fact 49 (f := .meth "Hierarchy" "names") rfl),
    me_Hierarchy_require_class := He.meth_ok (c.fact 50 (f := .meth "Hierarchy" "require_class") rfl),
    u_Hierarchy_LIMIT := k0, k_Hierarchy_LIMIT := K0,
    u_LETTERS := _, m_LETTERS := m51, v_LETTERS := ⟨t51, rfl⟩,
    u_MAX_NAME_LENGTH := _, m_MAX_NAME_LENGTH := m52, v_MAX_NAME_LENGTH := ⟨t52, rfl⟩,
    u_MAX_PARAMETERS := _, m_MAX_PARAMETERS := m53, v_MAX_PARAMETERS := ⟨t53, rfl⟩,
    n_abs := He.free_ok X ns (c.fact 25 (f := .free "abs") rfl),
    n_all := He.free_ok X ns (c.fact 26 (f := .free "all") rfl),
    n_bool := He.free_ok X ns (c.fact 27 (f := .free "bool") rfl),
    n_dict := He.free_ok X ns (c.fact 28 (f := .free "dict") rfl),
    n_divmod := He.free_ok X ns (c.fact 29 (f := .free "divmod") rfl),
    n_enumerate := He.free_ok X ns (c.fact 30 (f := .free "enumerate") rfl),
    n_int := He.free_ok X ns (c.fact 31 (f := .free "int") rfl),
    n_isinstance := He.free_ok X ns (c.fact 32 (f := .free "isinstance") rfl),
    n_len := He.free_ok X ns (c.fact 33 (f := .free "len") rfl),
    n_list := He.free_ok X ns (c.fact 34 (f := .free "list") rfl),
    n_max := He.free_ok X ns (c.fact 35 (f := .free "max") rfl),
    n_min := He.free_ok X ns (c.fact 36 (f := .free "min") rfl),
    n_range := He.free_ok X ns (c.fact 37 (f := .free "range") rfl),
    n_repr := He.free_ok X ns (c.fact 38 (f := .free "repr") rfl),
    n_str := He.free_ok X ns (c.fact 39 (f := .free "str") rfl),
    n_tuple := He.free_ok X ns (c.fact 40 (f := .free "tuple") rfl),
    n_zip := He.free_ok X ns (c.fact 41 (f := .free "zip") rfl) }, rfl⟩
end K22
open PySem PySem.W PySem.Calls PyProof.Rows
theorem PySem.Challenge.cw_fewestmethods_k22_whole_order_of_points_holds : PySem.Challenge.rw_fewestmethods_k22_whole_order_of_points.Holds := by
  w_on
  o_law
  refine HandSHeadRun.head_any (H := K22.hk) (ob := K22.ob) (q := view (OpenLaw.row PySem.Challenge.rw_fewestmethods_k22_whole_order_of_points).prog [45]) (M := 20000)
    (loose := K22.loose) (d := HandSHeadRun.topDef (OpenLaw.row PySem.Challenge.rw_fewestmethods_k22_whole_order_of_points).prog 45) (kwd := []) K22.ob_eq (by kernel_rfl) (fun s => by kernel_rfl) K22.run
    (by kernel_rfl) (by kernel_rfl) (by kernel_rfl) (by rfl) (by first | assumption | decide +kernel) (by decide +kernel) ⟨rfl, rfl, rfl, rfl, rfl, by decide +kernel⟩ ?ow ?oc
  case ow => w_witness2
  case oc =>
    refine DL.end_of (l := PySem.Challenge.rw_fewestmethods_k22_whole_order_of_points) (n := 63) (k := 7) (x := "_law_script") rfl (by decide) (by kernel_rfl) ⟨rfl, by decide, by decide⟩ ?walk
    intro w mg fa h Y ns hm
    obtain ⟨K, inK, c, sys⟩ := Y
    have hm : mg ("law" : PySem.Str) = some (.ref fa) := by
      rw [← hm]
      exact congrArg mg (by kernel_rfl)
    obtain ⟨Z, ez⟩ := K22.facts inK ns c (Bool.and_eq_true_iff.mp sys).2
    have e : fa = Z.a_law := by
      have := hm.symm.trans Z.g_law
      cases this
      rfl
    subst e
    refine ⟨K22.gm Z w, Z.d_law, K22.sp_law, inK, fun s u => ?_, fun ns hn => K22.law_sp ns hn, fun base inB _ => K22.fn_law K22.pures Z (DL.sys_in sys inB)⟩
    exact L2.FunD.bindsA (ps := ["_law_script"]) Z.F_law (fun _ _ _ _ _ _ us hl => match us, hl with | [_], _ => rfl) s [u] rfl
