import PyProof.Rows.All
import Wide.All
import OpenK.AllK
import Wide.FinOn
import HandS.ForMost
import HandS.ForExc
import HandS.Deep
import HandS.TupAny
import HandS.Flow
import HandS.IsInst
import HandS.CallSlots
import HandS.TryOnly
import KE.DataEq
import HandS.ExcCtx
import HandS.Text
import HandS.Wide
import HandS.TupMul
import HandS.Style
import KE.GoesEnum
import KE.GoesMore
import HandS.HotCalls
import HandS.WordsExc
import HandS.NestedK
import HandS.ExcInit
import KE.KExcSuper
import HandS.SuiteRaise
import HandS.ExcField
import HandS.ExcOwn
import KE.KExcIs
import HandS.SortInts
import HandS.RaiseMore
import HandS.More
import KE.SortData
import PyProof.MaxThree
import KE.KRevSl
import PySem.Challenge.RW_signoff_k54_culprit_by_halving
set_option Elab.async false
set_option linter.all false
set_option maxRecDepth 100000
set_option maxHeartbeats 4000000
/-! values as data, a memory of mutable objects, and how they lie over the layer's heap -/
namespace DN
open PySem PySem.Spec L2

inductive D where
  | non | bl (b : Bool) | int (i : Int) | str (x : Str) | tup (xs : List D) | ref (n : Nat) | con (xs : List D)
deriving Inhabited

inductive O where
  | lst (xs : List D)
  | fro (xs : List D)
  | dK (kvs : List (Key × D))
  | ins (C : Str) (fs : List (Str × D))
deriving Inhabited

structure Exn where
  cls : Str
  ks : List Str
  vs : List D

abbrev Env := List (Option D)
abbrev Mem := List O

/-- a list that never changes: frozen, or of the written part -/
def SqF (K : PySem.W.Frag) (H : Hp) (a : Addr) (xs : List V) : Prop :=
  (∃ ob, H a = some (.frz ob (.lst xs))) ∨
    ∃ (o : Obj) (its : Array Value) (n : Nat), K.lookup a = some o ∧ o.cls = .type "list" ∧ o.dict = none ∧ o.data = .seq its n ∧ its.size ≤ sizeLine ∧ Vals xs its.toList
theorem SqF.seq {K : PySem.W.Frag} {H : Hp} {a : Addr} {xs : List V} (h : SqF K H a xs) : SqL K H a xs := h.elim (fun q => .inl (.inr q)) .inr
theorem SqF.of {K : PySem.W.Frag} {H : Hp} {a : Addr} {xs : List V} (o : Only H) (h : SqL K H a xs) : SqF K H a xs := by
  rcases h with h | h
  · rcases h with h | ⟨ob, h⟩
    · rcases o a with e | ⟨ob, ys, e⟩ <;> (rw [e] at h; cases h)
    · exact .inl ⟨ob, h⟩
  · exact .inr h
section
variable (K : PySem.W.Frag) (H : Hp) (al : List Addr)
mutual
def RDat : D → V → Prop
  | .non, v => v = .non
  | .bl b, v => v = .bl b
  | .int i, v => v = .int i
  | .str x, v => v = .str x
  | .tup xs, v => ∃ a vs, v = .ref a ∧ SqT K H a vs ∧ RDats xs vs
  | .ref n, v => ∃ a, al[n]? = some a ∧ v = .ref a
  | .con xs, v => ∃ a vs, v = .ref a ∧ SqF K H a vs ∧ RDats xs vs
def RDats : List D → List V → Prop
  | [], vs => vs = []
  | x :: xs, vs => ∃ v r, vs = v :: r ∧ RDat x v ∧ RDats xs r
end
def RKv : List (Key × D) → List (Key × V) → Prop := Paired fun p q => p.1 = q.1 ∧ RDat K H al p.2 q.2
def RFld : List (Str × D) → List (Str × V) → Prop := Paired fun p q => p.1 = q.1 ∧ RDat K H al p.2 q.2
def RObj (cm : Str → Option Addr) : O → HO → Prop
  | .lst xs, o => ∃ vs, o = .lst vs ∧ RDats K H al xs vs
  | .fro xs, o => ∃ ob vs, o = .frz ob (.lst vs) ∧ RDats K H al xs vs
  | .dK kvs, o => ∃ ws, o = .dK ws ∧ RKv K H al kvs ws
  | .ins C fs, o => ∃ c dx gs, cm C = some c ∧ o = .ins c dx gs ∧ RFld K H al fs gs
end

/-- what never changes -/
def stab : HO → Bool
  | .tup _ => true | .frz _ _ => true | .xd _ => true | _ => false
def KeepH (H H' : Hp) : Prop := ∀ a o, stab o = true → H a = some o → H' a = some o
theorem KeepH.refl (H : Hp) : KeepH H H := fun _ _ _ h => h
theorem KeepH.trans {H H1 H2 : Hp} (a : KeepH H H1) (b : KeepH H1 H2) : KeepH H H2 := fun x o s h => b x o s (a x o s h)
theorem KeepH.new {H : Hp} {p : Addr} {o : HO} (h : H p = none) : KeepH H (upd H p o) := fun a u s e => by
  rw [upd_ne (ne_of_none e h)]; exact e
theorem KeepH.wr {H : Hp} {p : Addr} {o u : HO} (h : H p = some u) (s : stab u = false) : KeepH H (upd H p o) := fun a w s' e => by
  rw [upd_ne (fun z => by subst z; rw [h] at e; cases e; rw [s] at s'; cases s')]; exact e
theorem KeepH.sqF {K : PySem.W.Frag} {H H' : Hp} (k : KeepH H H') {a : Addr} {vs : List V} (h : SqF K H a vs) : SqF K H' a vs := by
  rcases h with ⟨ob, h⟩ | h
  · exact .inl ⟨ob, k a _ rfl h⟩
  · exact .inr h
theorem KeepH.sqT {K : PySem.W.Frag} {H H' : Hp} (k : KeepH H H') {a : Addr} {vs : List V} (h : SqT K H a vs) : SqT K H' a vs := by
  rcases h with (h | ⟨o, h⟩) | h
  · exact .inl (.inl (k _ _ rfl h))
  · exact .inl (.inr ⟨o, k _ _ rfl h⟩)
  · exact .inr h

theorem pfx_get {al al' : List Addr} (p : al <+: al') {n : Nat} {a : Addr} (h : al[n]? = some a) : al'[n]? = some a := by
  obtain ⟨r, rfl⟩ := p
  have hn : n < al.length := (List.getElem?_eq_some_iff.mp h).1
  rw [List.getElem?_append_left hn]; exact h

section
variable {K : PySem.W.Frag} {H H' : Hp} {al al' : List Addr}
mutual
theorem RDat.mono (k : KeepH H H') (p : al <+: al') : ∀ {d : D} {v : V}, RDat K H al d v → RDat K H' al' d v
  | .non, _, h => by simpa [RDat] using h
  | .bl _, _, h => by simpa [RDat] using h
  | .int _, _, h => by simpa [RDat] using h
  | .str _, _, h => by simpa [RDat] using h
  | .tup xs, _, h => by
    rw [RDat] at h ⊢
    obtain ⟨a, vs, e, hs, hl⟩ := h
    exact ⟨a, vs, e, k.sqT hs, RDats.mono k p hl⟩
  | .ref n, _, h => by
    rw [RDat] at h ⊢
    obtain ⟨a, e, e2⟩ := h
    exact ⟨a, pfx_get p e, e2⟩
  | .con xs, _, h => by
    rw [RDat] at h ⊢
    obtain ⟨a, vs, e, hs, hl⟩ := h
    exact ⟨a, vs, e, k.sqF hs, RDats.mono k p hl⟩
theorem RDats.mono (k : KeepH H H') (p : al <+: al') : ∀ {ds : List D} {vs : List V}, RDats K H al ds vs → RDats K H' al' ds vs
  | [], _, h => by simpa [RDats] using h
  | x :: xs, _, h => by
    rw [RDats] at h ⊢
    obtain ⟨v, r, e, h1, h2⟩ := h
    exact ⟨v, r, e, RDat.mono k p h1, RDats.mono k p h2⟩
end
theorem RDats.length : ∀ {ds : List D} {vs : List V}, RDats K H al ds vs → ds.length = vs.length
  | [], _, h => by rw [RDats] at h; subst h; rfl
  | x :: xs, _, h => by
    rw [RDats] at h
    obtain ⟨v, r, rfl, _, h2⟩ := h
    rw [List.length_cons, List.length_cons, RDats.length h2]
theorem RDats.get : ∀ {ds : List D} {vs : List V} {i : Nat} {d : D}, RDats K H al ds vs → ds[i]? = some d → ∃ v, vs[i]? = some v ∧ RDat K H al d v
  | [], _, _, _, _, e => by simp at e
  | x :: xs, _, 0, d, h, e => by
    rw [RDats] at h
    obtain ⟨v, r, rfl, h1, _⟩ := h
    simp at e; subst e
    exact ⟨v, rfl, h1⟩
  | x :: xs, _, i + 1, d, h, e => by
    rw [RDats] at h
    obtain ⟨v, r, rfl, _, h2⟩ := h
    have e' : xs[i]? = some d := by simpa using e
    obtain ⟨w, e1, e2⟩ := RDats.get h2 e'
    exact ⟨w, by simpa using e1, e2⟩
theorem RDats.getV : ∀ {ds : List D} {vs : List V} {i : Nat} {v : V}, RDats K H al ds vs → vs[i]? = some v → ∃ d, ds[i]? = some d ∧ RDat K H al d v
  | [], vs, i, v, h, e => by rw [RDats] at h; subst h; simp at e
  | x :: xs, _, 0, w, h, e => by
    rw [RDats] at h
    obtain ⟨v, r, rfl, h1, _⟩ := h
    simp at e; subst e
    exact ⟨x, rfl, h1⟩
  | x :: xs, _, i + 1, w, h, e => by
    rw [RDats] at h
    obtain ⟨v, r, rfl, _, h2⟩ := h
    have e' : r[i]? = some w := by simpa using e
    obtain ⟨d, e1, e2⟩ := RDats.getV h2 e'
    exact ⟨d, by simpa using e1, e2⟩
theorem RDats.nil : RDats K H al [] [] := by rw [RDats]
theorem RDats.cons {d : D} {v : V} {ds : List D} {vs : List V} (h : RDat K H al d v) (t : RDats K H al ds vs) : RDats K H al (d :: ds) (v :: vs) := by
  rw [RDats]; exact ⟨v, vs, rfl, h, t⟩
theorem RDats.append : ∀ {xs ys : List D} {vs ws : List V}, RDats K H al xs vs → RDats K H al ys ws → RDats K H al (xs ++ ys) (vs ++ ws)
  | [], _, _, _, h, t => by rw [RDats] at h; subst h; exact t
  | x :: xs, _, _, _, h, t => by
    rw [RDats] at h
    obtain ⟨v, r, rfl, h1, h2⟩ := h
    exact RDats.cons h1 (RDats.append h2 t)
theorem RDats.take : ∀ {xs : List D} {vs : List V} (n : Nat), RDats K H al xs vs → RDats K H al (xs.take n) (vs.take n)
  | _, _, 0, _ => by simpa using RDats.nil
  | [], _, n + 1, h => by rw [RDats] at h; subst h; exact RDats.nil
  | x :: xs, _, n + 1, h => by
    rw [RDats] at h
    obtain ⟨v, r, rfl, h1, h2⟩ := h
    exact RDats.cons h1 (RDats.take n h2)
theorem RDats.drop : ∀ {xs : List D} {vs : List V} (n : Nat), RDats K H al xs vs → RDats K H al (xs.drop n) (vs.drop n)
  | _, _, 0, h => by simpa using h
  | [], _, n + 1, h => by rw [RDats] at h; subst h; exact RDats.nil
  | x :: xs, _, n + 1, h => by
    rw [RDats] at h
    obtain ⟨v, r, rfl, h1, h2⟩ := h
    exact RDats.drop n h2
theorem RDats.set {d : D} {v : V} (q : RDat K H al d v) : ∀ {xs : List D} {vs : List V} (n : Nat), RDats K H al xs vs → RDats K H al (xs.set n d) (vs.set n v)
  | [], _, n, h => by rw [RDats] at h; subst h; exact RDats.nil
  | x :: xs, _, 0, h => by
    rw [RDats] at h
    obtain ⟨w, r, rfl, h1, h2⟩ := h
    exact RDats.cons q h2
  | x :: xs, _, n + 1, h => by
    rw [RDats] at h
    obtain ⟨w, r, rfl, h1, h2⟩ := h
    exact RDats.cons h1 (RDats.set q n h2)
theorem RDats.reverse : ∀ {xs : List D} {vs : List V}, RDats K H al xs vs → RDats K H al xs.reverse vs.reverse
  | [], _, h => by rw [RDats] at h; subst h; exact RDats.nil
  | x :: xs, _, h => by
    rw [RDats] at h
    obtain ⟨w, r, rfl, h1, h2⟩ := h
    rw [List.reverse_cons, List.reverse_cons]
    exact RDats.append (RDats.reverse h2) (RDats.cons h1 RDats.nil)
theorem RDats.eraseIdx : ∀ {xs : List D} {vs : List V} (n : Nat), RDats K H al xs vs → RDats K H al (xs.eraseIdx n) (vs.eraseIdx n)
  | [], _, n, h => by rw [RDats] at h; subst h; exact RDats.nil
  | x :: xs, _, 0, h => by
    rw [RDats] at h
    obtain ⟨w, r, rfl, h1, h2⟩ := h
    exact h2
  | x :: xs, _, n + 1, h => by
    rw [RDats] at h
    obtain ⟨w, r, rfl, h1, h2⟩ := h
    exact RDats.cons h1 (RDats.eraseIdx n h2)
theorem RDats.dropLast {xs : List D} {vs : List V} (h : RDats K H al xs vs) : RDats K H al xs.dropLast vs.dropLast := by
  rw [List.dropLast_eq_take, List.dropLast_eq_take, h.length]; exact h.take _
theorem RDat.tup_of {xs : List D} {a : Addr} {vs : List V} (h : SqT K H a vs) (r : RDats K H al xs vs) : RDat K H al (.tup xs) (.ref a) := by
  rw [RDat]; exact ⟨a, vs, rfl, h, r⟩
theorem RKv.mono (k : KeepH H H') (p : al <+: al') {a : List (Key × D)} {b : List (Key × V)} (h : RKv K H al a b) : RKv K H' al' a b :=
  Paired.mapP h fun _ _ z => ⟨z.1, z.2.mono k p⟩
theorem RFld.mono (k : KeepH H H') (p : al <+: al') {a : List (Str × D)} {b : List (Str × V)} (h : RFld K H al a b) : RFld K H' al' a b :=
  Paired.mapP h fun _ _ z => ⟨z.1, z.2.mono k p⟩
theorem RObj.mono {cm : Str → Option Addr} (k : KeepH H H') (p : al <+: al') {o : O} {u : HO} (h : RObj K H al cm o u) : RObj K H' al' cm o u := by
  cases o with
  | lst xs => obtain ⟨vs, e, r⟩ := h; exact ⟨vs, e, r.mono k p⟩
  | fro xs => obtain ⟨ob, vs, e, r⟩ := h; exact ⟨ob, vs, e, r.mono k p⟩
  | dK kvs => obtain ⟨ws, e, r⟩ := h; exact ⟨ws, e, r.mono k p⟩
  | ins C fs => obtain ⟨c, dx, gs, e0, e, r⟩ := h; exact ⟨c, dx, gs, e0, e, r.mono k p⟩
end

/-! ### the whole state -/
structure XN where
  x : Exn
  a : Addr
  cls : Value
  d : Option Addr
  i : Nat
structure GC where
  P : Program
  w : World
  K : PySem.W.Frag
  mg : Str → Option Value
  base : Heap
  cm : Str → Option Addr
  xn : Option XN := none

def RExn (K : PySem.W.Frag) (cm : Str → Option Addr) (H : Hp) (al : List Addr) (x : Exn) (cls : Value) (d : Option Addr) : Prop :=
  ∃ C, cm x.cls = some C ∧ cls = .ref C ∧ ((x.ks = [] ∧ x.vs = [] ∧ d = none) ∨ ∃ dx fs vs, d = some dx ∧ H dx = some (.xd fs) ∧ RDats K H al x.vs vs ∧ x.ks.length = x.vs.length ∧ ∀ k v, (x.ks.zip vs).lookup k = some v → fs.lookup k = some v)
theorem RExn.mono {K : PySem.W.Frag} {cm : Str → Option Addr} {H H' : Hp} {al al' : List Addr} (k : KeepH H H') (p : al <+: al') {x : Exn} {cls : Value} {d : Option Addr} (h : RExn K cm H al x cls d) : RExn K cm H' al' x cls d := by
  obtain ⟨C, e1, e2, h⟩ := h
  refine ⟨C, e1, e2, ?_⟩
  rcases h with h | ⟨dx, fs, vs, e3, e4, r, l, q⟩
  · exact .inl h
  · exact .inr ⟨dx, fs, vs, e3, k _ _ rfl e4, r.mono k p, l, q⟩

structure RMem (G : GC) (H : Hp) (al : List Addr) (M : Mem) : Prop where
  nd : al.Nodup
  len : al.length = M.length
  at_ : ∀ (n : Nat) (o : O), M[n]? = some o → ∃ a u, al[n]? = some a ∧ H a = some u ∧ RObj G.K H al G.cm o u
def REnv (G : GC) (H : Hp) (al : List Addr) (σ : L2.St) (ρ : Env) : Prop :=
  ρ.length = σ.length ∧ ∀ (i : Nat) (d : D), ρ[i]? = some (some d) → ∃ v, σ[i]? = some (some v) ∧ RDat G.K H al d v
def XOk (G : GC) (H : Hp) (al : List Addr) (σ : L2.St) : Prop := match G.xn with
  | none => True
  | some n => RExn G.K G.cm H al n.x n.cls n.d ∧ σ[n.i]? = some (some (.ref n.a))
structure RSt (G : GC) (H : Hp) (al : List Addr) (M : Mem) (σ : L2.St) (ρ : Env) : Prop where
  m : RMem G H al M
  e : REnv G H al σ ρ
  x : XOk G H al σ

/-- from a state to a later one -/
structure Nxt (G : GC) (H : Hp) (al : List Addr) (H' : Hp) (al' : List Addr) (M' : Mem) : Prop where
  p : al <+: al'
  k : KeepH H H'
  m : RMem G H' al' M'
section
variable {G : GC} {H H1 H2 : Hp} {al al1 al2 : List Addr} {M M1 M2 : Mem} {σ : L2.St} {ρ : Env}
theorem RMem.go (m : RMem G H al M) : Nxt G H al H al M := ⟨List.prefix_refl _, KeepH.refl _, m⟩
theorem Nxt.trans (a : Nxt G H al H1 al1 M1) (b : Nxt G H1 al1 H2 al2 M2) : Nxt G H al H2 al2 M2 := ⟨a.p.trans b.p, a.k.trans b.k, b.m⟩
theorem REnv.mono (k : KeepH H H1) (p : al <+: al1) (e : REnv G H al σ ρ) : REnv G H1 al1 σ ρ :=
  ⟨e.1, fun i d h => let ⟨v, a, b⟩ := e.2 i d h; ⟨v, a, b.mono k p⟩⟩
theorem XOk.mono (k : KeepH H H1) (p : al <+: al1) (e : XOk G H al σ) : XOk G H1 al1 σ := by
  unfold XOk at e ⊢
  cases h : G.xn with
  | none => trivial
  | some n => rw [h] at e; exact ⟨e.1.mono k p, e.2⟩
theorem RSt.go (r : RSt G H al M σ ρ) (g : Nxt G H al H1 al1 M1) : RSt G H1 al1 M1 σ ρ := ⟨g.m, r.e.mono g.k g.p, r.x.mono g.k g.p⟩
theorem RSt.len (r : RSt G H al M σ ρ) : ρ.length = σ.length := r.e.1

/-- a new object of the memory -/
theorem RMem.new (m : RMem G H al M) {p : Addr} {o : O} {u : HO} (h : H p = none) (r : RObj G.K H al G.cm o u) : Nxt G H al (upd H p u) (al ++ [p]) (M ++ [o]) := by
  have k : KeepH H (upd H p u) := KeepH.new h
  have px : al <+: al ++ [p] := List.prefix_append _ _
  refine ⟨px, k, ?_, ?_, fun n o' e => ?_⟩
  · refine List.nodup_append.mpr ⟨m.nd, by simp, fun a ha b hb => ?_⟩
    have e : b = p := by simpa using hb
    subst e
    obtain ⟨n, hn⟩ := List.getElem?_of_mem ha
    have hl : n < M.length := by rw [← m.len]; exact (List.getElem?_eq_some_iff.mp hn).1
    obtain ⟨a', u', e1, e2, _⟩ := m.at_ n _ (List.getElem?_eq_getElem hl)
    rw [hn] at e1; cases e1
    intro z; subst z; rw [h] at e2; cases e2
  · rw [List.length_append, List.length_append, m.len]; rfl
  · by_cases hn : n < M.length
    · rw [List.getElem?_append_left hn] at e
      obtain ⟨a, u', e1, e2, r'⟩ := m.at_ n o' e
      exact ⟨a, u', pfx_get px e1, by rw [upd_ne (ne_of_none e2 h)]; exact e2, r'.mono k px⟩
    · have hl : n < (M ++ [o]).length := (List.getElem?_eq_some_iff.mp e).1
      rw [List.length_append] at hl
      have en : n = M.length := by simp at hl; omega
      subst en
      rw [List.getElem?_append_right (Nat.le_refl _), Nat.sub_self] at e
      simp at e; subst e
      refine ⟨p, u, ?_, upd_same, r.mono k px⟩
      rw [← m.len, List.getElem?_append_right (Nat.le_refl _), Nat.sub_self]; rfl
/-- an object of the memory written -/
theorem RMem.wr (m : RMem G H al M) {n : Nat} {a : Addr} {o : O} {u w : HO} (hn : al[n]? = some a) (hw : H a = some w) (sw : stab w = false) (r : RObj G.K H al G.cm o u) : Nxt G H al (upd H a u) al (M.set n o) := by
  have k : KeepH H (upd H a u) := KeepH.wr hw sw
  refine ⟨List.prefix_refl _, k, m.nd, by rw [List.length_set]; exact m.len, fun j o' e => ?_⟩
  by_cases hj : n = j
  · subst hj
    have hl : n < M.length := by rw [← m.len]; exact (List.getElem?_eq_some_iff.mp hn).1
    rw [List.getElem?_set_self hl] at e; cases e
    exact ⟨a, u, hn, upd_same, r.mono k (List.prefix_refl _)⟩
  · rw [List.getElem?_set_ne hj] at e
    obtain ⟨b, u', e1, e2, r'⟩ := m.at_ j o' e
    have hb : b ≠ a := fun z => by
      subst z
      obtain ⟨l1, q1⟩ := List.getElem?_eq_some_iff.mp hn
      obtain ⟨l2, q2⟩ := List.getElem?_eq_some_iff.mp e1
      exact hj ((List.getElem_inj m.nd).mp (q1.trans q2.symm))
    exact ⟨b, u', e1, by rw [upd_ne hb]; exact e2, r'.mono k (List.prefix_refl _)⟩
/-- a tuple is made -/
theorem RMem.tup (m : RMem G H al M) {p : Addr} {vs : List V} (h : H p = none) : Nxt G H al (upd H p (.tup vs)) al M := by
  have k : KeepH H (upd H p (.tup vs)) := KeepH.new h
  exact ⟨List.prefix_refl _, k, m.nd, m.len, fun n o e => let ⟨a, u, e1, e2, r⟩ := m.at_ n o e; ⟨a, u, e1, by rw [upd_ne (ne_of_none e2 h)]; exact e2, r.mono k (List.prefix_refl _)⟩⟩
theorem RMem.lst (m : RMem G H al M) {n : Nat} {xs : List D} {v : V} (r : RDat G.K H al (.ref n) v) (e : M[n]? = some (.lst xs)) : ∃ a vs, v = .ref a ∧ al[n]? = some a ∧ H a = some (.lst vs) ∧ RDats G.K H al xs vs := by
  rw [RDat] at r
  obtain ⟨a, ea, ev⟩ := r
  obtain ⟨b, u, e1, e2, vs, e3, q⟩ := m.at_ n _ e
  rw [ea] at e1; cases e1; subst e3
  exact ⟨a, vs, ev, ea, e2, q⟩
theorem RMem.fro (m : RMem G H al M) {n : Nat} {xs : List D} {v : V} (r : RDat G.K H al (.ref n) v) (e : M[n]? = some (.fro xs)) : ∃ a vs, v = .ref a ∧ SqL G.K H a vs ∧ RDats G.K H al xs vs := by
  rw [RDat] at r
  obtain ⟨a, ea, ev⟩ := r
  obtain ⟨b, u, e1, e2, ob, vs, e3, q⟩ := m.at_ n _ e
  rw [ea] at e1; cases e1; subst e3
  exact ⟨a, vs, ev, .inl (.inr ⟨ob, e2⟩), q⟩
/-- the items of a list of the memory -/
def lstAt (M : Mem) (n : Nat) : Option (List D) := match M[n]? with
  | some (.lst xs) => some xs
  | some (.fro xs) => some xs
  | _ => none
theorem RMem.seq (m : RMem G H al M) {n : Nat} {xs : List D} {v : V} (r : RDat G.K H al (.ref n) v) (e : lstAt M n = some xs) : ∃ a vs, v = .ref a ∧ SqL G.K H a vs ∧ RDats G.K H al xs vs := by
  unfold lstAt at e
  cases h : M[n]? with
  | none => rw [h] at e; cases e
  | some o =>
    rw [h] at e
    cases o with
    | lst ys => cases e; obtain ⟨a, vs, ev, _, e2, q⟩ := m.lst r h; exact ⟨a, vs, ev, SqL.of e2, q⟩
    | fro ys => cases e; exact m.fro r h
    | dK _ => cases e
    | ins _ _ => cases e
end
end DN

set_option maxHeartbeats 4000000
/-! the readings over data, and the judgements -/
namespace DN
open PySem PySem.Spec L2
/-- in this layer an exception in the air has no context -/
abbrev Takes (X : Cx) (W : WX) : Prop := L2N.Takes X W
abbrev CX (P : Program) (w : World) : CXT := L2N.CX P w
theorem passAt {X : Cx} {W : WX} (tk : Takes X W) (σ : L2.St) : PassesAt (CX X.prog X.w) X σ (WE W σ) := L2N.passAt tk σ
theorem passL {X : Cx} : Passes (CX X.prog X.w) X (fun _ _ _ => False) := fun _ _ _ _ _ _ _ h => by
  obtain ⟨_, _, _, _, _, _, _, _, _, _, _, _, z⟩ := h
  exact z.elim
theorem takes0 {X : Cx} : Takes X (fun _ _ _ _ => False) := fun _ _ x => by
  obtain ⟨_, _, _, _, _, _, _, _, _, _, _, _, _, _, _, _, z⟩ := x
  exact z.elim

abbrev KD := D → Mem → Prop
abbrev XC := Exn → Mem → Prop
abbrev SE := XC → Env → Mem → KD → Prop
abbrev SC := XC → Env → Mem → (Bool → Mem → Prop) → Prop
abbrev SA := XC → Env → Mem → (List D → Mem → Prop) → Prop
abbrev Fn := List D → Mem → KD → XC → Prop

def XCl (G : GC) (W : WX) (H : Hp) (al : List Addr) (Ex : XC) (σ : L2.St) : Prop :=
  ∀ H' al' M' x cls dd, Nxt G H al H' al' M' → RExn G.K G.cm H' al' x cls dd → Ex x M' → W cls dd σ H'
theorem XCl.nxt {G : GC} {W : WX} {H H1 : Hp} {al al1 : List Addr} {M1 : Mem} {Ex : XC} {σ : L2.St} (c : XCl G W H al Ex σ) (n : Nxt G H al H1 al1 M1) : XCl G W H1 al1 Ex σ :=
  fun H' al' M' x cls dd n' r e => c H' al' M' x cls dd (n.trans n') r e
/-- what follows with a value -/
def VCl (G : GC) (H : Hp) (al : List Addr) (R : KD) (Q : VK) : Prop := ∀ H' al' M' v d, Nxt G H al H' al' M' → RDat G.K H' al' d v → R d M' → Q v H'
theorem VCl.nxt {G : GC} {H H1 : Hp} {al al1 : List Addr} {M1 : Mem} {R : KD} {Q : VK} (c : VCl G H al R Q) (n : Nxt G H al H1 al1 M1) : VCl G H1 al1 R Q :=
  fun H' al' M' v d n' r e => c H' al' M' v d (n.trans n') r e

def LE (G : GC) (W : WX) (t : SE) : TE := fun σ H Q => ∃ ρ al M Ex R, RSt G H al M σ ρ ∧ t Ex ρ M R ∧ VCl G H al R Q ∧ XCl G W H al Ex σ
def LC (G : GC) (W : WX) (t : SC) : TT := fun σ H Q => ∃ ρ al M Ex R, RSt G H al M σ ρ ∧ t Ex ρ M R ∧ (∀ H' al' M' b, Nxt G H al H' al' M' → R b M' → Q b H') ∧ XCl G W H al Ex σ
def LA (G : GC) (W : WX) (n : Nat) (t : SA) : TA := fun σ H Q => ∃ ρ al M Ex R, RSt G H al M σ ρ ∧ t Ex ρ M R ∧ (∀ H' al' M' vs ds, Nxt G H al H' al' M' → RDats G.K H' al' ds vs → ds.length = n → R ds M' → Q vs H') ∧ XCl G W H al Ex σ
def ME (X : Cx) (G : GC) (e : Expr) (t : SE) : Prop := ∀ W, Takes X W → PE X e (LE G W t)
def MC (X : Cx) (G : GC) (e : Expr) (t : SC) : Prop := ∀ W, Takes X W → PT X e (LC G W t)
def MA (X : Cx) (G : GC) (es : List Expr) (t : SA) : Prop := ∀ W, Takes X W → PA X es (LA G W es.length t)

theorem PE.imp {X : Cx} {e : Expr} {t t' : TE} (h : PE X e t) (i : ∀ σ H Q, t' σ H Q → t σ H Q) : PE X e t' := ⟨fun pins s σ H Q I w => h.run pins s σ H Q I (i σ H Q w)⟩
theorem PT.imp {X : Cx} {e : Expr} {t t' : TT} (h : PT X e t) (i : ∀ σ H Q, t' σ H Q → t σ H Q) : PT X e t' := ⟨fun pins s σ H Q I w => h.run pins s σ H Q I (i σ H Q w)⟩
theorem PW.imp {X : Cx} {e : Expr} {t t' : TT} (h : PW X e t) (i : ∀ σ H Q, t' σ H Q → t σ H Q) : PW X e t' := ⟨fun wh pins s σ H Q I w => h.run wh pins s σ H Q I (i σ H Q w)⟩
theorem PA.imp {X : Cx} {e : List Expr} {t t' : TA} (h : PA X e t) (i : ∀ σ H Q, t' σ H Q → t σ H Q) : PA X e t' := ⟨fun pos pins s σ H Q I w => h.run pos pins s σ H Q I (i σ H Q w)⟩
theorem PS.imp {X : Cx} {e : Stmt} {t t' : TS} (h : PS X e t) (i : ∀ D σ H, t' D σ H → t D σ H) : PS X e t' := ⟨fun pins s σ H D I w => h.run pins s σ H D I (i D σ H w)⟩
theorem PSs.imp {X : Cx} {e : List Stmt} {t t' : TS} (h : PSs X e t) (i : ∀ D σ H, t' D σ H → t D σ H) : PSs X e t' := ⟨fun pins s σ H D I w => h.run pins s σ H D I (i D σ H w)⟩

/-! ### slots -/
def slot : Env → Nat → Option D
  | [], _ => none
  | x :: _, 0 => x
  | _ :: r, i + 1 => slot r i
theorem slot_get : ∀ {ρ : Env} {i : Nat} {d : D}, slot ρ i = some d → ρ[i]? = some (some d)
  | [], _, _, h => by simp [slot] at h
  | x :: _, 0, d, h => by simp [slot] at h; simp [h]
  | _ :: r, i + 1, d, h => by
    have := slot_get (ρ := r) (i := i) h
    simpa using this

/-! ### names, constants -/
def eVar (i : Nat) : SE := fun _ ρ M R => match slot ρ i with | some d => R d M | none => False
def eC (d : D) : SE := fun _ _ M R => R d M
section
variable {X : Cx} {G : GC}
theorem me_var {i : Nat} {x : Str} {pos : Pos} (hN : X.N[i]? = some x) (hv : Vis X.env.scope x) (hd : (x == ("__debug__" : Str)) = false) (hcd : (x == ("__classdict__" : Str)) = false) : ME X G (.Name x pos) (eVar i) := by
  refine fun W tk => PE.imp (pe_var (i := i) hN hv hd hcd) fun σ H Q h => ?_
  obtain ⟨ρ, al, M, Ex, R, r, t, c, _⟩ := h
  unfold eVar at t
  cases e : slot ρ i with
  | none => rw [e] at t; exact t.elim
  | some d =>
    rw [e] at t
    obtain ⟨v, e1, rv⟩ := r.e.2 i d (slot_get e)
    exact ⟨v, e1, c _ _ _ _ _ r.m.go rv t⟩
theorem me_of_tC {e : Expr} {v : V} {d : D} (h : PE X e (tC v)) (r : ∀ H al, RDat G.K H al d v) : ME X G e (eC d) := by
  refine fun W tk => PE.imp h fun σ H Q h => ?_
  obtain ⟨ρ, al, M, Ex, R, rr, t, c, _⟩ := h
  exact c _ _ _ _ _ rr.m.go (r H al) t
theorem me_int {i : Int} {j pos} : ME X G (.Constant (.int i) j pos) (eC (.int i)) := me_of_tC pe_int fun _ _ => by rw [RDat]
theorem me_bl {b : Bool} {j pos} : ME X G (.Constant (.bool b) j pos) (eC (.bl b)) := me_of_tC pe_bl fun _ _ => by rw [RDat]
theorem me_non {j pos} : ME X G (.Constant .none j pos) (eC .non) := me_of_tC pe_non fun _ _ => by rw [RDat]
theorem me_str {x : Str} {j pos} : ME X G (.Constant (.str x) j pos) (eC (.str x)) := me_of_tC pe_str fun _ _ => by rw [RDat]

/-! ### two-place operations by values -/
abbrev Op2 := D → D → Mem → KD → Prop
def LR (G : GC) (g : Op2) : R2 := fun x y H Q => ∃ al M dx dy R, RMem G H al M ∧ RDat G.K H al dx x ∧ RDat G.K H al dy y ∧ g dx dy M R ∧ VCl G H al R Q
def eBin (g : Op2) (ta tb : SE) : SE := fun Ex ρ M R => ta Ex ρ M fun x M1 => tb Ex ρ M1 fun y M2 => g x y M2 R
variable {a b c : Expr} {ta tb tc : SE} {pos : Pos}
theorem le_bin {W : WX} {g : Op2} {σ : L2.St} {H : Hp} {Q : VK} (h : LE G W (eBin g ta tb) σ H Q) : tOp (LR G g) (LE G W ta) (LE G W tb) σ H Q := by
  obtain ⟨ρ, al, M, Ex, R, r, t, c, xc⟩ := h
  exact ⟨ρ, al, M, Ex, _, r, t, fun H1 al1 M1 x dx n1 r1 h1 => ⟨ρ, al1, M1, Ex, _, r.go n1, h1, fun H2 al2 M2 y dy n2 r2 h2 =>
    ⟨al2, M2, dx, dy, R, n2.m, r1.mono n2.k n2.p, r2, h2, c.nxt (n1.trans n2)⟩, xc.nxt n1⟩, xc⟩
theorem me_bin {op : Operator} {g : Op2} (ho : OpR X (binaryOp op) (LR G g)) (ha : ME X G a ta) (hb : ME X G b tb) : ME X G (.BinOp a op b pos) (eBin g ta tb) :=
  fun W tk => PE.imp (pe_op ho (ha W tk) (hb W tk)) fun _ _ _ h => le_bin h
theorem me_cmp {op : CmpOp} {g : Op2} (ho : OpR X (compareOp op) (LR G g)) (ha : ME X G a ta) (hb : ME X G b tb) (hm : behindInMarks op b = false) : ME X G (.Compare a [op] [b] pos) (eBin g ta tb) :=
  fun W tk => PE.imp (pe_cmpR ho (ha W tk) (hb W tk) hm) fun _ _ _ h => le_bin h
theorem me_ix {g : Op2} (ho : IxR X (LR G g)) (ha : ME X G a ta) (hb : ME X G b tb) (hs : PlainIx b) : ME X G (.Subscript a b pos) (eBin g ta tb) :=
  fun W tk => PE.imp (pe_ix ho (ha W tk) (hb W tk) hs) fun _ _ _ h => le_bin h
/-- a value as a test where it is a bool -/
def cB (t : SE) : SC := fun Ex ρ M R => t Ex ρ M fun d M1 => match d with | .bl k => R k M1 | _ => False
theorem mc_cmp {op : CmpOp} {g : Op2} (ho : OpR X (compareOp op) (LR G g)) (ha : ME X G a ta) (hb : ME X G b tb) (hm : behindInMarks op b = false) : MC X G (.Compare a [op] [b] pos) (cB (eBin g ta tb)) := by
  refine fun W tk => PT.imp (pt_cmpR ho (ha W tk) (hb W tk) hm) fun σ H Q h => ?_
  obtain ⟨ρ, al, M, Ex, R, r, t, c, xc⟩ := h
  refine le_bin (g := g) ⟨ρ, al, M, Ex, _, r, t, fun H1 al1 M1 v d n1 r1 h1 => ?_, xc⟩
  cases d with
  | bl k => rw [RDat] at r1; exact ⟨k, r1, c _ _ _ _ n1 h1⟩
  | _ => exact h1.elim
/-! ### unary -/
abbrev Op1 := D → Mem → KD → Prop
def LU (G : GC) (g : Op1) : V → Hp → VK → Prop := fun x H Q => ∃ al M dx R, RMem G H al M ∧ RDat G.K H al dx x ∧ g dx M R ∧ VCl G H al R Q
def eUn (g : Op1) (ta : SE) : SE := fun Ex ρ M R => ta Ex ρ M fun x M1 => g x M1 R
theorem me_un {op : UnaryOp} {g : Op1} (ho : UnR X (unaryOp op) (LU G g)) (ha : ME X G a ta) : ME X G (.UnaryOp op a pos) (eUn g ta) := by
  refine fun W tk => PE.imp (pe_un ho (ha W tk)) fun σ H Q h => ?_
  obtain ⟨ρ, al, M, Ex, R, r, t, c, xc⟩ := h
  exact ⟨ρ, al, M, Ex, _, r, t, fun H1 al1 M1 x dx n1 r1 h1 => ⟨al1, M1, dx, R, n1.m, r1, h1, c.nxt n1⟩, xc⟩
/-! ### chains -/
def eChain (g g' : Op2) (ta tb tc : SE) : SE := fun Ex ρ M R => ta Ex ρ M fun x M1 => tb Ex ρ M1 fun y M2 => g x y M2 fun z M3 => match z with
  | .bl true => tc Ex ρ M3 fun w M4 => g' y w M4 R
  | .bl false => R (.bl false) M3
  | _ => False
theorem le_chain {W : WX} {g g' : Op2} {σ : L2.St} {H : Hp} {Q : VK} (h : LE G W (eChain g g' ta tb tc) σ H Q) : tChain (LR G g) (LR G g') (LE G W ta) (LE G W tb) (LE G W tc) σ H Q := by
  obtain ⟨ρ, al, M, Ex, R, r, t, c, xc⟩ := h
  refine ⟨ρ, al, M, Ex, _, r, t, fun H1 al1 M1 x dx n1 r1 h1 => ⟨ρ, al1, M1, Ex, _, r.go n1, h1, fun H2 al2 M2 y dy n2 r2 h2 => ?_, xc.nxt n1⟩, xc⟩
  refine ⟨al2, M2, dx, dy, _, n2.m, r1.mono n2.k n2.p, r2, h2, fun H3 al3 M3 z dz n3 r3 h3 => ?_⟩
  have n13 := n1.trans (n2.trans n3)
  cases dz with
  | bl k =>
    rw [RDat] at r3
    refine ⟨k, r3, ?_⟩
    cases k with
    | true =>
      rw [if_pos rfl]
      exact ⟨ρ, al3, M3, Ex, _, r.go n13, h3, fun H4 al4 M4 w dw n4 r4 h4 => ⟨al4, M4, dy, dw, R, n4.m, r2.mono (n3.k.trans n4.k) (n3.p.trans n4.p), r4, h4, c.nxt (n13.trans n4)⟩, xc.nxt n13⟩
    | false =>
      rw [if_neg Bool.false_ne_true]
      exact c _ _ _ _ _ n13 (by rw [RDat]) h3
  | _ => exact h3.elim
theorem me_chain {op op' : CmpOp} {g g' : Op2} (ho : OpR X (compareOp op) (LR G g)) (ho' : OpR X (compareOp op') (LR G g')) (ha : ME X G a ta) (hb : ME X G b tb) (hc : ME X G c tc)
    (hm : lastMarks [op, op'] [b, c] = false) : ME X G (.Compare a [op, op'] [b, c] pos) (eChain g g' ta tb tc) :=
  fun W tk => PE.imp (pe_chain ho ho' (ha W tk) (hb W tk) (hc W tk) hm) fun _ _ _ h => le_chain h
theorem mc_chain {op op' : CmpOp} {g g' : Op2} (ho : OpR X (compareOp op) (LR G g)) (ho' : OpR X (compareOp op') (LR G g')) (ha : ME X G a ta) (hb : ME X G b tb) (hc : ME X G c tc)
    (hm : lastMarks [op, op'] [b, c] = false) : MC X G (.Compare a [op, op'] [b, c] pos) (cB (eChain g g' ta tb tc)) := by
  refine fun W tk => PT.imp (pt_chain ho ho' (ha W tk) (hb W tk) (hc W tk) hm) fun σ H Q h => ?_
  obtain ⟨ρ, al, M, Ex, R, r, t, c, xc⟩ := h
  refine le_chain (g := g) (g' := g') ⟨ρ, al, M, Ex, _, r, t, fun H1 al1 M1 v d n1 r1 h1 => ?_, xc⟩
  cases d with
  | bl k => rw [RDat] at r1; exact ⟨k, r1, c _ _ _ _ n1 h1⟩
  | _ => exact h1.elim

/-! ### truth -/
def tru (d : D) (M : Mem) : Option Bool := match d with
  | .non => some false
  | .bl b => some b
  | .int i => some (i != 0)
  | .str x => if x.length ≤ sizeLine then some ((x.length : Int) != 0) else none
  | .tup xs => some (!xs.isEmpty)
  | .ref n => match M[n]? with
    | some (.lst xs) => some (!xs.isEmpty)
    | some (.fro xs) => some (!xs.isEmpty)
    | some (.dK kvs) => some (!kvs.isEmpty)
    | _ => none
  | .con xs => some (!xs.isEmpty)
theorem RDats.isEmpty {K : PySem.W.Frag} {H : Hp} {al : List Addr} {ds : List D} {vs : List V} (r : RDats K H al ds vs) : (!vs.isEmpty) = !ds.isEmpty := by
  have := r.length
  cases ds <;> cases vs <;> simp_all
theorem tru_ok {H : Hp} {al : List Addr} {M : Mem} {d : D} {v : V} {k : Bool} (m : RMem G H al M) (r : RDat G.K H al d v) (h : tru d M = some k) : TruV G.K v H k := by
  cases d with
  | non => rw [RDat] at r; subst r; simp [tru] at h; subst h; rfl
  | bl b => rw [RDat] at r; subst r; simp [tru] at h; subst h; rfl
  | int i => rw [RDat] at r; subst r; simp only [tru, Option.some.injEq] at h; exact h.symm
  | str x =>
    rw [RDat] at r; subst r
    have h : (if x.length ≤ sizeLine then some ((x.length : Int) != 0) else none) = some k := h
    by_cases hz : x.length ≤ sizeLine
    · rw [if_pos hz] at h; cases h; exact ⟨hz, rfl⟩
    · rw [if_neg hz] at h; cases h
  | tup xs =>
    rw [RDat] at r
    obtain ⟨a, vs, rfl, hs, rs⟩ := r
    simp only [tru, Option.some.injEq] at h
    exact .inr (.inl ⟨vs, hs, by rw [rs.isEmpty, h]⟩)
  | ref n =>
    unfold tru at h
    cases e : M[n]? with
    | none => simp [e] at h
    | some o =>
      cases o with
      | lst xs =>
        simp only [e, Option.some.injEq] at h
        obtain ⟨a, vs, rfl, _, e2, q⟩ := m.lst r e
        exact .inl ⟨vs, SqL.of e2, by rw [q.isEmpty, h]⟩
      | fro xs =>
        simp only [e, Option.some.injEq] at h
        obtain ⟨a, vs, rfl, e2, q⟩ := m.fro r e
        exact .inl ⟨vs, e2, by rw [q.isEmpty, h]⟩
      | dK kvs =>
        simp only [e, Option.some.injEq] at h
        rw [RDat] at r
        obtain ⟨a, ea, rfl⟩ := r
        obtain ⟨b, u, e1, e2, ws, e3, q⟩ := m.at_ n _ e
        rw [ea] at e1; cases e1; subst e3
        exact .inr (.inr ⟨ws, e2, by rw [← h]; cases q <;> rfl⟩)
      | ins _ _ => simp [e] at h
  | con xs =>
    rw [RDat] at r
    obtain ⟨a, vs, rfl, hs, rs⟩ := r
    simp only [tru, Option.some.injEq] at h
    exact .inl ⟨vs, hs.seq, by rw [rs.isEmpty, h]⟩
/-- a value's truth -/
def withTru (d : D) (M : Mem) (R : Bool → Mem → Prop) : Prop := match tru d M with | some k => R k M | none => False
def cT (t : SE) : SC := fun Ex ρ M R => t Ex ρ M fun d M1 => withTru d M1 R
theorem mc_tru (hK : X.K = G.K) (ha : ME X G a ta) (he : ∀ whole, isTrue a X.env whole = (do let v ← whole; standAt a.pos; holding [v] (truthy v))) : MC X G a (cT ta) := by
  refine fun W tk => PT.imp (pt_truth (ha W tk) he) fun σ H Q h => ?_
  obtain ⟨ρ, al, M, Ex, R, r, t, c, xc⟩ := h
  refine ⟨ρ, al, M, Ex, _, r, t, fun H1 al1 M1 v d n1 r1 h1 => ?_, xc⟩
  have h1 : withTru d M1 R := h1
  unfold withTru at h1
  cases e : tru d M1 with
  | none => rw [e] at h1; exact h1.elim
  | some k => rw [e] at h1; exact ⟨k, by rw [hK]; exact tru_ok n1.m r1 e, c _ _ _ _ n1 h1⟩
def cNot (t : SC) : SC := fun Ex ρ M R => t Ex ρ M fun k M1 => R (!k) M1
def cAnd (t u : SC) : SC := fun Ex ρ M R => t Ex ρ M fun k M1 => match k with | true => u Ex ρ M1 R | false => R false M1
def cOr (t u : SC) : SC := fun Ex ρ M R => t Ex ρ M fun k M1 => match k with | true => R true M1 | false => u Ex ρ M1 R
variable {t u : SC} {rest : List Expr}
theorem mc_not (ha : MC X G a t) : MC X G (.UnaryOp .Not a pos) (cNot t) := by
  refine fun W tk => PT.imp (pt_not (ha W tk)) fun σ H Q h => ?_
  obtain ⟨ρ, al, M, Ex, R, r, t, c, xc⟩ := h
  exact ⟨ρ, al, M, Ex, _, r, t, fun H1 al1 M1 k n1 h1 => c _ _ _ _ n1 h1, xc⟩
def MW (X : Cx) (G : GC) (e : Expr) (t : SC) : Prop := ∀ W, Takes X W → PW X e (LC G W t)
theorem MW.mc {e : Expr} (h : MW X G e t) : MC X G e t := fun W tk => (h W tk).pt
theorem mw_and1 (ha : MC X G a t) : MW X G (.BoolOp .And [a] pos) t := fun W tk => pw_and1 (ha W tk)
theorem mw_or1 (ha : MC X G a t) : MW X G (.BoolOp .Or [a] pos) t := fun W tk => pw_or1 (ha W tk)
theorem mw_and (ha : MC X G a t) (hb : MW X G (.BoolOp .And (b :: rest) pos) u) : MW X G (.BoolOp .And (a :: b :: rest) pos) (cAnd t u) := by
  refine fun W tk => PW.imp (pw_and (ha W tk) (hb W tk)) fun σ H Q h => ?_
  obtain ⟨ρ, al, M, Ex, R, r, t, c, xc⟩ := h
  refine ⟨ρ, al, M, Ex, _, r, t, fun H1 al1 M1 k n1 h1 => ?_, xc⟩
  cases k with
  | true => rw [if_pos rfl]; exact ⟨ρ, al1, M1, Ex, R, r.go n1, h1, fun H2 al2 M2 k n2 h2 => c _ _ _ _ (n1.trans n2) h2, xc.nxt n1⟩
  | false => rw [if_neg Bool.false_ne_true]; exact c _ _ _ _ n1 h1
theorem mw_or (ha : MC X G a t) (hb : MW X G (.BoolOp .Or (b :: rest) pos) u) : MW X G (.BoolOp .Or (a :: b :: rest) pos) (cOr t u) := by
  refine fun W tk => PW.imp (pw_or (ha W tk) (hb W tk)) fun σ H Q h => ?_
  obtain ⟨ρ, al, M, Ex, R, r, t, c, xc⟩ := h
  refine ⟨ρ, al, M, Ex, _, r, t, fun H1 al1 M1 k n1 h1 => ?_, xc⟩
  cases k with
  | false => rw [if_neg Bool.false_ne_true]; exact ⟨ρ, al1, M1, Ex, R, r.go n1, h1, fun H2 al2 M2 k n2 h2 => c _ _ _ _ (n1.trans n2) h2, xc.nxt n1⟩
  | true => rw [if_pos rfl]; exact c _ _ _ _ n1 h1
/-! ### and, or, not as values -/
def eAnd (ta tb : SE) : SE := fun Ex ρ M R => ta Ex ρ M fun x M1 => match tru x M1 with | some true => tb Ex ρ M1 R | some false => R x M1 | none => False
def eOr (ta tb : SE) : SE := fun Ex ρ M R => ta Ex ρ M fun x M1 => match tru x M1 with | some true => R x M1 | some false => tb Ex ρ M1 R | none => False
def eNot (ta : SE) : SE := fun Ex ρ M R => ta Ex ρ M fun x M1 => match tru x M1 with | some k => R (.bl (!k)) M1 | none => False
theorem me_one {op} (h : ME X G a ta) : ME X G (.BoolOp op [a] pos) ta := fun W tk => pe_one (h W tk)
theorem me_and (hK : X.K = G.K) (ha : ME X G a ta) (hb : ME X G (.BoolOp .And (b :: rest) pos) tb) : ME X G (.BoolOp .And (a :: b :: rest) pos) (eAnd ta tb) := by
  refine fun W tk => PE.imp (pe_andT (ha W tk) (hb W tk)) fun σ H Q h => ?_
  obtain ⟨ρ, al, M, Ex, R, r, t, c, xc⟩ := h
  refine ⟨ρ, al, M, Ex, _, r, t, fun H1 al1 M1 x d n1 r1 h1 => ?_, xc⟩
  cases e : tru d M1 with
  | none => simp only [e] at h1
  | some k =>
    refine ⟨k, by rw [hK]; exact tru_ok n1.m r1 e, ?_⟩
    cases k with
    | true => simp only [e] at h1; rw [if_pos rfl]; exact ⟨ρ, al1, M1, Ex, R, r.go n1, h1, c.nxt n1, xc.nxt n1⟩
    | false => simp only [e] at h1; rw [if_neg Bool.false_ne_true]; exact c _ _ _ _ _ n1 r1 h1
theorem me_or (hK : X.K = G.K) (ha : ME X G a ta) (hb : ME X G (.BoolOp .Or (b :: rest) pos) tb) : ME X G (.BoolOp .Or (a :: b :: rest) pos) (eOr ta tb) := by
  refine fun W tk => PE.imp (pe_orT (ha W tk) (hb W tk)) fun σ H Q h => ?_
  obtain ⟨ρ, al, M, Ex, R, r, t, c, xc⟩ := h
  refine ⟨ρ, al, M, Ex, _, r, t, fun H1 al1 M1 x d n1 r1 h1 => ?_, xc⟩
  cases e : tru d M1 with
  | none => simp only [e] at h1
  | some k =>
    refine ⟨k, by rw [hK]; exact tru_ok n1.m r1 e, ?_⟩
    cases k with
    | false => simp only [e] at h1; rw [if_neg Bool.false_ne_true]; exact ⟨ρ, al1, M1, Ex, R, r.go n1, h1, c.nxt n1, xc.nxt n1⟩
    | true => simp only [e] at h1; rw [if_pos rfl]; exact c _ _ _ _ _ n1 r1 h1
theorem me_not (hK : X.K = G.K) (ha : ME X G a ta) : ME X G (.UnaryOp .Not a pos) (eNot ta) := by
  refine fun W tk => PE.imp (pe_notT (ha W tk)) fun σ H Q h => ?_
  obtain ⟨ρ, al, M, Ex, R, r, t, c, xc⟩ := h
  refine ⟨ρ, al, M, Ex, _, r, t, fun H1 al1 M1 x d n1 r1 h1 => ?_, xc⟩
  cases e : tru d M1 with
  | none => simp only [e] at h1
  | some k => simp only [e] at h1; exact ⟨k, by rw [hK]; exact tru_ok n1.m r1 e, c _ _ _ _ _ n1 (by rw [RDat]) h1⟩
def eIf (t : SC) (ta tb : SE) : SE := fun Ex ρ M R => t Ex ρ M fun k M1 => match k with | true => ta Ex ρ M1 R | false => tb Ex ρ M1 R
theorem me_ifExp (hc : MC X G c t) (ha : ME X G a ta) (hb : ME X G b tb) : ME X G (.IfExp c a b pos) (eIf t ta tb) := by
  refine fun W tk => PE.imp (pe_ifExp (hc W tk) (ha W tk) (hb W tk)) fun σ H Q h => ?_
  obtain ⟨ρ, al, M, Ex, R, r, t, c, xc⟩ := h
  refine ⟨ρ, al, M, Ex, _, r, t, fun H1 al1 M1 k n1 h1 => ?_, xc⟩
  cases k with
  | true => rw [if_pos rfl]; exact ⟨ρ, al1, M1, Ex, R, r.go n1, h1, c.nxt n1, xc.nxt n1⟩
  | false => rw [if_neg Bool.false_ne_true]; exact ⟨ρ, al1, M1, Ex, R, r.go n1, h1, c.nxt n1, xc.nxt n1⟩

/-! ### argument lists, displays -/
def aNil : SA := fun _ _ M R => R [] M
def aCons (ta : SE) (tr : SA) : SA := fun Ex ρ M R => ta Ex ρ M fun x M1 => tr Ex ρ M1 fun xs M2 => R (x :: xs) M2
variable {es : List Expr} {tt : SA}
theorem ma_nil : MA X G [] aNil := by
  refine fun W tk => PA.imp pa_nil fun σ H Q h => ?_
  obtain ⟨ρ, al, M, Ex, R, r, t, c, xc⟩ := h
  exact c _ _ _ _ _ r.m.go RDats.nil rfl t
theorem ma_cons (ha : ME X G a ta) (hr : MA X G es tt) (hs : starEach (a :: es) X.env = (false, eval a X.env) :: starEach es X.env) : MA X G (a :: es) (aCons ta tt) := by
  refine fun W tk => PA.imp (pa_cons (ha W tk) (hr W tk) hs) fun σ H Q h => ?_
  obtain ⟨ρ, al, M, Ex, R, r, t, c, xc⟩ := h
  exact ⟨ρ, al, M, Ex, _, r, t, fun H1 al1 M1 x d n1 r1 h1 => ⟨ρ, al1, M1, Ex, _, r.go n1, h1, fun H2 al2 M2 xs ds n2 r2 l2 h2 => c _ _ _ _ _ (n1.trans n2) (RDats.cons (r1.mono n2.k n2.p) r2) (by rw [List.length_cons, List.length_cons, l2]) h2, xc.nxt n1⟩, xc⟩
def eTup (tt : SA) : SE := fun Ex ρ M R => tt Ex ρ M fun ds M1 => ds.length ≤ sizeLine ∧ R (.tup ds) M1
def eLst (tt : SA) : SE := fun Ex ρ M R => tt Ex ρ M fun ds M1 => ds.length ≤ sizeLine ∧ R (.ref M1.length) (M1 ++ [.lst ds])
theorem me_tup {x1} (h : MA X G es tt) : ME X G (.Tuple es x1 pos) (eTup tt) := by
  refine fun W tk => PE.imp (pe_tup (h W tk)) fun σ H Q h => ?_
  obtain ⟨ρ, al, M, Ex, R, r, t, c, xc⟩ := h
  refine ⟨ρ, al, M, Ex, _, r, t, fun H1 al1 M1 vs ds n1 r1 l1 h1 => ?_, xc⟩
  obtain ⟨hz, h1⟩ := h1
  refine ⟨by rw [← r1.length]; exact hz, fun p hp => ?_⟩
  have n2 := n1.m.tup (vs := vs) hp
  exact c _ _ _ _ _ (n1.trans n2) (RDat.tup_of (SqT.of upd_same) (r1.mono n2.k n2.p)) h1
theorem rdat_new {H : Hp} {al : List Addr} {M : Mem} {p : Addr} (hl : al.length = M.length) : RDat G.K H (al ++ [p]) (.ref M.length) (.ref p) := by
  rw [RDat, ← hl]
  exact ⟨p, by rw [List.getElem?_append_right (Nat.le_refl _), Nat.sub_self]; rfl, rfl⟩
theorem me_lst (h : MA X G es tt) : ME X G (.List es pos) (eLst tt) := by
  refine fun W tk => PE.imp (pe_lst (h W tk)) fun σ H Q h => ?_
  obtain ⟨ρ, al, M, Ex, R, r, t, c, xc⟩ := h
  refine ⟨ρ, al, M, Ex, _, r, t, fun H1 al1 M1 vs ds n1 r1 l1 h1 => ?_, xc⟩
  obtain ⟨hz, h1⟩ := h1
  refine ⟨by rw [← r1.length]; exact hz, fun p hp => ?_⟩
  have n2 := n1.m.new (o := .lst ds) (u := .lst vs) hp ⟨vs, rfl, r1⟩
  exact c _ _ _ _ _ (n1.trans n2) (rdat_new n1.m.len) h1

/-! ### calls of built-ins -/
abbrev OpN := List D → Mem → KD → Prop
def LCall (G : GC) (g : OpN) : List V → Hp → VK → Prop := fun xs H Q => ∃ al M ds R, RMem G H al M ∧ RDats G.K H al ds xs ∧ g ds M R ∧ VCl G H al R Q
def eCallB (g : OpN) (tt : SA) : SE := fun Ex ρ M R => tt Ex ρ M fun ds M1 => g ds M1 R
theorem le_callB {W : WX} {g : OpN} {n : Nat} {σ : L2.St} {H : Hp} {Q : VK} (h : LE G W (eCallB g tt) σ H Q) : tCB (LCall G g) (LA G W n tt) σ H Q := by
  obtain ⟨ρ, al, M, Ex, R, r, t, c, xc⟩ := h
  exact ⟨ρ, al, M, Ex, _, r, t, fun H1 al1 M1 vs ds n1 r1 l1 h1 => ⟨al1, M1, ds, R, n1.m, r1, h1, c.nxt n1⟩, xc⟩
theorem me_callB {g : OpN} {x : Str} {id : String} {p : Pos} (hc : CallR X (.builtin id) (LCall G g)) (hg : Gl X x) (hm : X.mg x = none) (hv : bootBuiltins x = some (.builtin id)) (ha : MA X G (a :: es) tt) (hn : x ≠ "__name__") (hdb : (x == ("__debug__" : Str)) = false)
    (he : starEach (a :: es) X.env = (false, eval a X.env) :: starEach es X.env) (hpl : (backTo pos (starEach es X.env)).any (·.1) = false) : ME X G (.Call (.Name x p) (a :: es) [] pos) (eCallB g tt) :=
  fun W tk => PE.imp (pe_callB hc hg hm hv (ha W tk) hn hdb he hpl) fun _ _ _ h => le_callB h
theorem me_callTy {g : OpN} {x : Str} {T : String} {p : Pos} (hc : CallR X (.type T) (LCall G g)) (hg : Gl X x) (hm : X.mg x = none) (hv : bootBuiltins x = some (.type T)) (ha : MA X G (a :: es) tt) (hn : x ≠ "__name__") (hdb : (x == ("__debug__" : Str)) = false)
    (he : starEach (a :: es) X.env = (false, eval a X.env) :: starEach es X.env) (hpl : (backTo pos (starEach es X.env)).any (·.1) = false) : ME X G (.Call (.Name x p) (a :: es) [] pos) (eCallB g tt) :=
  fun W tk => PE.imp (pe_callTy hc hg hm hv (ha W tk) hn hdb he hpl) fun _ _ _ h => le_callB h

/-! ### methods of built-in types -/
abbrev OpM := D → List D → Mem → KD → Prop
def LMt (G : GC) (g : OpM) : V → List V → Hp → VK → Prop := fun x xs H Q => ∃ al M d ds R, RMem G H al M ∧ RDat G.K H al d x ∧ RDats G.K H al ds xs ∧ g d ds M R ∧ VCl G H al R Q
def eMt (g : OpM) (to : SE) (tt : SA) : SE := fun Ex ρ M R => to Ex ρ M fun d M1 => tt Ex ρ M1 fun ds M2 => g d ds M2 R

/-! ### calls of defs -/
/-- a def's promise over data -/
def LSp (G : GC) (F : Fn) (n : Nat) : Sp := fun vs H Q E => ∃ al M ds R Ex, vs.length = n ∧ RMem G H al M ∧ RDats G.K H al ds vs ∧ F ds M R Ex ∧ VCl G H al R Q ∧
  ∀ H' al' M' x cls dd, Nxt G H al H' al' M' → RExn G.K G.cm H' al' x cls dd → Ex x M' → E cls dd H'
def eCall (F : Fn) (tt : SA) : SE := fun Ex ρ M R => tt Ex ρ M fun ds M1 => F ds M1 R Ex
theorem RDats.vlen {K : PySem.W.Frag} {H : Hp} {al : List Addr} {ds : List D} {vs : List V} (r : RDats K H al ds vs) : vs.length = ds.length := r.length.symm
theorem me_call {k : Nat} {f : Addr} {fd : FuncData} {ps : List Str} {x : Str} {p : Pos} {F : Fn} {n : Nat} (hF : FnOk X.prog X.w X.K X.mg X.base (CX X.prog X.w) k f fd ps (LSp G F n)) (hr : Room k X.A) (hg : Gl X x) (hm : X.mg x = some (.ref f)) (hk : PySem.W.keepIn X.K (.ref f) = true) (hb : Binds X.K fd ps [])
    (ha : MA X G (a :: es) tt) (hn : (a :: es).length = n) (hdb : (x == ("__debug__" : Str)) = false) (he : starEach (a :: es) X.env = (false, eval a X.env) :: starEach es X.env) (hpl : (backTo pos (starEach es X.env)).any (·.1) = false) :
    ME X G (.Call (.Name x p) (a :: es) [] pos) (eCall F tt) := by
  intro W tk
  have hx : ∀ σ, PassesAt (CX X.prog X.w) X σ ((fun σ cls dd H => W cls dd σ H) σ) := fun σ => passAt tk σ
  refine PE.imp (pe_callSD hF hr hg hm hk hb .nil hx (ha W tk) hdb he hpl) fun σ H Q h => ?_
  obtain ⟨ρ, al, M, Ex, R, r, t, c, xc⟩ := h
  refine ⟨ρ, al, M, Ex, _, r, t, fun H1 al1 M1 vs ds n1 r1 l1 h1 => ?_, xc⟩
  show LSp G F n (vs ++ []) H1 Q _
  rw [List.append_nil]
  exact ⟨al1, M1, ds, R, Ex, by rw [r1.vlen, l1, hn], n1.m, r1, h1, c.nxt n1, fun H' al' M' x cls dd n' rx ex => xc _ _ _ _ _ _ (n1.trans n') rx ex⟩
end
end DN

set_option maxHeartbeats 4000000
/-! operations by values -/
namespace DN
open PySem PySem.Spec L2

/-! ### data as the library's data -/
mutual
def toPy : D → PyData
  | .non => .none | .bl b => .bool b | .int i => .int i | .str x => .str x | .tup xs => .tuple (toPys xs) | .ref _ => .none | .con _ => .none
def toPys : List D → List PyData
  | [] => []
  | x :: xs => toPy x :: toPys xs
end
mutual
def noref : D → Bool
  | .ref _ => false | .con _ => false | .tup xs => norefs xs | _ => true
def norefs : List D → Bool
  | [] => true
  | x :: xs => noref x && norefs xs
end
mutual
def eqD : D → D → Bool
  | .non, .non => true
  | .bl a, .bl b => a == b
  | .bl a, .int j => (if a then 1 else 0) == j
  | .int i, .bl b => i == (if b then 1 else 0)
  | .int i, .int j => i == j
  | .str x, .str y => x == y
  | .tup xs, .tup ys => eqL xs ys
  | _, _ => false
def eqL : List D → List D → Bool
  | [], [] => true
  | x :: xs, y :: ys => eqD x y && eqL xs ys
  | _, _ => false
end
mutual
theorem eqv_toPy : ∀ (x y : D), noref x = true → noref y = true → PyData.eqv (toPy x) (toPy y) = eqD x y
  | .tup xs, .tup ys, h1, h2 => by
    simp only [toPy, PyData.eqv, eqD]
    exact eqvs_toPys xs ys (by simpa [noref] using h1) (by simpa [noref] using h2)
  | .ref _, _, h1, _ => by simp [noref] at h1
  | .con _, _, h1, _ => by simp [noref] at h1
  | .non, .con _, _, h2 => by simp [noref] at h2
  | .bl _, .con _, _, h2 => by simp [noref] at h2
  | .int _, .con _, _, h2 => by simp [noref] at h2
  | .str _, .con _, _, h2 => by simp [noref] at h2
  | .tup _, .con _, _, h2 => by simp [noref] at h2
  | .non, .ref _, _, h2 => by simp [noref] at h2
  | .bl _, .ref _, _, h2 => by simp [noref] at h2
  | .int _, .ref _, _, h2 => by simp [noref] at h2
  | .str _, .ref _, _, h2 => by simp [noref] at h2
  | .tup _, .ref _, _, h2 => by simp [noref] at h2
  | .non, .non, _, _ => by simp [toPy, PyData.eqv, eqD]
  | .non, .bl _, _, _ => by simp [toPy, PyData.eqv, eqD]
  | .non, .int _, _, _ => by simp [toPy, PyData.eqv, eqD]
  | .non, .str _, _, _ => by simp [toPy, PyData.eqv, eqD]
  | .non, .tup _, _, _ => by simp [toPy, PyData.eqv, eqD]
  | .bl _, .non, _, _ => by simp [toPy, PyData.eqv, eqD]
  | .bl _, .bl _, _, _ => by simp [toPy, PyData.eqv, eqD]
  | .bl _, .int _, _, _ => by simp [toPy, PyData.eqv, eqD]
  | .bl _, .str _, _, _ => by simp [toPy, PyData.eqv, eqD]
  | .bl _, .tup _, _, _ => by simp [toPy, PyData.eqv, eqD]
  | .int _, .non, _, _ => by simp [toPy, PyData.eqv, eqD]
  | .int _, .bl _, _, _ => by simp [toPy, PyData.eqv, eqD]
  | .int _, .int _, _, _ => by simp [toPy, PyData.eqv, eqD]
  | .int _, .str _, _, _ => by simp [toPy, PyData.eqv, eqD]
  | .int _, .tup _, _, _ => by simp [toPy, PyData.eqv, eqD]
  | .str _, .non, _, _ => by simp [toPy, PyData.eqv, eqD]
  | .str _, .bl _, _, _ => by simp [toPy, PyData.eqv, eqD]
  | .str _, .int _, _, _ => by simp [toPy, PyData.eqv, eqD]
  | .str _, .str _, _, _ => by simp [toPy, PyData.eqv, eqD]
  | .str _, .tup _, _, _ => by simp [toPy, PyData.eqv, eqD]
  | .tup _, .non, _, _ => by simp [toPy, PyData.eqv, eqD]
  | .tup _, .bl _, _, _ => by simp [toPy, PyData.eqv, eqD]
  | .tup _, .int _, _, _ => by simp [toPy, PyData.eqv, eqD]
  | .tup _, .str _, _, _ => by simp [toPy, PyData.eqv, eqD]
theorem eqvs_toPys : ∀ (xs ys : List D), norefs xs = true → norefs ys = true → PyData.eqvAll (toPys xs) (toPys ys) = eqL xs ys
  | [], [], _, _ => by simp [toPys, PyData.eqvAll, eqL]
  | [], _ :: _, _, _ => by simp [toPys, PyData.eqvAll, eqL]
  | _ :: _, [], _, _ => by simp [toPys, PyData.eqvAll, eqL]
  | x :: xs, y :: ys, h1, h2 => by
    simp only [norefs, Bool.and_eq_true] at h1 h2
    simp only [toPys, PyData.eqvAll, eqL]
    rw [eqv_toPy x y h1.1 h2.1, eqvs_toPys xs ys h1.2 h2.2]
end
section
variable {K : PySem.W.Frag} {H : Hp} {al : List Addr}
mutual
theorem dp_of : ∀ {d : D} {v : V}, RDat K H al d v → noref d = true → Dp K H v (toPy d)
  | .non, _, h, _ => by rw [RDat] at h; subst h; exact .non
  | .bl b, _, h, _ => by rw [RDat] at h; subst h; exact .bl b
  | .int i, _, h, _ => by rw [RDat] at h; subst h; exact .int i
  | .str x, _, h, _ => by rw [RDat] at h; subst h; exact .str x
  | .tup xs, _, h, n => by
    rw [RDat] at h
    obtain ⟨a, vs, rfl, hs, hl⟩ := h
    exact .tup hs (dps_of hl (by simpa [noref] using n))
  | .ref _, _, _, n => by simp [noref] at n
  | .con _, _, _, n => by simp [noref] at n
theorem dps_of : ∀ {ds : List D} {vs : List V}, RDats K H al ds vs → norefs ds = true → DpAll K H vs (toPys ds)
  | [], _, h, _ => by rw [RDats] at h; subst h; exact .nil
  | x :: xs, _, h, n => by
    rw [RDats] at h
    obtain ⟨v, r, rfl, h1, h2⟩ := h
    simp only [norefs, Bool.and_eq_true] at n
    exact .cons (dp_of h1 n.1) (dps_of h2 n.2)
end
end
/-- no mutable objects within, texts of signs, not too deep -/
def okD (d : D) : Prop := noref d = true ∧ (toPy d).depth ≤ 64
def okL (ds : List D) : Prop := norefs ds = true
mutual
theorem plain_toPy : ∀ d : D, (toPy d).plain = true
  | .non => rfl | .bl _ => rfl | .int _ => rfl | .str _ => rfl | .ref _ => rfl | .con _ => rfl
  | .tup xs => by simpa [toPy, PyData.plain] using plain_toPys xs
theorem plain_toPys : ∀ ds : List D, PyData.plainAll (toPys ds) = true
  | [] => rfl
  | d :: ds => by simp [toPys, PyData.plainAll, plain_toPy d, plain_toPys ds]
end

/-! ### the operations -/
def mlst (M : Mem) (n : Nat) : Option (List D) := match M[n]? with | some (.lst xs) => some xs | _ => none
def opAdd : Op2 := fun x y M R => match x, y with
  | .int i, .int j => R (.int (i + j)) M
  | .str a, .str b => a.length + b.length ≤ sizeLine ∧ R (.str (a ++ b)) M
  | .tup xs, .tup ys => xs.length + ys.length ≤ sizeLine ∧ R (.tup (xs ++ ys)) M
  | .ref a, .ref b => match mlst M a, mlst M b with
    | some xs, some ys => xs.length + ys.length ≤ sizeLine ∧ R (.ref M.length) (M ++ [.lst (xs ++ ys)])
    | _, _ => False
  | _, _ => False
def opSub : Op2 := fun x y M R => match x, y with
  | .int i, .int j => R (.int (i - j)) M
  | _, _ => False
def repS (x : Str) (n : Nat) : Str := ⟨(List.replicate n x.cps.toList).flatten.toArray⟩
def opMul : Op2 := fun x y M R => match x, y with
  | .int i, .int j => IntMulOk i j ∧ R (.int (i * j)) M
  | .str a, .int j => 0 ≤ j ∧ j < 2 ^ 62 ∧ a.length * j.toNat ≤ 1000000 ∧ R (.str (repS a j.toNat)) M
  | .tup xs, .int j => (xs.isEmpty = false ∧ 2 ≤ j ∧ j ≤ 1000000 ∧ xs.length * j.toNat ≤ 1000000) ∧ R (.tup (List.replicate j.toNat xs).flatten) M
  | .ref n, .int j => match mlst M n with
    | some xs => (-(2 ^ 63) ≤ j ∧ j < 2 ^ 63 ∧ xs.length * j.toNat ≤ sizeLine) ∧ R (.ref M.length) (M ++ [.lst (List.replicate j.toNat xs).flatten])
    | none => False
  | _, _ => False
def opDiv : Op2 := fun x y M R => match x, y with
  | .int i, .int j => 0 < j ∧ j.natAbs.log2 < 9000 ∧ R (.int (i / j)) M
  | _, _ => False
def opMod : Op2 := fun x y M R => match x, y with
  | .int i, .int j => 0 < j ∧ R (.int (i % j)) M
  | _, _ => False
def opPow : Op2 := fun x y M R => match x, y with
  | .int i, .int j => (0 ≤ j ∧ j ≤ 1000000 ∧ i.natAbs < 2 ^ 64) ∧ R (.int (i ^ j.toNat)) M
  | _, _ => False
def opNeg : Op1 := fun x M R => match x with
  | .int i => R (.int (-i)) M
  | _ => False
def scalD : D → D → Bool
  | .non, .non => true | .non, .int _ => true | .int _, .non => true | .non, .bl _ => true | .bl _, .non => true | .non, .str _ => true | .str _, .non => true
  | .int _, .int _ => true | .bl _, .bl _ => true | .str _, .str _ => true
  | .int _, .str _ => true | .str _, .int _ => true | .bl _, .str _ => true | .str _, .bl _ => true
  | _, _ => false
def pyM (M : Mem) : D → Option PyData
  | .ref n => match lstAt M n with | some xs => if norefs xs = true then some (.list (toPys xs)) else none | none => none
  | d => if noref d = true then some (toPy d) else none
def eqM (x y : D) (M : Mem) (R : Bool → Prop) : Prop := match scalD x y with
  | true => R (eqD x y)
  | false => match pyM M x, pyM M y with
    | some p, some q => min p.depth q.depth ≤ 64 ∧ R (PyData.eqv p q)
    | _, _ => False
def opEq : Op2 := fun x y M R => eqM x y M fun b => R (.bl b) M
def opNe : Op2 := fun x y M R => eqM x y M fun b => R (.bl (!b)) M
abbrev ltS (a b : Str) : Bool := decide (a.cps.toList < b.cps.toList)
def opLt : Op2 := fun x y M R => match x, y with
  | .int i, .int j => R (.bl (decide (i < j))) M
  | .str a, .str b => R (.bl (ltS a b)) M
  | _, _ => False
def opLe : Op2 := fun x y M R => match x, y with
  | .int i, .int j => R (.bl (decide (i ≤ j))) M
  | .str a, .str b => R (.bl (!ltS b a)) M
  | _, _ => False
def opGt : Op2 := fun x y M R => match x, y with
  | .int i, .int j => R (.bl (decide (j < i))) M
  | .str a, .str b => R (.bl (ltS b a)) M
  | _, _ => False
def opGe : Op2 := fun x y M R => match x, y with
  | .int i, .int j => R (.bl (decide (j ≤ i))) M
  | .str a, .str b => R (.bl (!ltS a b)) M
  | _, _ => False
def isNon : D → Bool | .non => true | _ => false
def opIs : Op2 := fun x y M R => match y with
  | .non => R (.bl (isNon x)) M
  | _ => False
def opIsNot : Op2 := fun x y M R => match y with
  | .non => R (.bl (!isNon x)) M
  | .bl b => (match x with | .bl a => R (.bl (!decide (a = b))) M | _ => False)
  | _ => False
def strIn (a b : Str) : Bool := !(Builtin.Str.occurrences b a 0 b.length 1).isEmpty
def inD (x : D) (ys : List D) : Bool := ys.any fun z => eqD z x
def inM (x y : D) (M : Mem) (R : Bool → Prop) : Prop := match y with
  | .str b => match x with | .str a => R (strIn a b) | _ => False
  | .tup ys => okD x ∧ okL ys ∧ R (inD x ys)
  | .ref n => match lstAt M n with
    | some ys => okD x ∧ okL ys ∧ R (inD x ys)
    | none => False
  | _ => False
def opIn : Op2 := fun x y M R => inM x y M fun b => R (.bl b) M
def opNotIn : Op2 := fun x y M R => inM x y M fun b => R (.bl (!b)) M
/-- an index of any sign -/
def ixM (x y : D) (M : Mem) (R : D → Prop) : Prop := match y with
  | .int i => match x with
    | .tup xs => match atI xs i with | some d => R d | none => False
    | .str z => z.length ≤ sizeLine ∧ (match atI z.cps.toList i with | some c => R (.str ⟨#[c]⟩) | none => False)
    | .ref n => match lstAt M n with | some xs => (match atI xs i with | some d => R d | none => False) | none => False
    | .con xs => match atI xs i with | some d => R d | none => False
    | _ => False
  | _ => False
def opIx : Op2 := fun x y M R => ixM x y M fun d => R d M

theorem mlst_lst {M : Mem} {n : Nat} {xs : List D} (h : mlst M n = some xs) : M[n]? = some (.lst xs) := by
  unfold mlst at h
  cases e : M[n]? with
  | none => rw [e] at h; cases h
  | some o => rw [e] at h; cases o <;> first | (cases h; rfl) | cases h

section
variable {X : Cx} {G : GC}
theorem dec_intD {i j : Int} : decide (V.int i = V.int j) = (i == j) := dec_int
theorem or_add (hK : X.K = G.K) : OpR X (binaryOp .Add) (LR G opAdd) := by
  intro pins s σ H x y v u Q I rx ry h
  obtain ⟨al, M, dx, dy, R, m, r1, r2, g, c⟩ := h
  cases dx with
  | int i =>
    cases dy with
    | int j =>
      simp only [RDat] at r1 r2; subst r1 r2
      exact op_add pins s σ H _ _ v u Q I rx ry ⟨i, j, rfl, rfl, c _ _ _ _ _ m.go (by rw [RDat]) g⟩
    | _ => exact (g : False).elim
  | str i =>
    cases dy with
    | str j =>
      simp only [RDat] at r1 r2; subst r1 r2
      obtain ⟨hz, g⟩ := (g : _ ∧ _)
      exact op_add_str pins s σ H _ _ v u Q I rx ry ⟨i, j, rfl, rfl, hz, c _ _ _ _ _ m.go (by rw [RDat]) g⟩
    | _ => exact (g : False).elim
  | tup xs =>
    cases dy with
    | tup ys =>
      rw [RDat] at r1 r2
      obtain ⟨a, vs, rfl, s1, l1⟩ := r1
      obtain ⟨b, ws, rfl, s2, l2⟩ := r2
      obtain ⟨hz, g⟩ := (g : _ ∧ _)
      refine op_catA pins s σ H _ _ v u Q I rx ry ⟨a, b, vs, ws, rfl, rfl, by rw [hK]; exact s1, by rw [hK]; exact s2, by rw [← l1.length, ← l2.length]; exact hz, fun e => ?_, fun _ e => ?_, fun _ _ p hp => ?_⟩
      · subst e
        have e' : xs = [] := List.eq_nil_of_length_eq_zero l1.length
        subst e'
        exact c _ _ _ _ _ m.go (RDat.tup_of s2 l2) g
      · subst e
        have e' : ys = [] := List.eq_nil_of_length_eq_zero l2.length
        subst e'
        rw [List.append_nil] at g
        exact c _ _ _ _ _ m.go (RDat.tup_of s1 l1) g
      · have n := m.tup (vs := vs ++ ws) hp
        exact c _ _ _ _ _ n (RDat.tup_of (SqT.of upd_same) ((l1.append l2).mono n.k n.p)) g
    | _ => exact (g : False).elim
  | ref a =>
    cases dy with
    | ref b =>
      have g : (match mlst M a, mlst M b with
        | some xs, some ys => xs.length + ys.length ≤ sizeLine ∧ R (.ref M.length) (M ++ [.lst (xs ++ ys)])
        | _, _ => False) := g
      cases e1 : mlst M a with
      | none => simp [e1] at g
      | some xs =>
        cases e2 : mlst M b with
        | none => simp [e1, e2] at g
        | some ys =>
          simp only [e1, e2] at g
          obtain ⟨hz, g⟩ := g
          obtain ⟨p, vs, rfl, _, h1, l1⟩ := m.lst r1 (mlst_lst e1)
          obtain ⟨q, ws, rfl, _, h2, l2⟩ := m.lst r2 (mlst_lst e2)
          refine op_cat pins s σ H _ _ v u Q I rx ry ⟨p, q, vs, ws, rfl, rfl, h1, h2, by rw [← l1.length, ← l2.length]; exact hz, fun z hp => ?_⟩
          have n := m.new (o := .lst (xs ++ ys)) (u := .lst (vs ++ ws)) hp ⟨_, rfl, l1.append l2⟩
          exact c _ _ _ _ _ n (rdat_new m.len) g
    | _ => exact (g : False).elim
  | _ => exact (g : False).elim
theorem or_int {f : Value → Value → Sem Value} {C : Int → Int → Prop} {k : Int → Int → Int} (ho : OpR X f (rI C fun i j => .int (k i j)))
    {g : Op2} (hg : ∀ x y M R, g x y M R → ∃ i j, x = .int i ∧ y = .int j ∧ C i j ∧ R (.int (k i j)) M) : OpR X f (LR G g) := by
  intro pins s σ H x y v u Q I rx ry h
  obtain ⟨al, M, dx, dy, R, m, r1, r2, gg, c⟩ := h
  obtain ⟨i, j, rfl, rfl, hc, gg⟩ := hg _ _ _ _ gg
  simp only [RDat] at r1 r2; subst r1 r2
  exact ho pins s σ H _ _ v u Q I rx ry ⟨i, j, rfl, rfl, hc, c _ _ _ _ _ m.go (by rw [RDat]) gg⟩
theorem or_sub : OpR X (binaryOp .Sub) (LR G opSub) := by
  intro pins s σ H x y v u Q I rx ry h
  obtain ⟨al, M, dx, dy, R, m, r1, r2, g, c⟩ := h
  cases dx with
  | int i =>
    cases dy with
    | int j =>
      simp only [RDat] at r1 r2; subst r1 r2
      exact op_sub pins s σ H _ _ v u Q I rx ry ⟨i, j, rfl, rfl, c _ _ _ _ _ m.go (by rw [RDat]) g⟩
    | _ => exact (g : False).elim
  | _ => exact (g : False).elim
theorem op_mulK : OpR X (binaryOp .Mult) (rI IntMulOk fun i j => .int (i * j)) := opI fun _ _ _ _ _ _ _ hc q => PyProof.Rows.mul_int q hc
theorem foldl_app (l : List (Array Nat)) : ∀ acc : Array Nat, (l.foldl (· ++ ·) acc).toList = acc.toList ++ (l.map (·.toList)).flatten := by
  induction l with
  | nil => intro acc; simp
  | cons a r ih => intro acc; rw [List.foldl_cons, ih]; simp
theorem mul_repS (x : Str) (n : Int) (h0 : 0 ≤ n) : Txt.mul x n = repS x n.toNat := by
  have inj : ∀ {a b : Str}, a.cps.toList = b.cps.toList → a = b := fun {a b} h => Str.ext' (Array.toList_inj.mp h)
  unfold Txt.mul
  by_cases h1 : n < 1
  · rw [if_pos h1]
    have e : n.toNat = 0 := by omega
    rw [e]; rfl
  · rw [if_neg h1]
    by_cases h2 : (n == 1 || x.length == 0) = true
    · rw [if_pos h2]
      refine inj ?_
      rcases Bool.or_eq_true_iff.mp h2 with e | e
      · have e' : n.toNat = 1 := by have := beq_iff_eq.mp e; omega
        simp [repS, e']
      · have e' : x.cps.toList = [] := by
          have := beq_iff_eq.mp e
          exact List.eq_nil_of_length_eq_zero (by simpa [Str.length] using this)
        simp [repS, e']
    · rw [if_neg h2]
      refine inj ?_
      show (List.foldl (· ++ ·) #[] (List.replicate n.toNat x.cps)).toList = _
      rw [foldl_app]
      simp [repS]
theorem RDats.rep {K : PySem.W.Frag} {H : Hp} {al : List Addr} {xs : List D} {vs : List V} (h : RDats K H al xs vs) : ∀ n : Nat, RDats K H al (List.replicate n xs).flatten (List.replicate n vs).flatten
  | 0 => RDats.nil
  | n + 1 => by
    rw [List.replicate_succ, List.replicate_succ, List.flatten_cons, List.flatten_cons]
    exact h.append (RDats.rep h n)
/-! ### a tuple many times -/
def rRepW (K : PySem.W.Frag) : R2 := fun x y H Q => ∃ a j vs, x = .ref a ∧ y = .int j ∧ SqT K H a vs ∧ vs ≠ [] ∧ 2 ≤ j ∧ j ≤ 1000000 ∧ vs.length * j.toNat ≤ 1000000 ∧ ∀ p, H p = none → Q (.ref p) (upd H p (.tup (List.replicate j.toNat vs).flatten))
theorem op_repW {X : Cx} : OpR X (binaryOp .Mult) (rRepW X.K) := by
  rintro pins st σ H x y v u Q I rx ry ⟨a, j, vs, rfl, rfl, sq, ne, j2, j3, mx, q⟩
  cases rx
  obtain ⟨tk, rfl⟩ := ry
  obtain ⟨ws, rel, ⟨⟨cl, di, da, so⟩, got, e1, nn, e2⟩, _⟩ := I.tuple sq
  dsimp only at e1 e2
  subst e1 e2
  have len : ws.length = vs.length := rel.length.symm
  have emp : ws.toArray.isEmpty = false := by
    cases ws with
    | nil => exact absurd (List.eq_nil_of_length_eq_zero len.symm) ne
    | cons _ _ => rfl
  have size : ws.toArray.size = vs.length := by simp [len]
  have all : (List.replicate j.toNat ws).flatten.length = vs.length * j.toNat := by rw [PyProof.Rows.lm_len_rep_flat, len, Nat.mul_comm]
  have all2 : (List.replicate j.toNat vs).flatten.length = vs.length * j.toNat := by rw [PyProof.Rows.lm_len_rep_flat, Nat.mul_comm]
  have prod : ((ws.toArray.size : Nat) : Int) * j = ((vs.length * j.toNat : Nat) : Int) := by rw [size, Int.natCast_mul, Int.toNat_of_nonneg (by omega)]
  have sl := sizeLine_eq
  have k0 : (decide (j < -(2 ^ 63)) || decide (j ≥ 2 ^ 63)) = false := by simp; omega
  have k1 : (ws.toArray.isEmpty || j == 1) = false := by rw [emp]; simp; omega
  have k2 : (decide (j ≤ 0) || ws.toArray.isEmpty) = false := by rw [emp]; simp; omega
  have k4 : Builtin.Tuple.tupleTooMany (((ws.toArray.size : Nat) : Int) * j) = false := by
    rw [prod]
    exact decide_eq_false (by omega)
  have walk := tuple_mulW a ws.toArray nn di so j tk k0 k1 k2 (by rw [prod]; omega) k4 (by rw [size_rep, List.size_toArray, all]; omega)
  refine wpAny_binaryOp_repeat_ref (T := "tuple") (U := "int") (by decide) ⟨_, got, rfl⟩ (fun z => typeIs_int z j tk) noFill_tuple_mul F.fills_int_mul F.slot_int_rmul repeat_tuple F.slot_int_index.lookup ?_
  refine call_meets F.slot_int_rmul (typeIs_int st j tk) F.entry_int_rmul (F.args_int_rmul_2 _ _) (int_rmul_tuple j tk a ws.toArray nn di so) ⟨got, rfl, ⟨_, got, rfl⟩, ?_⟩
  refine call_meets F.slot_tuple_mul ⟨_, got, rfl⟩ F.entry_tuple_mul (F.args_tuple_mul_2 _ _) walk ⟨got, ?_⟩
  rw [size_rep]
  have put := I.laid (t' := st.toks) (o := .tup (List.replicate j.toNat vs).flatten) (fun _ _ z => Heap.get?_push_of_some _ z) (Nat.le_refl _) ⟨by rw [all2]; omega, _, rel.rep j.toNat, PyProof.Rows.IsTup.new _ _⟩
  exact ⟨.ref st.heap.objs.size, _, put, rfl, q _ (I.hok.fresh (Nat.le_refl _))⟩
theorem or_mul (hK : X.K = G.K) : OpR X (binaryOp .Mult) (LR G opMul) := by
  intro pins s σ H x y v u Q I rx ry h
  obtain ⟨al, M, dx, dy, R, m, r1, r2, g, c⟩ := h
  cases dx with
  | int i =>
    cases dy with
    | int j =>
      obtain ⟨hc, g⟩ := (g : _ ∧ _)
      simp only [RDat] at r1 r2; subst r1 r2
      exact op_mulK pins s σ H _ _ v u Q I rx ry ⟨i, j, rfl, rfl, hc, c _ _ _ _ _ m.go (by rw [RDat]) g⟩
    | _ => exact (g : False).elim
  | str z =>
    cases dy with
    | int j =>
      obtain ⟨h0, h1, h2, g⟩ := (g : _ ∧ _ ∧ _ ∧ _)
      simp only [RDat] at r1 r2; subst r1 r2
      obtain ⟨t, rfl⟩ := rx
      obtain ⟨t', rfl⟩ := ry
      refine SB.mul ⟨?_, fun h3 h4 => ?_, fun h3 h4 => ?_⟩ fun t2 k => ⟨.str _, H, I.tok _, ⟨_, by rw [mul_repS z j h0]⟩, c _ _ _ _ _ m.go (by rw [RDat]) g⟩
      · rw [decide_eq_false (by omega), decide_eq_false (by omega)]; rfl
      · have hj : 0 < j := by omega
        have e1 : (z.length : Int) * j ≤ 1000000 := by
          have : ((z.length * j.toNat : Nat) : Int) ≤ 1000000 := by omega
          rw [Int.natCast_mul, Int.toNat_of_nonneg h0] at this; exact this
        have e2 : (z.length : Int) ≤ (2 ^ 63 - 1) / j := by
          rw [Int.le_ediv_iff_mul_le hj]; omega
        omega
      · show decide (_ > sizeLine) = false
        refine decide_eq_false ?_
        have : sizeLine = 16777216 := sizeLine_eq
        omega
    | _ => exact (g : False).elim
  | tup xs =>
    cases dy with
    | int j =>
      obtain ⟨⟨h0, h1, h2, h3⟩, g⟩ := (g : _ ∧ _)
      rw [RDat] at r1
      rw [RDat] at r2
      subst r2
      obtain ⟨a, vs, rfl, s1, l1⟩ := r1
      have l := l1.length
      refine op_repW pins s σ H _ _ v u Q I rx ry ⟨a, j, vs, rfl, rfl, by rw [hK]; exact s1, fun e => ?_, h1, h2, by rw [← l]; exact h3, fun p hp => ?_⟩
      · subst e
        cases xs with
        | nil => cases h0
        | cons _ _ => cases l
      · have n := m.tup (vs := (List.replicate j.toNat vs).flatten) hp
        exact c _ _ _ _ _ n (RDat.tup_of (SqT.of upd_same) ((RDats.rep l1 _).mono n.k n.p)) g
    | _ => exact (g : False).elim
  | ref n =>
    cases dy with
    | int j =>
      have g : (match mlst M n with
        | some xs => (-(2 ^ 63) ≤ j ∧ j < 2 ^ 63 ∧ xs.length * j.toNat ≤ sizeLine) ∧ R (.ref M.length) (M ++ [.lst (List.replicate j.toNat xs).flatten])
        | none => False) := g
      rw [RDat] at r2; subst r2
      cases e1 : mlst M n with
      | none => simp [e1] at g
      | some xs =>
        simp only [e1] at g
        obtain ⟨⟨h0, h1, h2⟩, g⟩ := g
        obtain ⟨p, vs, rfl, _, hh, l1⟩ := m.lst r1 (mlst_lst e1)
        refine op_rep pins s σ H _ _ v u Q I rx ry ⟨p, j, vs, rfl, rfl, hh, h0, h1, by rw [← l1.length]; exact h2, fun z hp => ?_⟩
        have n := m.new (o := .lst (List.replicate j.toNat xs).flatten) (u := .lst (List.replicate j.toNat vs).flatten) hp ⟨_, rfl, RDats.rep l1 _⟩
        exact c _ _ _ _ _ n (rdat_new m.len) g
    | _ => exact (g : False).elim
  | _ => exact (g : False).elim
theorem or_div : OpR X (binaryOp .FloorDiv) (LR G opDiv) := by
  refine or_int op_fdivW fun x y M R g => ?_
  cases x with
  | int i =>
    cases y with
    | int j => obtain ⟨h1, h2, g⟩ := (g : _ ∧ _ ∧ _); exact ⟨i, j, rfl, rfl, ⟨h1, h2⟩, g⟩
    | _ => exact (g : False).elim
  | _ => exact (g : False).elim
theorem or_mod : OpR X (binaryOp .Mod) (LR G opMod) := by
  refine or_int op_mod fun x y M R g => ?_
  cases x with
  | int i =>
    cases y with
    | int j => obtain ⟨h1, g⟩ := (g : _ ∧ _); exact ⟨i, j, rfl, rfl, h1, g⟩
    | _ => exact (g : False).elim
  | _ => exact (g : False).elim
theorem or_pow : OpR X (binaryOp .Pow) (LR G opPow) := by
  refine or_int op_pow fun x y M R g => ?_
  cases x with
  | int i =>
    cases y with
    | int j => obtain ⟨h1, g⟩ := (g : _ ∧ _); exact ⟨i, j, rfl, rfl, h1, g⟩
    | _ => exact (g : False).elim
  | _ => exact (g : False).elim
theorem ur_neg : UnR X (unaryOp .USub) (LU G opNeg) := by
  intro pins s σ H x v Q I rx h
  obtain ⟨al, M, dx, R, m, r1, g, c⟩ := h
  cases dx with
  | int i => rw [RDat] at r1; subst r1; exact un_neg pins s σ H _ v Q I rx ⟨i, rfl, c _ _ _ _ _ m.go (by rw [RDat]) g⟩
  | _ => exact (g : False).elim
/-! comparisons -/
theorem scal_of {H : Hp} {al : List Addr} {x y : D} {v u : V} (r1 : RDat G.K H al x v) (r2 : RDat G.K H al y u) (h : scalD x y = true) : scal v u = true ∧ decide (v = u) = eqD x y := by
  cases x <;> cases y <;> first
    | (simp [scalD] at h; done)
    | (simp only [RDat] at r1 r2; subst r1 r2; refine ⟨rfl, ?_⟩; simp [eqD, Bool.beq_eq_decide_eq]; done)
theorem pyM_ok {H : Hp} {al : List Addr} {M : Mem} {d : D} {v : V} {p : PyData} (m : RMem G H al M) (r : RDat G.K H al d v) (h : pyM M d = some p) : Dp G.K H v p := by
  cases d with
  | ref n =>
    unfold pyM at h
    cases e : lstAt M n with
    | none => simp [e] at h
    | some xs =>
      simp only [e] at h
      by_cases hn : norefs xs = true
      · rw [if_pos hn] at h; cases h
        obtain ⟨a, vs, rfl, hs, l⟩ := m.seq r e
        exact .lst hs (dps_of l hn)
      · rw [if_neg hn] at h; cases h
  | con xs => simp [pyM, noref] at h
  | non => cases h; exact dp_of r rfl
  | bl b => cases h; exact dp_of r rfl
  | int b => cases h; exact dp_of r rfl
  | str b => cases h; exact dp_of r rfl
  | tup xs =>
    have h : (if noref (.tup xs) = true then some (toPy (.tup xs)) else none) = some p := h
    by_cases hn : noref (.tup xs) = true
    · rw [if_pos hn] at h; cases h; exact dp_of r hn
    · rw [if_neg hn] at h; cases h
theorem pyM_plain {M : Mem} {d : D} {p : PyData} (h : pyM M d = some p) : p.plain = true := by
  cases d with
  | ref n =>
    unfold pyM at h
    cases e : lstAt M n with
    | none => simp [e] at h
    | some xs =>
      simp only [e] at h
      by_cases hn : norefs xs = true
      · rw [if_pos hn] at h; cases h
        exact plain_toPys xs
      · rw [if_neg hn] at h; cases h
  | con xs => simp [pyM, noref] at h
  | tup xs =>
    have h : (if noref (.tup xs) = true then some (toPy (.tup xs)) else none) = some p := h
    by_cases hn : noref (.tup xs) = true
    · rw [if_pos hn] at h; cases h; exact plain_toPy _
    · rw [if_neg hn] at h; cases h
  | _ => cases h; rfl
theorem op_eqP (hu : X.A.units + 64 < cLine) : OpR X (compareOp .Eq) (fun x y H Q => ∃ d e, Dp X.K H x d ∧ Dp X.K H y e ∧ d.plain = true ∧ e.plain = true ∧ min d.depth e.depth ≤ 64 ∧ Q (.bl (PyData.eqv d e)) H) := by
  intro pins s σ H x y v u Q I rx ry h
  obtain ⟨d, e, hd, he, sd, se, hm, q⟩ := h
  obtain ⟨as, r1⟩ := Dp.reads I d x v hd rx
  obtain ⟨bs, r2⟩ := Dp.reads I e y u he ry
  exact SeqAt.eq_plain r1 r2 sd se (by omega) ⟨.bl _, H, I, rfl, q⟩
theorem op_neP (hu : X.A.units + 64 < cLine) : OpR X (compareOp .NotEq) (fun x y H Q => ∃ d e, Dp X.K H x d ∧ Dp X.K H y e ∧ d.plain = true ∧ e.plain = true ∧ min d.depth e.depth ≤ 64 ∧ Q (.bl (!PyData.eqv d e)) H) := by
  intro pins s σ H x y v u Q I rx ry h
  obtain ⟨d, e, hd, he, sd, se, hm, q⟩ := h
  obtain ⟨as, r1⟩ := Dp.reads I d x v hd rx
  obtain ⟨bs, r2⟩ := Dp.reads I e y u he ry
  exact SeqAt.ne_plain r1 r2 sd se (by omega) ⟨.bl _, H, I, rfl, q⟩
theorem or_eqv (hK : X.K = G.K) (hu : X.A.units + 64 < cLine) {f : Value → Value → Sem Value} {k : Bool → Bool} (h1 : OpR X f (fun x y H Q => scal x y = true ∧ Q (.bl (k (decide (x = y)))) H))
    (h2 : OpR X f (fun x y H Q => ∃ d e, Dp X.K H x d ∧ Dp X.K H y e ∧ d.plain = true ∧ e.plain = true ∧ min d.depth e.depth ≤ 64 ∧ Q (.bl (k (PyData.eqv d e))) H)) : OpR X f (LR G fun x y M R => eqM x y M fun b => R (.bl (k b)) M) := by
  intro pins s σ H x y v u Q I rx ry h
  obtain ⟨al, M, dx, dy, R, m, r1, r2, g, c⟩ := h
  unfold eqM at g
  cases e : scalD dx dy with
  | true =>
    simp only [e] at g
    obtain ⟨e1, e2⟩ := scal_of r1 r2 e
    exact h1 pins s σ H _ _ v u Q I rx ry ⟨e1, c _ _ _ _ _ m.go (by rw [RDat, e2]) g⟩
  | false =>
    simp only [e] at g
    cases p1 : pyM M dx with
    | none => simp [p1] at g
    | some p =>
      cases p2 : pyM M dy with
      | none => simp [p1, p2] at g
      | some q =>
        simp only [p1, p2] at g
        obtain ⟨s1, g⟩ := g
        exact h2 pins s σ H _ _ v u Q I rx ry ⟨p, q, by rw [hK]; exact pyM_ok m r1 p1, by rw [hK]; exact pyM_ok m r2 p2, pyM_plain p1, pyM_plain p2, s1, c _ _ _ _ _ m.go (by rw [RDat]) g⟩
theorem or_eq (hK : X.K = G.K) (hu : X.A.units + 64 < cLine) : OpR X (compareOp .Eq) (LR G opEq) := or_eqv hK hu (k := fun b => b) op_eq (op_eqP hu)
theorem or_ne (hK : X.K = G.K) (hu : X.A.units + 64 < cLine) : OpR X (compareOp .NotEq) (LR G opNe) := or_eqv hK hu (k := fun b => !b) op_ne (op_neP hu)
theorem or_ord {f : Value → Value → Sem Value} {k : Int → Int → Bool} {l : Str → Str → Bool} (h1 : OpR X f (rI0 fun i j => .bl (k i j))) (h2 : OpR X f (fun x y H Q => ∃ i j, x = .str i ∧ y = .str j ∧ Q (.bl (l i j)) H))
    {g : Op2} (hg : ∀ x y M R, g x y M R → (∃ i j, x = .int i ∧ y = .int j ∧ R (.bl (k i j)) M) ∨ ∃ i j, x = .str i ∧ y = .str j ∧ R (.bl (l i j)) M) : OpR X f (LR G g) := by
  intro pins s σ H x y v u Q I rx ry h
  obtain ⟨al, M, dx, dy, R, m, r1, r2, g, c⟩ := h
  rcases hg _ _ _ _ g with ⟨i, j, rfl, rfl, gg⟩ | ⟨i, j, rfl, rfl, gg⟩
  · simp only [RDat] at r1 r2; subst r1 r2
    exact h1 pins s σ H _ _ v u Q I rx ry ⟨i, j, rfl, rfl, c _ _ _ _ _ m.go (by rw [RDat]) gg⟩
  · simp only [RDat] at r1 r2; subst r1 r2
    exact h2 pins s σ H _ _ v u Q I rx ry ⟨i, j, rfl, rfl, c _ _ _ _ _ m.go (by rw [RDat]) gg⟩
theorem or_lt : OpR X (compareOp .Lt) (LR G opLt) := or_ord op_lt op_lt_str fun x y M R g => by
  cases x <;> cases y <;> first | exact (g : False).elim | exact .inl ⟨_, _, rfl, rfl, g⟩ | exact .inr ⟨_, _, rfl, rfl, g⟩
theorem or_le : OpR X (compareOp .LtE) (LR G opLe) := or_ord op_le op_le_str fun x y M R g => by
  cases x <;> cases y <;> first | exact (g : False).elim | exact .inl ⟨_, _, rfl, rfl, g⟩ | exact .inr ⟨_, _, rfl, rfl, g⟩
theorem or_gt : OpR X (compareOp .Gt) (LR G opGt) := or_ord op_gt op_gt_str fun x y M R g => by
  cases x <;> cases y <;> first | exact (g : False).elim | exact .inl ⟨_, _, rfl, rfl, g⟩ | exact .inr ⟨_, _, rfl, rfl, g⟩
theorem or_ge : OpR X (compareOp .GtE) (LR G opGe) := or_ord op_ge op_ge_str fun x y M R g => by
  cases x <;> cases y <;> first | exact (g : False).elim | exact .inl ⟨_, _, rfl, rfl, g⟩ | exact .inr ⟨_, _, rfl, rfl, g⟩
theorem isNon_ok {H : Hp} {al : List Addr} {x : D} {v : V} (r : RDat G.K H al x v) : decide (v = .non) = isNon x := by
  cases x with
  | tup xs => rw [RDat] at r; obtain ⟨a, vs, rfl, _⟩ := r; rfl
  | ref n => rw [RDat] at r; obtain ⟨a, _, rfl⟩ := r; rfl
  | con xs => rw [RDat] at r; obtain ⟨a, vs, rfl, _⟩ := r; rfl
  | _ => rw [RDat] at r; subst r; rfl
theorem or_is : OpR X (compareOp .Is) (LR G opIs) := by
  intro pins s σ H x y v u Q I rx ry h
  obtain ⟨al, M, dx, dy, R, m, r1, r2, g, c⟩ := h
  cases dy with
  | non => rw [RDat] at r2; exact op_isN pins s σ H _ _ v u Q I rx ry ⟨r2, c _ _ _ _ _ m.go (by rw [RDat, isNon_ok r1]) g⟩
  | _ => exact (g : False).elim
theorem or_isNot : OpR X (compareOp .IsNot) (LR G opIsNot) := by
  intro pins s σ H x y v u Q I rx ry h
  obtain ⟨al, M, dx, dy, R, m, r1, r2, g, c⟩ := h
  cases dy with
  | non => rw [RDat] at r2; exact op_notN pins s σ H _ _ v u Q I rx ry ⟨r2, c _ _ _ _ _ m.go (by rw [RDat, isNon_ok r1]) g⟩
  | bl b =>
    cases dx with
    | bl a => rw [RDat] at r1 r2; exact op_notBl pins s σ H _ _ v u Q I rx ry ⟨a, b, r1, r2, c _ _ _ _ _ m.go (by rw [RDat]) g⟩
    | _ => exact (g : False).elim
  | _ => exact (g : False).elim
end
end DN

set_option maxHeartbeats 4000000
/-! in, indexes, slices, built-ins, methods -/
namespace DN
open PySem PySem.Spec L2

/-! ### in, not in -/
section
variable {X : Cx} {G : GC}
theorem any_eqv : ∀ (ys : List D) (x : D), noref x = true → norefs ys = true → ((toPys ys).any fun z => PyData.eqv z (toPy x)) = inD x ys
  | [], _, _, _ => by simp [toPys, inD]
  | y :: ys, x, h1, h2 => by
    simp only [norefs, Bool.and_eq_true] at h2
    have ih := any_eqv ys x h1 h2.2
    simp only [toPys, List.any_cons, inD] at ih ⊢
    rw [ih, eqv_toPy y x h2.1 h1]
theorem or_inG (hK : X.K = G.K) (hu : X.A.units + 65 < cLine) {op : CmpOp} {k : Bool → Bool}
    (h1 : OpR X (compareOp op) (fun x y H Q => ∃ i j, x = .str i ∧ y = .str j ∧ Q (.bl (k (strIn i j))) H))
    (h2 : OpR X (compareOp op) (fun x y H Q => ∃ d ds, Dp X.K H x d ∧ (Dp X.K H y (.list ds) ∨ Dp X.K H y (.tuple ds)) ∧ d.plain = true ∧ PyData.plainAll ds = true ∧ d.depth ≤ 64 ∧ Q (.bl (k (ds.any fun z => PyData.eqv z d))) H)) :
    OpR X (compareOp op) (LR G fun x y M R => inM x y M fun b => R (.bl (k b)) M) := by
  intro pins s σ H x y v u Q I rx ry h
  obtain ⟨al, M, dx, dy, R, m, r1, r2, g, c⟩ := h
  cases dy with
  | str j =>
    cases dx with
    | str i => simp only [RDat] at r1 r2; subst r1 r2; exact h1 pins s σ H _ _ v u Q I rx ry ⟨i, j, rfl, rfl, c _ _ _ _ _ m.go (by rw [RDat]) g⟩
    | _ => exact (g : False).elim
  | tup ys =>
    obtain ⟨o1, o2, g⟩ := (g : _ ∧ _ ∧ _)
    refine h2 pins s σ H _ _ v u Q I rx ry ⟨toPy dx, toPys ys, by rw [hK]; exact dp_of r1 o1.1, .inr (by rw [hK]; have := dp_of r2 (by simpa [noref] using (show norefs ys = true from o2)); simpa [toPy] using this), plain_toPy dx, plain_toPys ys, o1.2, c _ _ _ _ _ m.go (by rw [RDat, any_eqv ys dx o1.1 o2]) g⟩
  | ref n =>
    have g : (match lstAt M n with | some ys => okD dx ∧ okL ys ∧ R (.bl (k (inD dx ys))) M | none => False) := g
    cases e : lstAt M n with
    | none => simp [e] at g
    | some ys =>
      simp only [e] at g
      obtain ⟨o1, o2, g⟩ := g
      obtain ⟨a, vs, rfl, hs, l⟩ := m.seq r2 e
      exact h2 pins s σ H _ _ v u Q I rx ry ⟨toPy dx, toPys ys, by rw [hK]; exact dp_of r1 o1.1, .inl (by rw [hK]; exact .lst hs (dps_of l o2)), plain_toPy dx, plain_toPys ys, o1.2, c _ _ _ _ _ m.go (by rw [RDat, any_eqv ys dx o1.1 o2]) g⟩
  | _ => exact (g : False).elim
theorem room_inS {X : Cx} {d : PyData} {ds : List PyData} (sd : d.depth ≤ 64) (hu : X.A.units + 65 < cLine) : X.A.units + 1 + min (PyData.depthAll ds) d.depth < cLine := by
  have h1 := sd
  have h2 : min (PyData.depthAll ds) d.depth ≤ d.depth := Nat.min_le_right _ _
  omega
theorem or_in (hK : X.K = G.K) (hu : X.A.units + 65 < cLine) : OpR X (compareOp .In) (LR G opIn) := by
  refine or_inG hK hu (k := fun b => b) op_in_str ?_
  intro pins s σ H x y v u Q I rx ry h
  obtain ⟨d, ds, hd, he, sd, se, hm, q⟩ := h
  obtain ⟨as, r1⟩ := Dp.reads I d x v hd rx
  rcases he with he | he
  · obtain ⟨bs, r2⟩ := Dp.reads I (.list ds) y u he ry
    exact SeqAt.in_list_data r2 r1 se sd (room_inS hm hu) ⟨.bl _, H, I, rfl, q⟩
  · obtain ⟨bs, r2⟩ := Dp.reads I (.tuple ds) y u he ry
    exact SeqAt.in_tuple_data r2 r1 se sd (room_inS hm hu) ⟨.bl _, H, I, rfl, q⟩
theorem or_notIn (hK : X.K = G.K) (hu : X.A.units + 65 < cLine) : OpR X (compareOp .NotIn) (LR G opNotIn) := by
  refine or_inG hK hu (k := fun b => !b) op_notin_str ?_
  intro pins s σ H x y v u Q I rx ry h
  obtain ⟨d, ds, hd, he, sd, se, hm, q⟩ := h
  obtain ⟨as, r1⟩ := Dp.reads I d x v hd rx
  rcases he with he | he
  · obtain ⟨bs, r2⟩ := Dp.reads I (.list ds) y u he ry
    exact SeqAt.notIn_list_data r2 r1 se sd (room_inS hm hu) ⟨.bl _, H, I, rfl, q⟩
  · obtain ⟨bs, r2⟩ := Dp.reads I (.tuple ds) y u he ry
    exact SeqAt.notIn_tuple_data r2 r1 se sd (room_inS hm hu) ⟨.bl _, H, I, rfl, q⟩

/-! ### indexes -/
theorem atI_rel {K : PySem.W.Frag} {H : Hp} {al : List Addr} {ds : List D} {vs : List V} {i : Int} {d : D} (r : RDats K H al ds vs) (h : atI ds i = some d) : ∃ v, atI vs i = some v ∧ RDat K H al d v := by
  unfold atI at h ⊢
  rw [← r.length]
  cases e : ixN ds.length i with
  | none => rw [e] at h; cases h
  | some j => rw [e] at h; exact r.get h
theorem xr_ix (hK : X.K = G.K) : IxR X (LR G opIx) := by
  intro value slice pins s σ H x y v u Q I rx ry h hs
  obtain ⟨al, M, dx, dy, R, m, r1, r2, g, c⟩ := h
  cases dy with
  | int i =>
    rw [RDat] at r2; subst r2
    cases dx with
    | tup xs =>
      rw [RDat] at r1
      obtain ⟨a, vs, rfl, s1, l1⟩ := r1
      have g : (match atI xs i with | some d => R d M | none => False) := g
      cases e : atI xs i with
      | none => simp [e] at g
      | some d =>
        simp only [e] at g
        obtain ⟨w, e1, rw1⟩ := atI_rel l1 e
        exact ix_tup value slice pins s σ H _ _ v u Q I rx ry ⟨a, vs, i, w, rfl, rfl, by rw [hK]; exact s1, e1, c _ _ _ _ _ m.go rw1 g⟩ hs
    | str z =>
      rw [RDat] at r1; subst r1
      obtain ⟨hz, g⟩ := (g : _ ∧ (match atI z.cps.toList i with | some c => R (.str ⟨#[c]⟩) M | none => False))
      cases e : atI z.cps.toList i with
      | none => simp [e] at g
      | some d =>
        simp only [e] at g
        exact ix_str value slice pins s σ H _ _ v u Q I rx ry ⟨z, i, d, rfl, rfl, hz, e, c _ _ _ _ _ m.go (by rw [RDat]) g⟩ hs
    | ref n =>
      have g : (match lstAt M n with | some xs => (match atI xs i with | some d => R d M | none => False) | none => False) := g
      cases el : lstAt M n with
      | none => simp [el] at g
      | some xs =>
        simp only [el] at g
        cases e : atI xs i with
        | none => simp [e] at g
        | some d =>
          simp only [e] at g
          obtain ⟨a, vs, rfl, s1, l1⟩ := m.seq r1 el
          obtain ⟨w, e1, rw1⟩ := atI_rel l1 e
          exact ix_list value slice pins s σ H _ _ v u Q I rx ry ⟨a, vs, i, w, rfl, rfl, by rw [hK]; exact s1, e1, c _ _ _ _ _ m.go rw1 g⟩ hs
    | con xs =>
      rw [RDat] at r1
      obtain ⟨a, vs, rfl, s1, l1⟩ := r1
      have g : (match atI xs i with | some d => R d M | none => False) := g
      cases e : atI xs i with
      | none => simp [e] at g
      | some d =>
        simp only [e] at g
        obtain ⟨w, e1, rw1⟩ := atI_rel l1 e
        exact ix_list value slice pins s σ H _ _ v u Q I rx ry ⟨a, vs, i, w, rfl, rfl, by rw [hK]; exact s1.seq, e1, c _ _ _ _ _ m.go rw1 g⟩ hs
    | _ => exact (g : False).elim
  | _ => exact (g : False).elim

/-! ### slices -/
def cutL {α : Type} (xs : List α) (lo hi : Option Int) : List α := (xs.drop (HT.sIx xs.length 0 lo)).take (HT.sIx xs.length xs.length hi - HT.sIx xs.length 0 lo)
theorem cut_rel {K : PySem.W.Frag} {H : Hp} {al : List Addr} {ds : List D} {vs : List V} (lo hi : Option Int) (r : RDats K H al ds vs) : RDats K H al (cutL ds lo hi) (cutV vs lo hi) := by
  unfold cutL cutV
  rw [← r.length]
  exact (r.drop _).take _
abbrev OpS := D → Option Int → Option Int → Mem → KD → Prop
def opSl : OpS := fun x lo hi M R => match x with
  | .tup xs => R (.tup (cutL xs lo hi)) M
  | .str z => z.length ≤ sizeLine ∧ R (.str (cutS z lo hi)) M
  | .ref n => match lstAt M n with | some xs => R (.ref M.length) (M ++ [.lst (cutL xs lo hi)]) | none => False
  | .con xs => R (.ref M.length) (M ++ [.lst (cutL xs lo hi)])
  | _ => False
def LSl (G : GC) (g : OpS) : V → Option Int → Option Int → Hp → VK → Prop := fun x lo hi H Q => ∃ al M d R, RMem G H al M ∧ RDat G.K H al d x ∧ g d lo hi M R ∧ VCl G H al R Q
theorem sr_sl (hK : X.K = G.K) : SlR X (LSl G opSl) := by
  intro pins s σ H x v vl vu lo hi sl Q I rx hs pl pu h
  obtain ⟨al, M, d, R, m, r1, g, c⟩ := h
  cases d with
  | tup xs =>
    rw [RDat] at r1
    obtain ⟨a, vs, rfl, s1, l1⟩ := r1
    refine sl_tupA pins s σ H _ v vl vu lo hi sl Q I rx hs pl pu ⟨a, vs, rfl, by rw [hK]; exact s1, fun e => ?_, fun _ p hp => ?_⟩
    · have e' : cutL xs lo hi = xs := by
        unfold cutL
        rw [l1.length, e.1, e.2, List.drop_zero, Nat.sub_zero, ← l1.length, List.take_length]
      have g : R (.tup (cutL xs lo hi)) M := g
      rw [e'] at g
      exact c _ _ _ _ _ m.go (RDat.tup_of s1 l1) g
    · have n := m.tup (vs := cutV vs lo hi) hp
      exact c _ _ _ _ _ n (RDat.tup_of (SqT.of upd_same) ((cut_rel lo hi l1).mono n.k n.p)) g
  | str z =>
    rw [RDat] at r1; subst r1
    obtain ⟨hz, g⟩ := (g : _ ∧ _)
    exact sl_str pins s σ H _ v vl vu lo hi sl Q I rx hs pl pu ⟨z, rfl, hz, c _ _ _ _ _ m.go (by rw [RDat]) g⟩
  | ref n =>
    have g : (match lstAt M n with | some xs => R (.ref M.length) (M ++ [.lst (cutL xs lo hi)]) | none => False) := g
    cases el : lstAt M n with
    | none => simp [el] at g
    | some xs =>
      simp only [el] at g
      obtain ⟨a, vs, rfl, s1, l1⟩ := m.seq r1 el
      refine sl_list pins s σ H _ v vl vu lo hi sl Q I rx hs pl pu ⟨a, vs, rfl, by rw [hK]; exact s1, fun p hp => ?_⟩
      have n := m.new (o := .lst (cutL xs lo hi)) (u := .lst (cutV vs lo hi)) hp ⟨_, rfl, cut_rel lo hi l1⟩
      exact c _ _ _ _ _ n (rdat_new m.len) g
  | con xs =>
    rw [RDat] at r1
    obtain ⟨a, vs, rfl, s1, l1⟩ := r1
    refine sl_list pins s σ H _ v vl vu lo hi sl Q I rx hs pl pu ⟨a, vs, rfl, by rw [hK]; exact s1.seq, fun p hp => ?_⟩
    have n := m.new (o := .lst (cutL xs lo hi)) (u := .lst (cutV vs lo hi)) hp ⟨_, rfl, cut_rel lo hi l1⟩
    exact c _ _ _ _ _ n (rdat_new m.len) g
  | _ => exact (g : False).elim
abbrev SO := XC → Env → Mem → (Option Int → Mem → Prop) → Prop
def oNo : SO := fun _ _ M R => R none M
def oSome (t : SE) : SO := fun Ex ρ M R => t Ex ρ M fun d M1 => match d with | .int i => R (some i) M1 | _ => False
def LO (G : GC) (W : WX) (t : SO) : TO := fun σ H Q => ∃ ρ al M Ex R, RSt G H al M σ ρ ∧ t Ex ρ M R ∧ (∀ H' al' M' o, Nxt G H al H' al' M' → R o M' → Q o H') ∧ XCl G W H al Ex σ
def MO (X : Cx) (G : GC) (e : Option Expr) (t : SO) : Prop := ∀ W, Takes X W → PO X e (LO G W t)
theorem PO.imp {X : Cx} {e : Option Expr} {t t' : TO} (h : PO X e t) (i : ∀ σ H Q, t' σ H Q → t σ H Q) : PO X e t' := ⟨fun pins s σ H Q I w => h.run pins s σ H Q I (i σ H Q w)⟩
variable {a b : Expr} {ta tb : SE} {pos : Pos} {lo hi : Option Expr} {tl th : SO}
theorem mo_none : MO X G none oNo := by
  refine fun W tk => PO.imp po_none fun σ H Q h => ?_
  obtain ⟨ρ, al, M, Ex, R, r, t, c, xc⟩ := h
  exact c _ _ _ _ r.m.go t
theorem mo_some (ha : ME X G a ta) : MO X G (some a) (oSome ta) := by
  refine fun W tk => PO.imp (po_some (ha W tk)) fun σ H Q h => ?_
  obtain ⟨ρ, al, M, Ex, R, r, t, c, xc⟩ := h
  refine ⟨ρ, al, M, Ex, _, r, t, fun H1 al1 M1 v d n1 r1 h1 => ?_, xc⟩
  cases d with
  | int i => rw [RDat] at r1; exact ⟨i, r1, c _ _ _ _ n1 h1⟩
  | _ => exact (h1 : False).elim
def eSl (ta : SE) (tl th : SO) : SE := fun Ex ρ M R => ta Ex ρ M fun x M1 => tl Ex ρ M1 fun l M2 => th Ex ρ M2 fun h M3 => opSl x l h M3 R
theorem me_slice {p2 : Pos} (hK : X.K = G.K) (ha : ME X G a ta) (hl : MO X G lo tl) (hh : MO X G hi th) : ME X G (.Subscript a (.Slice lo hi none p2) pos) (eSl ta tl th) := by
  refine fun W tk => PE.imp (pe_slice (sr_sl hK) (ha W tk) (hl W tk) (hh W tk)) fun σ H Q h => ?_
  obtain ⟨ρ, al, M, Ex, R, r, t, c, xc⟩ := h
  exact ⟨ρ, al, M, Ex, _, r, t, fun H1 al1 M1 x dx n1 r1 h1 => ⟨ρ, al1, M1, Ex, _, r.go n1, h1, fun H2 al2 M2 l n2 h2 =>
    ⟨ρ, al2, M2, Ex, _, r.go (n1.trans n2), h2, fun H3 al3 M3 u n3 h3 => ⟨al3, M3, dx, R, n3.m, r1.mono (n2.k.trans n3.k) (n2.p.trans n3.p), h3, c.nxt (n1.trans (n2.trans n3))⟩, xc.nxt (n1.trans n2)⟩, xc.nxt n1⟩, xc⟩

/-! ### built-ins -/
def cnLen : OpN := fun ds M R => match ds with
  | [.tup xs] => R (.int xs.length) M
  | [.str z] => z.length ≤ sizeLine ∧ R (.int z.length) M
  | [.ref n] => match lstAt M n with | some xs => R (.int xs.length) M | none => False
  | [.con xs] => R (.int xs.length) M
  | _ => False
theorem rd1 {K : PySem.W.Frag} {H : Hp} {al : List Addr} {d : D} {vs : List V} (r : RDats K H al [d] vs) : ∃ v, vs = [v] ∧ RDat K H al d v := by
  rw [RDats] at r
  obtain ⟨v, r', e, h, t⟩ := r
  rw [RDats] at t; subst t
  exact ⟨v, e, h⟩
theorem rd2 {K : PySem.W.Frag} {H : Hp} {al : List Addr} {d e : D} {vs : List V} (r : RDats K H al [d, e] vs) : ∃ v w, vs = [v, w] ∧ RDat K H al d v ∧ RDat K H al e w := by
  rw [RDats] at r
  obtain ⟨v, r', e1, h, t⟩ := r
  obtain ⟨w, e2, h2⟩ := rd1 t
  subst e2
  exact ⟨v, w, e1, h, h2⟩
theorem cr_len (hK : X.K = G.K) : CallR X (.builtin "len") (LCall G cnLen) := by
  intro pins s σ H xs us Q I r h
  obtain ⟨al, M, ds, R, m, r1, g, c⟩ := h
  cases ds with
  | nil => exact (g : False).elim
  | cons d t =>
    cases t with
    | cons _ _ => cases d <;> exact (g : False).elim
    | nil =>
      obtain ⟨v, rfl, r2⟩ := rd1 r1
      cases d with
      | tup ys =>
        rw [RDat] at r2
        obtain ⟨a, vs, rfl, s1, l1⟩ := r2
        exact call_len_seq pins s σ H _ us Q I r ⟨a, vs, rfl, .inr (by rw [hK]; exact s1), c _ _ _ _ _ m.go (by rw [RDat, l1.length]) g⟩
      | str z =>
        obtain ⟨hz, g⟩ := (g : _ ∧ _)
        rw [RDat] at r2; subst r2
        exact call_len_str pins s σ H _ us Q I r ⟨z, rfl, hz, c _ _ _ _ _ m.go (by rw [RDat]) g⟩
      | ref n =>
        have g : (match lstAt M n with | some xs => R (.int xs.length) M | none => False) := g
        cases el : lstAt M n with
        | none => simp [el] at g
        | some ys =>
          simp only [el] at g
          obtain ⟨a, vs, rfl, s1, l1⟩ := m.seq r2 el
          exact call_len_seq pins s σ H _ us Q I r ⟨a, vs, rfl, .inl (by rw [hK]; exact s1), c _ _ _ _ _ m.go (by rw [RDat, l1.length]) g⟩
      | con ys =>
        rw [RDat] at r2
        obtain ⟨a, vs, rfl, s1, l1⟩ := r2
        exact call_len_seq pins s σ H _ us Q I r ⟨a, vs, rfl, .inl (by rw [hK]; exact s1.seq), c _ _ _ _ _ m.go (by rw [RDat, l1.length]) g⟩
      | _ => exact (g : False).elim
def cnInt : OpN := fun ds M R => match ds with
  | [.int i] => R (.int i) M
  | [.bl k] => R (.int (if k then 1 else 0)) M
  | [.str a] => match PySem.intText? a with | some n => a.length ≤ 640 ∧ R (.int n) M | none => False
  | _ => False
theorem cr_int : CallR X (.type "int") (LCall G cnInt) := by
  intro pins s σ H xs us Q I r h
  obtain ⟨al, M, ds, R, m, r1, g, c⟩ := h
  cases ds with
  | nil => exact (g : False).elim
  | cons d t =>
    cases t with
    | cons _ _ => cases d <;> exact (g : False).elim
    | nil =>
      obtain ⟨v, rfl, r2⟩ := rd1 r1
      cases d with
      | int i => rw [RDat] at r2; subst r2; exact call_int1 pins s σ H _ us Q I r (.inl ⟨i, rfl, c _ _ _ _ _ m.go (by rw [RDat]) g⟩)
      | bl i => rw [RDat] at r2; subst r2; exact call_int1 pins s σ H _ us Q I r (.inr ⟨i, rfl, c _ _ _ _ _ m.go (by rw [RDat]) g⟩)
      | str a =>
        have g : (match PySem.intText? a with | some n => a.length ≤ 640 ∧ R (.int n) M | none => False) := g
        cases e : PySem.intText? a with
        | none => rw [e] at g; exact g.elim
        | some n =>
          rw [e] at g
          rw [RDat] at r2; subst r2
          exact call_int_str pins s σ H _ us Q I r ⟨a, n, rfl, e, g.1, c _ _ _ _ _ m.go (by rw [RDat]) g.2⟩
      | _ => exact (g : False).elim
def cnAbs : OpN := fun ds M R => match ds with
  | [.int i] => R (.int (if i < 0 then -i else i)) M
  | _ => False
theorem cr_abs : CallR X (.builtin "abs") (LCall G cnAbs) := by
  intro pins s σ H xs us Q I r h
  obtain ⟨al, M, ds, R, m, r1, g, c⟩ := h
  cases ds with
  | nil => exact (g : False).elim
  | cons d t =>
    cases t with
    | cons _ _ => cases d <;> exact (g : False).elim
    | nil =>
      obtain ⟨v, rfl, r2⟩ := rd1 r1
      cases d with
      | int i => rw [RDat] at r2; subst r2; exact call_abs pins s σ H _ us Q I r ⟨i, rfl, c _ _ _ _ _ m.go (by rw [RDat]) g⟩
      | _ => exact (g : False).elim
def cnOrd : OpN := fun ds M R => match ds with
  | [.str x] => x.length = 1 ∧ R (.int (x.cps.getD 0 0 : Nat)) M
  | _ => False
theorem cr_ord : CallR X (.builtin "ord") (LCall G cnOrd) := by
  intro pins s σ H xs us Q I r h
  obtain ⟨al, M, ds, R, m, r1, g, c⟩ := h
  cases ds with
  | nil => exact (g : False).elim
  | cons d t =>
    cases t with
    | cons _ _ => cases d <;> exact (g : False).elim
    | nil =>
      obtain ⟨v, rfl, r2⟩ := rd1 r1
      cases d with
      | str i => obtain ⟨hz, g⟩ := (g : _ ∧ _); rw [RDat] at r2; subst r2; exact call_ord pins s σ H _ us Q I r ⟨i, rfl, hz, c _ _ _ _ _ m.go (by rw [RDat]) g⟩
      | _ => exact (g : False).elim
def cnMax : OpN := fun ds M R => match ds with
  | [.int i, .int j] => R (.int (if j > i then j else i)) M
  | _ => False
def cnMin : OpN := fun ds M R => match ds with
  | [.int i, .int j] => R (.int (if j < i then j else i)) M
  | _ => False
theorem cr_two {id : String} {k : Int → Int → Int} (hc : CallR X (.builtin id) (fun xs H Q => ∃ i j, xs = [.int i, .int j] ∧ Q (.int (k i j)) H)) {g : OpN} (hg : ∀ ds M R, g ds M R → ∃ i j, ds = [.int i, .int j] ∧ R (.int (k i j)) M) : CallR X (.builtin id) (LCall G g) := by
  intro pins s σ H xs us Q I r h
  obtain ⟨al, M, ds, R, m, r1, g, c⟩ := h
  obtain ⟨i, j, rfl, gg⟩ := hg _ _ _ g
  obtain ⟨v, w, rfl, r2, r3⟩ := rd2 r1
  rw [RDat] at r2; rw [RDat] at r3; subst r2 r3
  exact hc pins s σ H _ us Q I r ⟨i, j, rfl, c _ _ _ _ _ m.go (by rw [RDat]) gg⟩
theorem cr_max2 (hc : X.calm = true) : CallR X (.builtin "max") (LCall G cnMax) := cr_two (call_max2 hc) fun ds M R g => by
  rcases ds with _ | ⟨d, _ | ⟨e, _ | ⟨f, t⟩⟩⟩
  · exact (g : False).elim
  · cases d <;> exact (g : False).elim
  · cases d <;> cases e <;> first | exact (g : False).elim | exact ⟨_, _, rfl, g⟩
  · cases d <;> cases e <;> exact (g : False).elim
theorem cr_min2 (hc : X.calm = true) : CallR X (.builtin "min") (LCall G cnMin) := cr_two (call_min2 hc) fun ds M R g => by
  rcases ds with _ | ⟨d, _ | ⟨e, _ | ⟨f, t⟩⟩⟩
  · exact (g : False).elim
  · cases d <;> exact (g : False).elim
  · cases d <;> cases e <;> first | exact (g : False).elim | exact ⟨_, _, rfl, g⟩
  · cases d <;> cases e <;> exact (g : False).elim
/-- the intsD of a list of data -/
def intsD : List D → Option (List Int)
  | [] => some []
  | .int i :: r => (intsD r).map (i :: ·)
  | _ => none
theorem intsD_rel {K : PySem.W.Frag} {H : Hp} {al : List Addr} : ∀ {ds : List D} {vs : List V} {ns : List Int}, RDats K H al ds vs → intsD ds = some ns → vs = ns.map V.int
  | [], _, _, r, h => by rw [RDats] at r; subst r; cases h; rfl
  | d :: ds, _, ns, r, h => by
    rw [RDats] at r
    obtain ⟨v, r', rfl, h1, h2⟩ := r
    cases d with
    | int i =>
      have h : (intsD ds).map (i :: ·) = some ns := h
      cases e : intsD ds with
      | none => rw [e] at h; cases h
      | some ms =>
        rw [e] at h; cases h
        rw [RDat] at h1; subst h1
        rw [intsD_rel h2 e]; rfl
    | _ => cases h
def cnSum : OpN := fun ds M R => match ds with
  | [.ref n] => match (lstAt M n).bind intsD with | some ns => R (.int ns.sum) M | none => False
  | _ => False
theorem cr_sumL (hK : X.K = G.K) (hc : X.calm = true) : CallR X (.builtin "sum") (LCall G cnSum) := by
  intro pins s σ H xs us Q I r h
  obtain ⟨al, M, ds, R, m, r1, g, c⟩ := h
  cases ds with
  | nil => exact (g : False).elim
  | cons d t =>
    cases t with
    | cons _ _ => cases d <;> exact (g : False).elim
    | nil =>
      obtain ⟨v, rfl, r2⟩ := rd1 r1
      cases d with
      | ref n =>
        have g : (match (lstAt M n).bind intsD with | some ns => R (.int ns.sum) M | none => False) := g
        cases el : lstAt M n with
        | none => simp [el] at g
        | some ys =>
          cases ei : intsD ys with
          | none => simp [el, ei] at g
          | some ns =>
            simp only [el, Option.bind_some, ei] at g
            obtain ⟨a, vs, rfl, s1, l1⟩ := m.seq r2 el
            have e := intsD_rel l1 ei
            subst e
            exact cr_sum hc pins s σ H _ us Q I r ⟨a, ns, rfl, by rw [hK]; exact s1, c _ _ _ _ _ m.go (by rw [RDat]) g⟩
      | _ => exact (g : False).elim
def cnTuple : OpN := fun ds M R => match ds with
  | [.tup xs] => R (.tup xs) M
  | [.ref n] => match lstAt M n with | some xs => R (.tup xs) M | none => False
  | _ => False
theorem cr_tuple (hK : X.K = G.K) : CallR X (.type "tuple") (LCall G cnTuple) := by
  intro pins s σ H xs us Q I r h
  obtain ⟨al, M, ds, R, m, r1, g, c⟩ := h
  cases ds with
  | nil => exact (g : False).elim
  | cons d t =>
    cases t with
    | cons _ _ => cases d <;> exact (g : False).elim
    | nil =>
      obtain ⟨v, rfl, r2⟩ := rd1 r1
      cases d with
      | tup ys =>
        have r3 := r2
        rw [RDat] at r2
        obtain ⟨a, vs, rfl, s1, l1⟩ := r2
        exact call_tuple_of pins s σ H _ us Q I r ⟨a, vs, rfl, .inr ⟨by rw [hK]; exact s1, c _ _ _ _ _ m.go r3 g⟩⟩
      | ref n =>
        have g : (match lstAt M n with | some xs => R (.tup xs) M | none => False) := g
        cases el : lstAt M n with
        | none => simp [el] at g
        | some ys =>
          simp only [el] at g
          obtain ⟨a, vs, rfl, s1, l1⟩ := m.seq r2 el
          refine call_tuple_of pins s σ H _ us Q I r ⟨a, vs, rfl, .inl ⟨by rw [hK]; exact s1, fun p hp => ?_⟩⟩
          have n := m.tup (vs := vs) hp
          exact c _ _ _ _ _ n (RDat.tup_of (SqT.of upd_same) (l1.mono n.k n.p)) g
      | _ => exact (g : False).elim
def cnList : OpN := fun ds M R => match ds with
  | [.tup xs] => R (.ref M.length) (M ++ [.lst xs])
  | [.ref n] => match lstAt M n with | some xs => R (.ref M.length) (M ++ [.lst xs]) | none => False
  | _ => False
theorem cr_list (hK : X.K = G.K) : CallR X (.type "list") (LCall G cnList) := by
  intro pins s σ H xs us Q I r h
  obtain ⟨al, M, ds, R, m, r1, g, c⟩ := h
  cases ds with
  | nil => exact (g : False).elim
  | cons d t =>
    cases t with
    | cons _ _ => cases d <;> exact (g : False).elim
    | nil =>
      obtain ⟨v, rfl, r2⟩ := rd1 r1
      cases d with
      | tup ys =>
        rw [RDat] at r2
        obtain ⟨a, vs, rfl, s1, l1⟩ := r2
        refine call_list_of pins s σ H _ us Q I r ⟨a, vs, rfl, .inr (by rw [hK]; exact s1), fun p hp => ?_⟩
        have n := m.new (o := .lst ys) (u := .lst vs) hp ⟨_, rfl, l1⟩
        exact c _ _ _ _ _ n (rdat_new m.len) g
      | ref n =>
        have g : (match lstAt M n with | some xs => R (.ref M.length) (M ++ [.lst xs]) | none => False) := g
        cases el : lstAt M n with
        | none => simp [el] at g
        | some ys =>
          simp only [el] at g
          obtain ⟨a, vs, rfl, s1, l1⟩ := m.seq r2 el
          refine call_list_of pins s σ H _ us Q I r ⟨a, vs, rfl, .inl (by rw [hK]; exact s1), fun p hp => ?_⟩
          have n := m.new (o := .lst ys) (u := .lst vs) hp ⟨_, rfl, l1⟩
          exact c _ _ _ _ _ n (rdat_new m.len) g
      | _ => exact (g : False).elim
/-! ### isinstance -/
def tyD (d : D) (M : Mem) : Option String := match d with
  | .non => some "NoneType" | .bl _ => some "bool" | .int _ => some "int" | .str _ => some "str" | .tup _ => some "tuple"
  | .ref n => match M[n]? with
    | some (.lst _) => some "list"
    | _ => none
  | .con _ => none
def isi (T : String) (d : D) (M : Mem) : Option Bool := (tyD d M).bind fun t => kitB t T
def eIsi (T : String) (ta : SE) : SE := fun Ex ρ M R => ta Ex ρ M fun d M1 => match isi T d M1 with | some b => R (.bl b) M1 | none => False
theorem kit_isi {K : PySem.W.Frag} {H : Hp} {al : List Addr} {M : Mem} {d : D} {v : V} {T : String} {b : Bool} (hG : G.K = K) (m : RMem G H al M) (r : RDat K H al d v) (h : isi T d M = some b) :
    ∃ t, TyX K H v t ∧ PySem.W.kitOne K t (.type T) = some b := by
  have key : ∀ t, tyD d M = some t → TyX K H v (.type t) → ∃ t, TyX K H v t ∧ PySem.W.kitOne K t (.type T) = some b := fun t e ty => by
    unfold isi at h
    rw [e, Option.bind_some] at h
    exact ⟨_, ty, kit_ty h⟩
  cases d with
  | non => rw [RDat] at r; subst r; exact key _ rfl (.base .non)
  | bl k => rw [RDat] at r; subst r; exact key _ rfl (.base (.bl k))
  | int k => rw [RDat] at r; subst r; exact key _ rfl (.base (.int k))
  | str k => rw [RDat] at r; subst r; exact key _ rfl (.base (.str k))
  | tup xs =>
    rw [RDat] at r
    obtain ⟨a, vs, rfl, s1, l1⟩ := r
    refine key _ rfl ?_
    rcases s1 with (e | ⟨o, e⟩) | ⟨o, its, n, e, hc, _⟩
    · exact .base (.tup e)
    · exact .fTuple e
    · exact .kTuple e hc
  | ref n =>
    cases e : M[n]? with
    | none => simp [isi, tyD, e] at h
    | some o =>
      cases o with
      | lst xs =>
        subst hG
        obtain ⟨a, vs, rfl, _, e2, _⟩ := m.lst r e
        exact key "list" (by simp [tyD, e]) (.base (.lst e2))
      | _ => simp [isi, tyD, e] at h
  | con xs => simp [isi, tyD] at h
theorem me_isi {T : Str} {TS : String} {p pT : Pos} (hK : X.K = G.K) (hg : Gl X "isinstance") (hm : X.mg "isinstance" = none) (hgT : Gl X T) (hmT : X.mg T = none) (hv : bootBuiltins T = some (.type TS)) (hn : T ≠ "__name__") (hd : (T == ("__debug__" : Str)) = false)
    (ha : ME X G a ta) (he : starEach [a, .Name T pT] X.env = (false, eval a X.env) :: starEach [.Name T pT] X.env) (hpl : (backTo pos (starEach [.Name T pT] X.env)).any (·.1) = false) :
    ME X G (.Call (.Name "isinstance" p) [a, .Name T pT] [] pos) (eIsi TS ta) := by
  refine fun W tk => PE.imp (pe_callB (call_isi) hg hm (by decide +kernel) (pa_cons (ha W tk) (pa_cons (pe_bltn (v := .ty TS) hgT hmT hv rfl hn hd) pa_nil) he) (by decide) (by decide) he hpl) fun σ H Q h => ?_
  obtain ⟨ρ, al, M, Ex, R, r, t, c, xc⟩ := h
  refine ⟨ρ, al, M, Ex, _, r, t, fun H1 al1 M1 x d n1 r1 h1 => ?_, xc⟩
  cases e : isi TS d M1 with
  | none => simp only [e] at h1
  | some b =>
    simp only [e] at h1
    obtain ⟨t, ty, k⟩ := kit_isi rfl n1.m r1 e
    exact ⟨x, .ty TS, t, .type TS, b, rfl, .ty TS, by rw [hK]; exact ty, by rw [hK]; exact k, c _ _ _ _ _ n1 (by rw [RDat]) h1⟩
end
end DN

set_option maxHeartbeats 4000000
/-! iteration, comprehensions, statements -/
namespace DN
open PySem PySem.Spec L2

/-! ### targets: names and tuples of names -/
inductive Tg where
  | nm (i : Nat)
  | tp (ts : List Tg)
mutual
def asgD : Tg → D → Env → Option Env
  | .nm i, d, ρ => some (ρ.set i (some d))
  | .tp ts, .tup ds, ρ => asgDs ts ds ρ
  | .tp _, _, _ => none
def asgDs : List Tg → List D → Env → Option Env
  | [], [], ρ => some ρ
  | t :: ts, d :: ds, ρ => match asgD t d ρ with
    | some ρ1 => asgDs ts ds ρ1
    | none => none
  | _, _, _ => none
end
mutual
def slotsT : Tg → List Nat
  | .nm i => [i]
  | .tp ts => slotsTs ts
def slotsTs : List Tg → List Nat
  | [] => []
  | t :: ts => slotsT t ++ slotsTs ts
end
section
variable {X : Cx} {G : GC}
/-- only the slots js have changed -/
def Only (js : List Nat) (σ σ' : L2.St) : Prop := σ'.length = σ.length ∧ ∀ i, i ∉ js → σ'[i]? = σ[i]?
theorem Only.refl (js : List Nat) (σ : L2.St) : Only js σ σ := ⟨rfl, fun _ _ => rfl⟩
theorem Only.trans {js ks : List Nat} {a b c : L2.St} (x : Only js a b) (y : Only ks b c) : Only (js ++ ks) a c :=
  ⟨y.1.trans x.1, fun i hi => by
    rw [List.mem_append, not_or] at hi
    rw [y.2 i hi.2, x.2 i hi.1]⟩
theorem Only.mono {js ks : List Nat} {a b : L2.St} (x : Only js a b) (h : ∀ i ∈ js, i ∈ ks) : Only ks a b := ⟨x.1, fun i hi => x.2 i fun z => hi (h i z)⟩
theorem wipe_get : ∀ (vs : List Nat) (σ : L2.St) (i : Nat), (wipe σ vs)[i]? = if i ∈ vs then (if i < σ.length then some none else none) else σ[i]?
  | [], σ, i => by simp [wipe]
  | v :: vs, σ, i => by
    unfold wipe
    by_cases hv : v = i
    · subst hv
      rw [if_pos (List.mem_cons_self), List.getElem?_set]
      simp [wipe_length]
    · rw [List.getElem?_set_ne hv, wipe_get vs σ i]
      have : (i ∈ v :: vs) ↔ i ∈ vs := by simp [Ne.symm hv]
      simp only [this]
theorem Only.wipe {js vs : List Nat} {a b : L2.St} (x : Only js a b) (h : ∀ i ∈ js, i ∈ vs) : L2.wipe b vs = L2.wipe a vs := by
  apply List.ext_getElem?
  intro i
  rw [wipe_get, wipe_get, x.1]
  by_cases hi : i ∈ vs
  · rw [if_pos hi, if_pos hi]
  · rw [if_neg hi, if_neg hi]
    exact x.2 i fun z => hi (h i z)
def NoX (G : GC) (js : List Nat) : Prop := ∀ n, G.xn = some n → n.i ∉ js
theorem RSt.setS {H : Hp} {al : List Addr} {M : Mem} {σ : L2.St} {ρ : Env} {i : Nat} {d : D} {v : V} (r : RSt G H al M σ ρ) (q : RDat G.K H al d v) (hx : NoX G [i]) : RSt G H al M (σ.set i (some v)) (ρ.set i (some d)) := by
  refine ⟨r.m, ⟨by rw [List.length_set, List.length_set]; exact r.e.1, fun j d' h => ?_⟩, ?_⟩
  · by_cases hj : i = j
    · subst hj
      have hl : i < ρ.length := by
        have := (List.getElem?_eq_some_iff.mp h).1
        rwa [List.length_set] at this
      rw [List.getElem?_set_self hl] at h
      cases h
      exact ⟨v, by rw [List.getElem?_set_self (by rw [← r.e.1]; exact hl)], q⟩
    · rw [List.getElem?_set_ne hj] at h ⊢
      exact r.e.2 j d' h
  · have := r.x
    unfold XOk at this ⊢
    cases e : G.xn with
    | none => trivial
    | some n =>
      rw [e] at this
      refine ⟨this.1, ?_⟩
      have hn : i ≠ n.i := fun z => hx n e (by simp [z])
      show (σ.set i (some v))[n.i]? = _
      rw [List.getElem?_set_ne hn]
      exact this.2
def LG (G : GC) (tg : Tg) : TG := fun v σ H Q => ∃ ρ al M d ρ', RSt G H al M σ ρ ∧ RDat G.K H al d v ∧ asgD tg d ρ = some ρ' ∧ ∀ σ', RSt G H al M σ' ρ' → Only (slotsT tg) σ σ' → Q σ' H
def LGs (G : GC) (ts : List Tg) : TGs := fun vs σ H Q => ∃ ρ al M ds ρ', RSt G H al M σ ρ ∧ RDats G.K H al ds vs ∧ asgDs ts ds ρ = some ρ' ∧ ∀ σ', RSt G H al M σ' ρ' → Only (slotsTs ts) σ σ' → Q σ' H
theorem PG.imp {X : Cx} {e : Expr} {t t' : TG} (h : PG X e t) (i : ∀ v σ H Q, t' v σ H Q → t v σ H Q) : PG X e t' := ⟨fun pins s σ H v u Q I r w => h.run pins s σ H v u Q I r (i v σ H Q w)⟩
theorem PGs.imp {X : Cx} {e : List Expr} {t t' : TGs} (h : PGs X e t) (i : ∀ v σ H Q, t' v σ H Q → t v σ H Q) : PGs X e t' := ⟨fun pins s σ H v u Q I r w => h.run pins s σ H v u Q I r (i v σ H Q w)⟩
def MG (X : Cx) (G : GC) (e : Expr) (tg : Tg) : Prop := PG X e (LG G tg)
def MGs (X : Cx) (G : GC) (es : List Expr) (ts : List Tg) : Prop := PGs X es (LGs G ts)
theorem mg_name {i : Nat} {x : Str} {pos : Pos} (hN : X.N.Nodup) (hi : X.N[i]? = some x) (hx : Loc X.env.scope x) (hf : X.fn x = true ∨ X.env.scope.names.lookup x = some .local) (hX : NoX G [i]) : MG X G (.Name x pos) (.nm i) := by
  refine PG.imp (pg_name (i := i) hN hi hx hf) fun v σ H Q h => ?_
  obtain ⟨ρ, al, M, d, ρ', r, q, e, c⟩ := h
  simp only [asgD, Option.some.injEq] at e
  subst e
  refine c _ (r.setS q hX) ⟨by rw [List.length_set], fun j hj => ?_⟩
  have hj : j ≠ i := by simpa [slotsT] using hj
  rw [List.getElem?_set_ne (Ne.symm hj)]
theorem mgs_nil : MGs X G [] [] := by
  refine PGs.imp pgs_nil fun vs σ H Q h => ?_
  obtain ⟨ρ, al, M, ds, ρ', r, q, e, c⟩ := h
  cases ds with
  | nil =>
    rw [RDats] at q
    simp only [asgDs, Option.some.injEq] at e
    subst e
    exact ⟨q, c _ r (Only.refl _ _)⟩
  | cons d t => simp [asgDs] at e
theorem mgs_cons {a : Expr} {es : List Expr} {t : Tg} {ts : List Tg} (ha : MG X G a t) (hs : MGs X G es ts) (h : (assignEach (a :: es) X.env).map (·.2) = assign a X.env :: (assignEach es X.env).map (·.2)) : MGs X G (a :: es) (t :: ts) := by
  refine PGs.imp (pgs_cons ha hs h) fun vs σ H Q h => ?_
  obtain ⟨ρ, al, M, ds, ρ', r, q, e, c⟩ := h
  cases ds with
  | nil => simp [asgDs] at e
  | cons d ds =>
    rw [RDats] at q
    obtain ⟨v, vr, rfl, q1, q2⟩ := q
    simp only [asgDs] at e
    cases e1 : asgD t d ρ with
    | none => rw [e1] at e; cases e
    | some ρ1 =>
      rw [e1] at e
      exact ⟨v, vr, rfl, ρ, al, M, d, ρ1, r, q1, e1, fun σ1 r1 o1 => ⟨ρ1, al, M, ds, ρ', r1, q2, e, fun σ2 r2 o2 => c _ r2 (by simpa [slotsTs] using o1.trans o2)⟩⟩
theorem mg_tup {es : List Expr} {k : Nat} {pos : Pos} {ts : List Tg} (hK : X.K = G.K) (hc : X.calm = true) (h : MGs X G es ts) (hl : es.length = ts.length) (hn : (assignEach es X.env).length = es.length) (hst : (assignEach es X.env).findIdx? (·.1) = none) : MG X G (.Tuple es k pos) (.tp ts) := by
  refine PG.imp (pg_tup (n := es.length) hc h hn hst) fun v σ H Q h => ?_
  obtain ⟨ρ, al, M, d, ρ', r, q, e, c⟩ := h
  cases d with
  | tup ds =>
    rw [RDat] at q
    obtain ⟨a, vs, rfl, s1, l1⟩ := q
    simp only [asgD] at e
    have lenD : ∀ (ts : List Tg) (ds : List D) (ρ ρ' : Env), asgDs ts ds ρ = some ρ' → ds.length = ts.length := by
      intro ts
      induction ts with
      | nil => intro ds ρ ρ' h; cases ds <;> simp_all [asgDs]
      | cons t ts ih =>
        intro ds ρ ρ' h
        cases ds with
        | nil => simp [asgDs] at h
        | cons d ds =>
          simp only [asgDs] at h
          cases e1 : asgD t d ρ with
          | none => rw [e1] at h; cases h
          | some ρ1 => rw [e1] at h; rw [List.length_cons, List.length_cons, ih ds _ _ h]
    exact ⟨a, vs, rfl, by rw [hK]; exact s1, by rw [← l1.length, lenD _ _ _ _ e, hl], ρ, al, M, ds, ρ', r, l1, e, fun σ' r' o' => c _ r' (by simpa [slotsT] using o')⟩
  | _ => simp [asgD] at e

/-! ### what is walked -/
structure Iter where
  items : List D
  ok : Mem → Prop
abbrev SI := XC → Env → Mem → (Iter → Mem → Prop) → Prop
def ItR (G : GC) (H0 : Hp) (al0 : List Addr) (J : It) (it : Iter) : Prop :=
  ∀ (i : Nat) (H : Hp) (al : List Addr) (M : Mem), Nxt G H0 al0 H al M → it.ok M →
    (∀ d, it.items[i]? = some d → J.go i H ∧ ∀ x H', J.yld i H x H' → Nxt G H al H' al M ∧ RDat G.K H' al d x) ∧ (it.items.length = i → J.stop i H)
def LI (G : GC) (W : WX) (t : SI) : TI := fun σ H Q => ∃ ρ al M Ex R, RSt G H al M σ ρ ∧ t Ex ρ M R ∧ (∀ H' al' M' J it, Nxt G H al H' al' M' → ItR G H' al' J it → R it M' → Q J H') ∧ XCl G W H al Ex σ
def MI (X : Cx) (G : GC) (tg iter : Expr) (t : SI) : Prop := ∀ W, Takes X W → PI X tg iter (LI G W t)
theorem PI.imp {X : Cx} {tg e : Expr} {t t' : TI} (h : PI X tg e t) (i : ∀ σ H Q, t' σ H Q → t σ H Q) : PI X tg e t' := ⟨fun pins s σ H R I w => h.run pins s σ H R I (i σ H R w)⟩
/-- two rules for one thing: by what it is -/
theorem PI.or {X : Cx} {tg e : Expr} {t u : TI} (h : PI X tg e t) (h' : PI X tg e u) : PI X tg e (fun σ H Q => t σ H Q ∨ u σ H Q) :=
  ⟨fun pins s σ H R I w => w.elim (h.run pins s σ H R I) (h'.run pins s σ H R I)⟩
theorem PE.or {X : Cx} {e : Expr} {t u : TE} (h : PE X e t) (h' : PE X e u) : PE X e (fun σ H Q => t σ H Q ∨ u σ H Q) :=
  ⟨fun pins s σ H R I w => w.elim (h.run pins s σ H R I) (h'.run pins s σ H R I)⟩
/-- a list or a tuple or a text, walked: by the value that comes -/
theorem itr_tup {H : Hp} {al : List Addr} {a : Addr} {vs : List V} {xs : List D} (s1 : SqT G.K H a vs) (l1 : RDats G.K H al xs vs) : ItR G H al (Itt G.K a) ⟨xs, fun _ => True⟩ := by
  intro i H' al' M' n _
  refine ⟨fun d hd => ?_, fun hl => ⟨vs, n.k.sqT s1, by rw [← l1.length]; exact Nat.le_of_eq hl⟩⟩
  obtain ⟨v, e1, e2⟩ := l1.get hd
  refine ⟨⟨vs, v, n.k.sqT s1, e1⟩, fun x H2 y => ?_⟩
  obtain ⟨rfl, q⟩ := y
  have := q vs (n.k.sqT s1)
  rw [e1] at this
  cases this
  exact ⟨n.m.go, e2.mono n.k n.p⟩
def iSeq (t : SE) : SI := fun Ex ρ M R => t Ex ρ M fun d M1 => match d with
  | .tup xs => R ⟨xs, fun _ => True⟩ M1
  | .ref n => match lstAt M1 n with | some xs => R ⟨xs, fun M => lstAt M n = some xs⟩ M1 | none => False
  | .str z => R ⟨z.cps.toList.map fun c => .str ⟨#[c]⟩, fun _ => True⟩ M1
  | .con xs => R ⟨xs, fun _ => True⟩ M1
  | _ => False
theorem itr_con {H : Hp} {al : List Addr} {a : Addr} {xs : List D} {vs : List V} (s0 : SqF G.K H a vs) (l0 : RDats G.K H al xs vs) : ItR G H al (Itl G.K a) ⟨xs, fun _ => True⟩ := by
  intro i H' al' M' nx _
  have s1 := (nx.k.sqF s0).seq
  have l1 := l0.mono nx.k nx.p
  refine ⟨fun d hd => ?_, fun hl => ⟨vs, s1, by rw [← l1.length]; exact Nat.le_of_eq hl⟩⟩
  obtain ⟨v, e1, e2⟩ := l1.get hd
  refine ⟨⟨vs, v, s1, e1⟩, fun x H2 y => ?_⟩
  obtain ⟨rfl, q⟩ := y
  have := q vs s1
  rw [e1] at this
  cases this
  exact ⟨nx.m.go, e2⟩
theorem itr_lst {H0 : Hp} {al0 : List Addr} {n : Nat} {a : Addr} {xs : List D} (ha : al0[n]? = some a) : ItR G H0 al0 (Itl G.K a) ⟨xs, fun M => lstAt M n = some xs⟩ := by
  intro i H' al' M' nx ok
  have ok : lstAt M' n = some xs := ok
  have rd : RDat G.K H' al' (.ref n) (.ref a) := by rw [RDat]; exact ⟨a, pfx_get nx.p ha, rfl⟩
  obtain ⟨b, vs, e0, s1, l1⟩ := nx.m.seq rd ok
  cases e0
  refine ⟨fun d hd => ?_, fun hl => ⟨vs, s1, by rw [← l1.length]; exact Nat.le_of_eq hl⟩⟩
  obtain ⟨v, e1, e2⟩ := l1.get hd
  refine ⟨⟨vs, v, s1, e1⟩, fun x H2 y => ?_⟩
  obtain ⟨rfl, q⟩ := y
  have := q vs s1
  rw [e1] at this
  cases this
  exact ⟨nx.m.go, e2⟩
theorem itr_str {H : Hp} {al : List Addr} {z : Str} : ItR G H al (Its z) ⟨z.cps.toList.map fun c => .str ⟨#[c]⟩, fun _ => True⟩ := by
  intro i H' al' M' n _
  refine ⟨fun d hd => ?_, fun hl => (by show z.cps.size ≤ i; simpa using Nat.le_of_eq hl)⟩
  rw [List.getElem?_map] at hd
  cases e : z.cps.toList[i]? with
  | none => rw [e] at hd; cases hd
  | some c =>
    rw [e] at hd; cases hd
    have hi : i < z.cps.size := by simpa using (List.getElem?_eq_some_iff.mp e).1
    refine ⟨hi, fun x H2 y => ?_⟩
    obtain ⟨rfl, c', e1, rfl⟩ := y
    rw [Array.getElem?_toList, e1] at e
    cases e
    exact ⟨n.m.go, by rw [RDat]⟩
/-! ### an iterator by the value that comes -/
def iAny (K : PySem.W.Frag) (tl : TE) : TI := fun σ H Q => tl σ H fun x H1 =>
  (∃ a xs, x = .ref a ∧ SqL K H1 a xs ∧ Q (Itl K a) H1) ∨ (∃ a xs, x = .ref a ∧ SqT K H1 a xs ∧ Q (Itt K a) H1) ∨ ∃ z, x = .str z ∧ Q (Its z) H1
theorem pi_any {tg l : Expr} {tl : TE} (hl : PE X l tl) : PI X tg l (iAny X.K tl) := by
  refine ⟨fun pins s σ H Q I h => ?_⟩
  refine thn (hl.run pins s σ H _ I h) ?_
  rintro v s1 ⟨x, H1, I1, r1, (⟨a, xs, rfl, hq, q⟩ | ⟨a, xs, rfl, hq, q⟩ | ⟨z, rfl, q⟩)⟩
  · cases r1
    obtain ⟨its, _, pl, _⟩ := I1.list hq
    exact wpAny_pyIter_list pl.isList (pi_one (tk := s1.toks) I1 _ (turn_list a _) ⟨_, Heap.get?_push_size _ rfl, rfl, rfl⟩ q)
  · cases r1
    obtain ⟨its, _, pl, _⟩ := I1.tuple hq
    exact wpAny_pyIter_tuple (show s1.heap.IsTuple a its.toArray from pl) (pi_one (tk := s1.toks) I1 _ (turn_tuple a _) ⟨_, Heap.get?_push_size _ rfl, rfl, rfl⟩ q)
  · obtain ⟨t, rfl⟩ := r1
    cases ha : z.cps.all (· < 128) with
    | false => exact wpAny_pyIter_wide ha (pi_one (tk := s1.toks) I1 _ (turn_str _ z t _ (.inr rfl)) ⟨_, Heap.get?_push_size _ rfl, rfl, rfl⟩ q)
    | true => exact wpAny_pyIter_ascii ha (pi_one (tk := s1.toks) I1 _ (turn_str _ z t _ (.inl rfl)) ⟨_, Heap.get?_push_size _ rfl, rfl, rfl⟩ q)
theorem mi_seq {tg l : Expr} {tl : SE} (hK : X.K = G.K) (hl : ME X G l tl) : MI X G tg l (iSeq tl) := by
  refine fun W tk => PI.imp (pi_any (hl W tk)) fun σ H Q h => ?_
  obtain ⟨ρ, al, M, Ex, R, r, t, c, xc⟩ := h
  refine ⟨ρ, al, M, Ex, _, r, t, fun H1 al1 M1 v d n1 r1 h1 => ?_, xc⟩
  cases d with
  | tup xs =>
    rw [RDat] at r1
    obtain ⟨a, vs, rfl, s1, l1⟩ := r1
    exact .inr (.inl ⟨a, vs, rfl, by rw [hK]; exact s1, by rw [hK]; exact c _ _ _ _ _ n1 (itr_tup s1 l1) h1⟩)
  | str z =>
    rw [RDat] at r1
    exact .inr (.inr ⟨z, r1, c _ _ _ _ _ n1 itr_str h1⟩)
  | ref n =>
    have h1 : (match lstAt M1 n with | some xs => R ⟨xs, fun M => lstAt M n = some xs⟩ M1 | none => False) := h1
    cases el : lstAt M1 n with
    | none => simp [el] at h1
    | some xs =>
      simp only [el] at h1
      obtain ⟨a, vs, rfl, s1, l1⟩ := n1.m.seq r1 el
      have ha : al1[n]? = some a := by
        rw [RDat] at r1
        obtain ⟨b, e1, e2⟩ := r1
        cases e2; exact e1
      exact .inl ⟨a, vs, rfl, by rw [hK]; exact s1, by rw [hK]; exact c _ _ _ _ _ n1 (itr_lst ha) h1⟩
  | con xs =>
    rw [RDat] at r1
    obtain ⟨a, vs, rfl, s1, l1⟩ := r1
    exact .inl ⟨a, vs, rfl, by rw [hK]; exact s1.seq, by rw [hK]; exact c _ _ _ _ _ n1 (itr_con s1 l1) h1⟩
  | _ => exact (h1 : False).elim
/-! ranges -/
def rngD (lo : Int) (n : Nat) : List D := (List.range n).map fun i => .int (lo + (i : Nat))
theorem rngD_get {lo : Int} {n i : Nat} {d : D} (h : (rngD lo n)[i]? = some d) : i < n ∧ d = .int (lo + (i : Nat)) := by
  unfold rngD at h
  rw [List.getElem?_map] at h
  cases e : (List.range n)[i]? with
  | none => rw [e] at h; cases h
  | some j =>
    rw [e] at h; cases h
    obtain ⟨h1, h2⟩ := List.getElem?_eq_some_iff.mp e
    rw [List.length_range] at h1
    rw [List.getElem_range] at h2
    exact ⟨h1, by rw [h2]⟩
theorem itr_rng {H : Hp} {al : List Addr} {lo : Int} {n : Nat} : ItR G H al (Itr lo n) ⟨rngD lo n, fun _ => True⟩ := by
  intro i H' al' M' nx _
  refine ⟨fun d hd => ?_, fun hl => (by show n ≤ i; simpa [rngD] using Nat.le_of_eq hl)⟩
  obtain ⟨h1, rfl⟩ := rngD_get hd
  refine ⟨h1, fun x H2 y => ?_⟩
  obtain ⟨rfl, rfl⟩ := y
  exact ⟨nx.m.go, by rw [RDat]⟩
def iRange1 (ta : SA) : SI := fun Ex ρ M R => ta Ex ρ M fun ds M1 => match ds with
  | [.int j] => j < 2 ^ 62 ∧ -(2 ^ 62) ≤ j ∧ R ⟨rngD 0 j.toNat, fun _ => True⟩ M1
  | _ => False
def iRange2 (ta : SA) : SI := fun Ex ρ M R => ta Ex ρ M fun ds M1 => match ds with
  | [.int i, .int j] => (-(2 ^ 62) ≤ i ∧ i < 2 ^ 62 ∧ -(2 ^ 62) ≤ j ∧ j < 2 ^ 62) ∧ R ⟨rngD i (j - i).toNat, fun _ => True⟩ M1
  | _ => False
theorem mi_range1 {tg a : Expr} {ta : SA} {p pos : Pos} (hg : Gl X "range") (hm : X.mg "range" = none) (ha : MA X G [a] ta) (hs : starEach [a] X.env = [(false, eval a X.env)]) : MI X G tg (.Call (.Name "range" p) [a] [] pos) (iRange1 ta) := by
  refine fun W tk => PI.imp (pi_range1 hg hm (ha W tk) hs) fun σ H Q h => ?_
  obtain ⟨ρ, al, M, Ex, R, r, t, c, xc⟩ := h
  refine ⟨ρ, al, M, Ex, _, r, t, fun H1 al1 M1 vs ds n1 r1 l1 h1 => ?_, xc⟩
  rcases ds with _ | ⟨d, _ | ⟨e, t⟩⟩
  · exact (h1 : False).elim
  · obtain ⟨v, rfl, r2⟩ := rd1 r1
    cases d with
    | int j =>
      obtain ⟨h2, h3, h1⟩ := (h1 : _ ∧ _ ∧ _)
      rw [RDat] at r2; subst r2
      exact ⟨j, rfl, h3, h2, c _ _ _ _ _ n1 itr_rng h1⟩
    | _ => exact (h1 : False).elim
  · cases d <;> exact (h1 : False).elim
theorem mi_range2 {tg a b : Expr} {ta : SA} {p pos : Pos} (hg : Gl X "range") (hm : X.mg "range" = none) (ha : MA X G [a, b] ta) (hs : starEach [a, b] X.env = [(false, eval a X.env), (false, eval b X.env)]) (hs2 : starEach [b] X.env = [(false, eval b X.env)]) :
    MI X G tg (.Call (.Name "range" p) [a, b] [] pos) (iRange2 ta) := by
  refine fun W tk => PI.imp (pi_range2 hg hm (ha W tk) hs hs2) fun σ H Q h => ?_
  obtain ⟨ρ, al, M, Ex, R, r, t, c, xc⟩ := h
  refine ⟨ρ, al, M, Ex, _, r, t, fun H1 al1 M1 vs ds n1 r1 l1 h1 => ?_, xc⟩
  rcases ds with _ | ⟨d, _ | ⟨e, _ | ⟨f, t⟩⟩⟩
  · exact (h1 : False).elim
  · cases d <;> exact (h1 : False).elim
  · obtain ⟨v, w, rfl, r2, r3⟩ := rd2 r1
    cases d with
    | int i =>
      cases e with
      | int j =>
        obtain ⟨h2, h1⟩ := (h1 : _ ∧ _)
        rw [RDat] at r2 r3; subst r2 r3
        exact ⟨i, j, rfl, h2, c _ _ _ _ _ n1 itr_rng h1⟩
      | _ => exact (h1 : False).elim
    | _ => cases e <;> exact (h1 : False).elim
  · cases d <;> cases e <;> exact (h1 : False).elim
end
end DN

set_option maxHeartbeats 4000000
/-! enumerate over tuples, lists, texts -/
namespace DN
open PySem PySem.Spec L2

theorem meets_enum1 {v : Value} {o : Obj} {H : Heap → Prop} (B : Begins v o H) :
    Meets (Builtin.«enumerate.__new__» ⟨[.type "enumerate", v], []⟩) (fun _ R s => H s.heap ∧
      R (.ok (.ret (.ref (s.heap.push o).objs.size))) { s with heap := (s.heap.push o).push { cls := .type "enumerate", data := .fields #[.none, .bool false, .ref s.heap.objs.size, rawInt 0, .none, .none] } }) :=
  .of_wp fun prog w A R s h => by
    obtain ⟨hp, g, d, tk, os⟩ := s; obtain ⟨h1, h⟩ := h
    have hsub := sub_enumerate
    have q1 : ∀ {A' : Around} {E : Value → Shared → Prop} {Q : Value → Shared → Prop}, Q (.ref hp.objs.size) ⟨hp.push o, g, d, tk, os⟩ → wpAny (model prog w) A' (pyIter v) Q E ⟨hp, g, d, tk, os⟩ :=
      fun q => B.iter prog w _ _ ⟨hp, g, d, tk, os⟩ _ h1 q
    wp_walk using q1
    refine wpAny_stack_any fun st => wpAny_pure ?_
    split
    · rename_i c _ _ _ _ _
      cases (c == Value.type "enumerate") <;> (wp_walk using q1; exact ⟨_, rfl, h⟩)
    · wp_walk using q1
      exact ⟨_, rfl, h⟩
section
variable {prog : Program} {w : World} {A : Around} {E : Value → Shared → Prop} {s : Shared}
theorem enum_one {v : Value} {o : Obj} {H : Heap → Prop} {Q : Value → Shared → Prop} (B : Begins v o H) (h1 : H s.heap)
    (h : ∀ h', IsEnum h' (s.heap.objs.size + 1) s.heap.objs.size 0 .none → h'.get? s.heap.objs.size = some o → (∀ b ob, s.heap.get? b = some ob → h'.get? b = some ob) → Q (.ref (s.heap.objs.size + 1)) { s with heap := h' }) :
    wpAny (model prog w) A (call (.type "enumerate") [v]) Q E s := by
  refine callType_new F.called_enumerate (by decide) (F.typeCall_enumerate_1 _) (F.newCall_enumerate_1 _) (fun obj => F.args_object_init_2 obj _) F.entry_enumerate_new (meets_enum1 B) ⟨h1, ?_⟩
  have hz : (s.heap.push o).objs.size = s.heap.objs.size + 1 := Heap.size_push ..
  show _ ∧ _
  rw [hz]
  have he : IsEnum ((s.heap.push o).push { cls := .type "enumerate", data := .fields #[.none, .bool false, .ref s.heap.objs.size, rawInt 0, .none, .none] }) (s.heap.objs.size + 1) s.heap.objs.size 0 .none := by
    have := Heap.get?_push_size (s.heap.push o) (o := { cls := .type "enumerate", data := .fields #[.none, .bool false, .ref s.heap.objs.size, rawInt 0, .none, .none] }) rfl
    rw [hz] at this; exact this
  exact ⟨⟨_, he, rfl⟩, h _ he (Heap.get?_push_of_some _ (Heap.get?_push_size _ B.free)) fun b ob x => Heap.get?_push_of_some _ (Heap.get?_push_of_some _ x)⟩
end

/-- an iterator over known values: what it draws at turn i -/
structure Src (P : Program) (w : World) (K : PySem.W.Frag) (it : Addr) (go : Nat → Hp → Prop) (at_ : Nat → Hp → V → Prop) (stop : Nat → Hp → Prop) (tn : Nat → Heap → Prop) : Prop where
  draws : ∀ (X : Cx), X.prog = P → X.w = w → X.K = K → X.calm = true → ∀ (pins : List (Addr × Obj)) (s : Shared) (σ : L2.St) (H : Hp) (i : Nat), Inv X pins σ H s → H it = none → (go i H ∨ stop i H) → tn i s.heap →
    ∃ (fp : List Addr) (n : Nat) (Pv : Nat → Value → Prop) (St : Nat → Heap → Prop), Draws P w X.A.in1 it fp n Pv St ∧ St i s.heap ∧ (go i H → i < n ∧ ∀ u, Pv i u → ∃ x, RelV x u ∧ at_ i H x) ∧ (stop i H → i = n) ∧ (∀ j h, St j h → tn j h) ∧
      ∀ b ∈ fp, b = it ∨ (∃ o, s.heap.get? b = some o ∧ o.cls ≠ .type "enumerate")
  obj : ∀ i h, tn i h → ∃ o, h.get? it = some o ∧ o.cls ≠ .type "enumerate" ∧ ∀ v, o.data ≠ .cell v
  keep : ∀ i h h', tn i h → (∀ o, h.get? it = some o → h'.get? it = some o) → tn i h'
def Iten (k0 : Int) (go : Nat → Hp → Prop) (at_ : Nat → Hp → V → Prop) (stop : Nat → Hp → Prop) : It :=
  ⟨go, fun i H v H' => ∃ T x, v = .ref T ∧ H T = none ∧ H' = upd H T (.tup [.int (k0 + (i : Nat)), x]) ∧ at_ i H x, stop⟩
theorem turn_en {P : Program} {w : World} {K : PySem.W.Frag} {elts : List Expr} {kk : Nat} {tpos : Pos} {k0 : Int} {e it : Addr} {go : Nat → Hp → Prop} {at_ : Nat → Hp → V → Prop} {stop : Nat → Hp → Prop} {tn : Nat → Heap → Prop}
    (S : Src P w K it go at_ stop tn) : Turn P w K (.Tuple elts kk tpos) (Iten k0 go at_ stop) [e, it] e (fun i h => (∃ old, IsEnum h e it (k0 + ((i : Nat) : Int)) old) ∧ tn i h ∧ e ≠ it) where
  mem := by simp
  obj := fun i h st b hb => by
    obtain ⟨⟨old, he⟩, ht, _⟩ := st
    rcases List.mem_cons.mp hb with z | z
    · exact ⟨_, by rw [z]; exact he, fun v q => by cases q⟩
    · obtain ⟨o, ho, _, hd⟩ := S.obj i h ht
      exact ⟨o, by rw [List.mem_singleton.mp z]; exact ho, hd⟩
  keep := fun i h h' st k => by
    obtain ⟨⟨old, he⟩, ht, hne⟩ := st
    exact ⟨⟨old, k e (by simp) _ he⟩, S.keep _ _ _ ht fun o q => k it (by simp) o q, hne⟩
  item := by
    intro X hP hw hK hc i pins s σ H E I hf st hg
    subst hP hw hK
    obtain ⟨⟨old, he⟩, ht, hne⟩ := st
    have hg : go i H := hg
    obtain ⟨fp, n, Pv, St, Dr, hst, hgo, _, hSt, hfp⟩ := S.draws X rfl rfl rfl hc pins s σ H i I (hf it (by simp)).1 (.inl hg) ht
    obtain ⟨hin, hat⟩ := hgo hg
    have hef : e ∉ fp := fun z => by
      rcases hfp e z with q | ⟨o, q1, q2⟩
      · exact hne q
      · rw [he] at q1; cases q1; exact q2 rfl
    have hel : e < s.heap.objs.size := Heap.lt_size he
    have hil : it < s.heap.objs.size := by obtain ⟨o, q, _⟩ := S.obj i _ ht; exact Heap.lt_size q
    refine wpAny_pyNext_enum_itemC Dr he hst hin hne hef fun u h' tk hPv ho hs' hT hsz hk => ?_
    obtain ⟨x, rx, ax⟩ := hat u hPv
    refine ⟨_, rfl, wpAny_letOwnedTupleGo_enum (s := { s with heap := h', toks := tk + 1 }) ho fun h2 he' sb => ?_⟩
    have hT2 : h2.get? s.heap.objs.size = some { cls := .type "tuple", data := .seq #[.int (k0 + (i : Int)) tk, u] } := (sb.2 _ (Nat.ne_of_gt hel)).trans hT
    have new : ObjOk X.prog X.w (upd H s.heap.objs.size (.tup [.int (k0 + (i : Nat)), x])) h2 s.heap.objs.size (.tup [.int (k0 + (i : Nat)), x]) :=
      ⟨by show 2 ≤ sizeLine; decide, [.int (k0 + (i : Int)) tk, u], .cons ⟨_, rfl⟩ (.cons rx .nil), ⟨_, hT2, rfl, _, rfl⟩⟩
    have I1 : Inv X pins σ (upd H s.heap.objs.size (.tup [.int (k0 + (i : Nat)), x])) { s with heap := h2, toks := tk + 1 } :=
      I.turnedNew (ch := [e, it]) (fun b ob hb q => (sb.2 b (fun z => hb (by simp [z]))).trans (hk b ob (fun z => hb (by simp [z])) (fun z => hb (by simp [z])) q)) hf (Nat.le_refl _) new
    refine ⟨.ref s.heap.objs.size, _, I1, rfl, ⟨_, x, rfl, I.hok.fresh (Nat.le_refl _), rfl, ax⟩, ⟨⟨u, ?_⟩, ?_, hne⟩, fun b hb => ?_⟩
    · have e1 : k0 + ((i + 1 : Nat) : Int) = k0 + (i : Int) + 1 := by omega
      rw [e1]; exact he'
    · exact S.keep _ _ _ (hSt _ _ hs') fun o q => (sb.2 it (Ne.symm hne)).trans q
    · have hb' : b < s.heap.objs.size := by
        rcases List.mem_cons.mp hb with z | z
        · rw [z]; exact hel
        · rw [List.mem_singleton.mp z]; exact hil
      rw [upd_ne (Nat.ne_of_lt hb')]
      exact (hf b hb).1
  done := by
    intro X hP hw hK hc i pins s σ H E I hf st hg
    subst hP hw hK
    obtain ⟨⟨old, he⟩, ht, hne⟩ := st
    have hg : stop i H := hg
    obtain ⟨fp, n, Pv, St, Dr, hst, _, hstop, _, _⟩ := S.draws X rfl rfl rfl hc pins s σ H i I (hf it (by simp)).1 (.inr hg) ht
    have hn := hstop hg
    subst hn
    obtain ⟨f0, f1, f2, f3, f4, f5⟩ := hf it (by simp)
    exact wpAny_pyNext_enum_endD Dr he hst fun h' eb => ⟨rfl, I.turned (t' := s.toks) (fun b o hb q => eb b o hb q) f0 f1 f3 f4 f5⟩
  self := fun A i s Q E st h => let ⟨⟨_, he⟩, _⟩ := st; wpAny_pyIter_enum he h

theorem src_tup {P : Program} {w : World} {K : PySem.W.Frag} (a it : Addr) : Src P w K it (fun i H => ∃ xs x, SqT K H a xs ∧ xs[i]? = some x) (fun i H x => ∀ xs, SqT K H a xs → xs[i]? = some x) (fun i H => ∃ xs, SqT K H a xs ∧ xs.length = i)
    (fun i h => h.IsTupleIter it a i) where
  draws := by
    intro X hP hw hK hc pins s σ H i I hn hor ht
    subst hP hw hK
    obtain ⟨xs, hq⟩ : ∃ xs, SqT X.K H a xs := by rcases hor with ⟨xs, _, h, _⟩ | ⟨xs, h, _⟩ <;> exact ⟨xs, h⟩
    obtain ⟨its, rv, p, hz⟩ := I.tuple hq
    have p' : s.heap.IsTuple a its.toArray := p
    have hne : a ≠ it := fun z => by
      obtain ⟨o, e1, c1, _⟩ := p'
      obtain ⟨o2, e2, c2, _⟩ := id ht
      rw [z, e2] at e1; cases e1
      rw [c2] at c1; exact absurd c1 (by decide)
    refine ⟨[it, a], _, _, _, Draws.tuple (A := X.A.in1) (I.ok.hd hc) it a hne its.toArray, ⟨ht, p'⟩, fun hg => ?_, fun hg => ?_, fun j h z => z.1, fun b hb => ?_⟩
    · obtain ⟨ys, x, hy, hx⟩ := hg
      have e := I.tuple_inj hy hq
      subst e
      obtain ⟨u, hu, ru⟩ := rv.get hx
      refine ⟨by simpa using (List.getElem?_eq_some_iff.mp hu).1, fun u' hu' => ⟨x, ?_, fun zs hzs => by rw [I.tuple_inj hzs hq]; exact hx⟩⟩
      have hu' : its[i]? = some u' := by simpa using hu'
      rw [hu] at hu'; cases hu'; exact ru
    · obtain ⟨ys, hy, hl⟩ := hg
      have e := I.tuple_inj hy hq
      subst e
      have := rv.length
      simp; omega
    · rcases List.mem_cons.mp hb with z | z
      · exact .inl z
      · obtain ⟨o, e1, c1, _⟩ := p'
        exact .inr ⟨o, by rw [List.mem_singleton.mp z]; exact e1, by rw [c1]; decide⟩
  obj := fun i h ht => by
    obtain ⟨o, e, c, d⟩ := ht
    exact ⟨o, e, by rw [c]; decide, fun v z => by rw [d] at z; cases z⟩
  keep := fun i h h' ht k => ht.at fun o e => k o e
theorem src_lst {P : Program} {w : World} {K : PySem.W.Frag} (a it : Addr) : Src P w K it (fun i H => ∃ xs x, SqL K H a xs ∧ xs[i]? = some x) (fun i H x => ∀ xs, SqL K H a xs → xs[i]? = some x) (fun i H => ∃ xs, SqL K H a xs ∧ xs.length = i)
    (fun i h => h.IsListIter it a i) where
  draws := by
    intro X hP hw hK hc pins s σ H i I hn hor ht
    subst hP hw hK
    obtain ⟨xs, hq⟩ : ∃ xs, SqL X.K H a xs := by rcases hor with ⟨xs, _, h, _⟩ | ⟨xs, h, _⟩ <;> exact ⟨xs, h⟩
    obtain ⟨its, rv, p, hz⟩ := I.list hq
    have p' : s.heap.IsList a its.toArray := p.isList
    have hne : a ≠ it := fun z => by
      obtain ⟨o, e1, c1, _⟩ := p'
      obtain ⟨o2, e2, c2, _⟩ := id ht
      rw [z, e2] at e1; cases e1
      rw [c2] at c1; exact absurd c1 (by decide)
    refine ⟨[it, a], _, _, _, Draws.list (A := X.A.in1) (I.ok.hd hc) it a hne its.toArray, ⟨ht, p'⟩, fun hg => ?_, fun hg => ?_, fun j h z => z.1, fun b hb => ?_⟩
    · obtain ⟨ys, x, hy, hx⟩ := hg
      have e := I.list_inj hy hq
      subst e
      obtain ⟨u, hu, ru⟩ := rv.get hx
      refine ⟨by simpa using (List.getElem?_eq_some_iff.mp hu).1, fun u' hu' => ⟨x, ?_, fun zs hzs => by rw [I.list_inj hzs hq]; exact hx⟩⟩
      have hu' : its[i]? = some u' := by simpa using hu'
      rw [hu] at hu'; cases hu'; exact ru
    · obtain ⟨ys, hy, hl⟩ := hg
      have e := I.list_inj hy hq
      subst e
      have := rv.length
      simp; omega
    · rcases List.mem_cons.mp hb with z | z
      · exact .inl z
      · obtain ⟨o, e1, c1, _⟩ := p'
        exact .inr ⟨o, by rw [List.mem_singleton.mp z]; exact e1, by rw [c1]; decide⟩
  obj := fun i h ht => by
    obtain ⟨o, e, c, d⟩ := ht
    exact ⟨o, e, by rw [c]; decide, fun v z => by rw [d] at z; cases z⟩
  keep := fun i h h' ht k => ht.at fun o e => k o e
def goT (K : PySem.W.Frag) (a : Addr) : Nat → Hp → Prop := fun i H => ∃ xs x, SqT K H a xs ∧ xs[i]? = some x
def atT (K : PySem.W.Frag) (a : Addr) : Nat → Hp → V → Prop := fun i H x => ∀ xs, SqT K H a xs → xs[i]? = some x
def stT (K : PySem.W.Frag) (a : Addr) : Nat → Hp → Prop := fun i H => ∃ xs, SqT K H a xs ∧ xs.length = i
def goL (K : PySem.W.Frag) (a : Addr) : Nat → Hp → Prop := fun i H => ∃ xs x, SqL K H a xs ∧ xs[i]? = some x
def atL (K : PySem.W.Frag) (a : Addr) : Nat → Hp → V → Prop := fun i H x => ∀ xs, SqL K H a xs → xs[i]? = some x
def stL (K : PySem.W.Frag) (a : Addr) : Nat → Hp → Prop := fun i H => ∃ xs, SqL K H a xs ∧ xs.length = i
section
variable {X : Cx} {G : GC}
theorem enum_it {pins : List (Addr × Obj)} {σ : L2.St} {H : Hp} {s : Shared} {Q : It → Hp → Prop} {E : Value → Shared → Prop} {elts : List Expr} {kk : Nat} {tpos : Pos} {u : Value} {o : Obj} {Hh : Heap → Prop} {go : Nat → Hp → Prop} {at_ : Nat → Hp → V → Prop} {stop : Nat → Hp → Prop} {tn : Nat → Heap → Prop}
    (I : Inv X pins σ H s) (B : Begins u o Hh) (h1 : Hh s.heap) (S : Src X.prog X.w X.K s.heap.objs.size go at_ stop tn) (t0 : ∀ h : Heap, h.get? s.heap.objs.size = some o → tn 0 h) (q : Q (Iten 0 go at_ stop) H) :
    wpAny (model X.prog X.w) X.A (call (.type "enumerate") [u]) (fun v s1 => wpAny (model X.prog X.w) X.A (pyIter v) (PIE X pins σ (.Tuple elts kk tpos) Q) E s1) E s := by
  refine enum_one B h1 fun h' he ho hk => wpAny_pyIter_enum he ?_
  have I2 : Inv X pins σ H { s with heap := h' } := I.kept (t' := s.toks) hk
  refine ⟨s.heap.objs.size + 1, [s.heap.objs.size + 1, s.heap.objs.size], _, _, H, rfl, I2, turn_en (k0 := 0) S, ⟨⟨.none, by simpa using he⟩, t0 _ ho, Nat.succ_ne_self _⟩, fun b hb => ?_, q⟩
  have hle : s.heap.objs.size ≤ b := by
    rcases List.mem_cons.mp hb with z | z
    · rw [z]; exact Nat.le_add_right _ _
    · rw [List.mem_singleton.mp z]; exact Nat.le_refl _
  exact I.fpOk hle (I.hok.fresh hle)
def iEnumA (K : PySem.W.Frag) (ta : TA) : TI := fun σ H Q => ta σ H fun vs H1 => ∃ a, vs = [.ref a] ∧ ((∃ xs, SqL K H1 a xs ∧ Q (Iten 0 (goL K a) (atL K a) (stL K a)) H1) ∨ ∃ xs, SqT K H1 a xs ∧ Q (Iten 0 (goT K a) (atT K a) (stT K a)) H1)
theorem pi_enumA {e : Expr} {ta : TA} {p pos tpos : Pos} {elts : List Expr} {kk : Nat} (hg : Gl X "enumerate") (hm : X.mg "enumerate" = none) (ha : PA X [e] ta) (hs : starEach [e] X.env = [(false, eval e X.env)]) :
    PI X (.Tuple elts kk tpos) (.Call (.Name "enumerate" p) [e] [] pos) (iEnumA X.K ta) := by
  refine ⟨fun pins s σ H Q I h => ?_⟩
  refine PyProof.Rows.Call_ (ld_blt I hg hm PyProof.Rows.boot_enumerate (PyProof.Rows.callWith_type1 (thn (ha.run pos pins s σ H _ I h) ?_) hs rfl))
  rintro us s1 ⟨vs, H1, I1, r1, a, rfl, (⟨xs, hq, q⟩ | ⟨xs, hq, q⟩)⟩
  · rw [r1.ref1]
    obtain ⟨its, _, pl, _⟩ := I1.list hq
    exact enum_it I1 (begins_list a its.toArray) pl.isList (src_lst a _) (fun h e => ⟨_, e, rfl, rfl⟩) q
  · rw [r1.ref1]
    obtain ⟨its, _, pl, _⟩ := I1.tuple hq
    exact enum_it I1 (begins_tuple a its.toArray) (show s1.heap.IsTuple a its.toArray from pl) (src_tup a _) (fun h e => ⟨_, e, rfl, rfl⟩) q
def enumD (k : Int) : List D → List D
  | [] => []
  | d :: r => .tup [.int k, d] :: enumD (k + 1) r
theorem enumD_get : ∀ (xs : List D) (k : Int) (i : Nat) (d : D), (enumD k xs)[i]? = some d → ∃ x, xs[i]? = some x ∧ d = .tup [.int (k + (i : Nat)), x]
  | [], _, _, _, h => by simp [enumD] at h
  | x :: xs, k, 0, d, h => by
    simp [enumD] at h; subst h
    exact ⟨x, rfl, by simp⟩
  | x :: xs, k, i + 1, d, h => by
    have h : (enumD (k + 1) xs)[i]? = some d := by simpa [enumD] using h
    obtain ⟨y, e1, e2⟩ := enumD_get xs (k + 1) i d h
    refine ⟨y, by simpa using e1, ?_⟩
    rw [e2]
    have : k + 1 + (i : Int) = k + ((i + 1 : Nat) : Int) := by omega
    rw [this]
theorem enumD_length : ∀ (xs : List D) (k : Int), (enumD k xs).length = xs.length
  | [], _ => rfl
  | x :: xs, k => by rw [enumD, List.length_cons, List.length_cons, enumD_length]
theorem rdat_pair {H : Hp} {al : List Addr} {T : Addr} {x : V} {d : D} {i : Int} (h : RDat G.K H al d x) (hT : H T = none) : RDat G.K (upd H T (.tup [.int i, x])) al (.tup [.int i, d]) (.ref T) :=
  RDat.tup_of (SqT.of upd_same) (RDats.cons (by rw [RDat]) (RDats.cons (h.mono (KeepH.new hT) (List.prefix_refl _)) RDats.nil))
theorem itr_enT {H : Hp} {al : List Addr} {a : Addr} {vs : List V} {xs : List D} (s1 : SqT G.K H a vs) (l1 : RDats G.K H al xs vs) : ItR G H al (Iten 0 (goT G.K a) (atT G.K a) (stT G.K a)) ⟨enumD 0 xs, fun _ => True⟩ := by
  intro i H' al' M' n _
  refine ⟨fun d hd => ?_, fun hl => ?_⟩
  · obtain ⟨x, e1, rfl⟩ := enumD_get _ _ _ _ hd
    obtain ⟨v, e2, e3⟩ := l1.get e1
    refine ⟨⟨vs, v, n.k.sqT s1, e2⟩, fun y H2 hy => ?_⟩
    obtain ⟨T, x', rfl, hT, rfl, q⟩ := hy
    have q := q vs (n.k.sqT s1)
    rw [e2] at q; cases q
    exact ⟨n.m.tup hT, rdat_pair (e3.mono n.k n.p) hT⟩
  · rw [enumD_length] at hl
    exact ⟨vs, n.k.sqT s1, by rw [← l1.length]; exact hl⟩
theorem itr_enL {H0 : Hp} {al0 : List Addr} {n : Nat} {a : Addr} {xs : List D} (ha : al0[n]? = some a) : ItR G H0 al0 (Iten 0 (goL G.K a) (atL G.K a) (stL G.K a)) ⟨enumD 0 xs, fun M => lstAt M n = some xs⟩ := by
  intro i H' al' M' nx ok
  have ok : lstAt M' n = some xs := ok
  have rd : RDat G.K H' al' (.ref n) (.ref a) := by rw [RDat]; exact ⟨a, pfx_get nx.p ha, rfl⟩
  obtain ⟨b, vs, e0, s1, l1⟩ := nx.m.seq rd ok
  cases e0
  refine ⟨fun d hd => ?_, fun hl => ?_⟩
  · obtain ⟨x, e1, rfl⟩ := enumD_get _ _ _ _ hd
    obtain ⟨v, e2, e3⟩ := l1.get e1
    refine ⟨⟨vs, v, s1, e2⟩, fun y H2 hy => ?_⟩
    obtain ⟨T, x', rfl, hT, rfl, q⟩ := hy
    have q := q vs s1
    rw [e2] at q; cases q
    exact ⟨nx.m.tup hT, rdat_pair e3 hT⟩
  · rw [enumD_length] at hl
    exact ⟨vs, s1, by rw [← l1.length]; exact hl⟩
def iEnum1 (ta : SA) : SI := fun Ex ρ M R => ta Ex ρ M fun ds M1 => match ds with
  | [.tup xs] => R ⟨enumD 0 xs, fun _ => True⟩ M1
  | [.ref n] => match lstAt M1 n with | some xs => R ⟨enumD 0 xs, fun M => lstAt M n = some xs⟩ M1 | none => False
  | _ => False
theorem mi_enum {a : Expr} {ta : SA} {p pos tpos : Pos} {elts : List Expr} {kk : Nat} (hK : X.K = G.K) (hg : Gl X "enumerate") (hm : X.mg "enumerate" = none) (ha : MA X G [a] ta) (hs : starEach [a] X.env = [(false, eval a X.env)]) :
    MI X G (.Tuple elts kk tpos) (.Call (.Name "enumerate" p) [a] [] pos) (iEnum1 ta) := by
  refine fun W tk => PI.imp (pi_enumA hg hm (ha W tk) hs) fun σ H Q h => ?_
  obtain ⟨ρ, al, M, Ex, R, r, t, c, xc⟩ := h
  refine ⟨ρ, al, M, Ex, _, r, t, fun H1 al1 M1 vs ds n1 r1 l1 h1 => ?_, xc⟩
  rcases ds with _ | ⟨d, _ | ⟨e, t⟩⟩
  · exact (h1 : False).elim
  · obtain ⟨v, rfl, r2⟩ := rd1 r1
    cases d with
    | tup xs =>
      rw [RDat] at r2
      obtain ⟨b, ws, rfl, s1, l2⟩ := r2
      exact ⟨b, rfl, .inr ⟨ws, by rw [hK]; exact s1, by rw [hK]; exact c _ _ _ _ _ n1 (itr_enT s1 l2) h1⟩⟩
    | ref n =>
      have h1 : (match lstAt M1 n with | some xs => R ⟨enumD 0 xs, fun M => lstAt M n = some xs⟩ M1 | none => False) := h1
      cases el : lstAt M1 n with
      | none => simp [el] at h1
      | some xs =>
        simp only [el] at h1
        obtain ⟨b, ws, rfl, s1, l2⟩ := n1.m.seq r2 el
        have hb : al1[n]? = some b := by
          rw [RDat] at r2
          obtain ⟨b', e1, e2⟩ := r2
          cases e2; exact e1
        exact ⟨b, rfl, .inl ⟨ws, by rw [hK]; exact s1, by rw [hK]; exact c _ _ _ _ _ n1 (itr_enL hb) h1⟩⟩
    | _ => exact (h1 : False).elim
  · cases d <;> exact (h1 : False).elim
end
end DN

set_option maxHeartbeats 4000000
/-! comprehensions, methods, statements -/
namespace DN
open PySem PySem.Spec L2

/-! ### list comprehensions -/
def wipeD (ρ : Env) : List Nat → Env
  | [] => ρ
  | v :: vs => (wipeD ρ vs).set v none
theorem wipeD_length (ρ : Env) : ∀ vs : List Nat, (wipeD ρ vs).length = ρ.length
  | [] => rfl
  | v :: vs => by unfold wipeD; rw [List.length_set, wipeD_length ρ vs]
theorem wipeD_get : ∀ (vs : List Nat) (ρ : Env) (i : Nat), (wipeD ρ vs)[i]? = if i ∈ vs then (if i < ρ.length then some none else none) else ρ[i]?
  | [], ρ, i => by simp [wipeD]
  | v :: vs, ρ, i => by
    unfold wipeD
    by_cases hv : v = i
    · subst hv
      rw [if_pos (List.mem_cons_self), List.getElem?_set]
      simp [wipeD_length]
    · rw [List.getElem?_set_ne hv, wipeD_get vs ρ i]
      have : (i ∈ v :: vs) ↔ i ∈ vs := by simp [Ne.symm hv]
      simp only [this]
def noX : XC := fun _ _ => False
def lcL (ok : Mem → Prop) (tg : Tg) (tt : SC) (te : SE) (n : Nat) (ρ : Env) : List D → Mem → (Mem → Prop) → Prop
  | [], M, Kn => ok M ∧ Kn M
  | d :: r, M, Kn => ok M ∧ match asgD tg d ρ with
    | some ρ1 => tt noX ρ1 M fun b M2 => match b with
      | true => te noX ρ1 M2 fun y M3 => match mlst M3 n with
        | some acc => acc.length < sizeLine ∧ lcL ok tg tt te n ρ r (M3.set n (.lst (acc ++ [y]))) Kn
        | none => False
      | false => lcL ok tg tt te n ρ r M2 Kn
    | none => False
def eLc (ti : SI) (tg : Tg) (tt : SC) (te : SE) (vs : List Nat) : SE := fun Ex ρ M R => ti Ex ρ M fun it M1 =>
  lcL it.ok tg tt te M1.length (wipeD ρ vs) it.items (M1 ++ [.lst []]) fun M2 => R (.ref M1.length) M2
section
variable {X : Cx} {G : GC}
def MTs (X : Cx) (G : GC) (ifs : List Expr) (t : SC) : Prop := ∀ W, Takes X W → PTs X ifs (LC G W t)
theorem PTs.imp {X : Cx} {ifs : List Expr} {t t' : TT} (h : PTs X ifs t) (i : ∀ σ H Q, t' σ H Q → t σ H Q) : PTs X ifs t' := ⟨fun pins s σ H Q I w => h.run pins s σ H Q I (i σ H Q w)⟩
def cYes : SC := fun _ _ M R => R true M
theorem mts_nil : MTs X G [] cYes := by
  refine fun W tk => PTs.imp pts_nil fun σ H Q h => ?_
  obtain ⟨ρ, al, M, Ex, R, r, t, c, xc⟩ := h
  exact c _ _ _ _ r.m.go t
theorem mts_one {c : Expr} {t : SC} (h : MC X G c t) : MTs X G [c] t := fun W tk => pts_one (h W tk)
abbrev W0 : WX := fun _ _ _ _ => False
theorem xcl0 {H : Hp} {al : List Addr} {σ : L2.St} : XCl G W0 H al noX σ := fun _ _ _ _ _ _ _ _ e => (e : False)
theorem REnv.wipe {H : Hp} {al : List Addr} {σ : L2.St} {ρ : Env} (r : REnv G H al σ ρ) (vs : List Nat) : REnv G H al (L2.wipe σ vs) (wipeD ρ vs) := by
  refine ⟨by rw [wipe_length, wipeD_length]; exact r.1, fun i d h => ?_⟩
  rw [wipeD_get] at h
  rw [wipe_get]
  by_cases hi : i ∈ vs
  · rw [if_pos hi] at h
    split at h <;> cases h
  · rw [if_neg hi] at h ⊢
    exact r.2 i d h
theorem XOk.wipe {H : Hp} {al : List Addr} {σ : L2.St} {vs : List Nat} (x : XOk G H al σ) (hx : NoX G vs) : XOk G H al (L2.wipe σ vs) := by
  unfold XOk at x ⊢
  cases e : G.xn with
  | none => trivial
  | some n =>
    rw [e] at x
    refine ⟨x.1, ?_⟩
    rw [wipe_get, if_neg (hx n e)]
    exact x.2
theorem me_lc {elt tg iter : Expr} {ifs : List Expr} {scope : Scope} {own : List (Str × Nat)} {pos : Pos} {ti : SI} {t : Tg} {tt : SC} {te : SE} (hc : X.calm = true) (hN : X.N.Nodup) (hi : MI X G tg iter ti) (ok : BlkOk X.N X.env.scope scope own)
    (hg : ∀ (s : Shared) (H : Hp) (C : Addr) (cl : List (Str × Addr)) (fp : List Addr), MG (X.blk s H scope (compEnvC scope cl C X.env) fp) G tg t) (ht : ∀ (s : Shared) (H : Hp) (C : Addr) (cl : List (Str × Addr)) (fp : List Addr), MTs (X.blk s H scope (compEnvC scope cl C X.env) fp) G ifs tt)
    (he : ∀ (s : Shared) (H : Hp) (C : Addr) (cl : List (Str × Addr)) (fp : List Addr), ME (X.blk s H scope (compEnvC scope cl C X.env) fp) G elt te) (hs : ∀ x, foldedSetIterable iter X.env x = pure x)
    (hsl : ∀ i ∈ slotsT t, i ∈ own.map (·.2)) (hx : NoX G (own.map (·.2))) : ME X G (.ListComp elt [⟨tg, iter, ifs, 0⟩] scope pos) (eLc ti t tt te (own.map (·.2))) := by
  intro W tk
  have tk0 : ∀ s H C cl fp, Takes (X.blk s H scope (compEnvC scope cl C X.env) fp) W0 := fun s H C cl fp => takes0
  refine PE.imp (pe_lc hc hN (hi W tk) ok hg (fun s H C cl fp => ht s H C cl fp W0 (tk0 s H C cl fp)) (fun s H C cl fp => he s H C cl fp W0 (tk0 s H C cl fp)) hs) fun σ H Q h => ?_
  obtain ⟨ρ, al, M, Ex, R, r, h, c, xc⟩ := h
  refine ⟨ρ, al, M, Ex, _, r, h, fun H1 al1 M1 J it n1 itr h1 => ?_, xc⟩
  intro D hD
  have h1 : lcL it.ok t tt te M1.length (wipeD ρ (own.map (·.2))) it.items (M1 ++ [.lst []]) (fun M2 => R (.ref M1.length) M2) := h1
  have n2 := n1.m.new (o := .lst []) (u := .lst []) hD ⟨[], rfl, RDats.nil⟩
  have hD2 : (al1 ++ [D])[M1.length]? = some D := by
    rw [← n1.m.len, List.getElem?_append_right (Nat.le_refl _), Nat.sub_self]; rfl
  let Wi : Nat → Nat → Hp → Prop := fun i m H' => m = it.items.length - i ∧ i ≤ it.items.length ∧ ∃ al' M', Nxt G (upd H1 D (.lst [])) (al1 ++ [D]) H' al' M' ∧
    lcL it.ok t tt te M1.length (wipeD ρ (own.map (·.2))) (it.items.drop i) M' (fun M2 => R (.ref M1.length) M2)
  refine ⟨Wi, ⟨it.items.length, by simp, Nat.zero_le _, _, _, n2.m.go, by simpa using h1⟩, ?_⟩
  rintro i m H' ⟨rfl, hi, al', M', n3, hl⟩
  have n13 := n2.trans n3
  by_cases hlt : i < it.items.length
  · have ed : it.items.drop i = it.items[i] :: it.items.drop (i + 1) := List.drop_eq_getElem_cons hlt
    rw [ed] at hl
    obtain ⟨hok, hl⟩ := (hl : _ ∧ _)
    obtain ⟨hgo, _⟩ := itr i H' al' M' n13 hok
    obtain ⟨go, hy⟩ := hgo _ (List.getElem?_eq_getElem hlt)
    refine .inr ⟨go, fun H2 => Wi (i + 1) (it.items.length - (i + 1)) H2, fun H2 w => ⟨_, by omega, w⟩, fun x H2 hyx => ?_⟩
    obtain ⟨n4, rx⟩ := hy x H2 hyx
    cases ea : asgD t it.items[i] (wipeD ρ (own.map (·.2))) with
    | none => rw [ea] at hl; exact hl.elim
    | some ρ1 =>
      rw [ea] at hl
      have n14 := n13.trans n4
      have rw0 : RSt G H2 al' M' (L2.wipe σ (own.map (·.2))) (wipeD ρ (own.map (·.2))) :=
        ⟨n4.m, (r.e.mono (n1.k.trans n14.k) (n1.p.trans n14.p)).wipe _, (r.x.mono (n1.k.trans n14.k) (n1.p.trans n14.p)).wipe hx⟩
      refine ⟨_, al', M', _, ρ1, rw0, rx, ea, fun σ2 r2 o2 => ⟨?_, ρ1, al', M', noX, _, r2, hl, fun H5 al5 M5 b n5 h5 => ?_, xcl0⟩⟩
      · rw [o2.wipe hsl]
        apply List.ext_getElem?
        intro j
        rw [wipe_get, wipe_get, wipe_length]
        by_cases hj : j ∈ own.map (·.2)
        · rw [if_pos hj, if_pos hj]
        · rw [if_neg hj, if_neg hj]
      · have n15 := n3.trans (n4.trans n5)
        cases b with
        | false =>
          exact iteF ⟨rfl, hlt, al5, M5, n15, h5⟩
        | true =>
          refine iteT ?_
          refine ⟨ρ1, al5, M5, noX, _, r2.go n5, h5, fun H6 al6 M6 y d n6 r6 h6 => ?_, xcl0⟩
          have n16 := n15.trans n6
          cases em : mlst M6 M1.length with
          | none => simp only [em] at h6
          | some acc =>
            simp only [em] at h6
            obtain ⟨hz, h6⟩ := (h6 : _ ∧ _)
            have hD6 : al6[M1.length]? = some D := pfx_get n16.p hD2
            obtain ⟨a, vs, ev, ea6, eH, l6⟩ := n16.m.lst (v := .ref D) (by rw [RDat]; exact ⟨D, hD6, rfl⟩) (mlst_lst em)
            cases ev
            refine ⟨vs, eH, by rw [← l6.length]; exact hz, rfl, hlt, al6, _, n16.trans (n16.m.wr (o := .lst (acc ++ [d])) (u := .lst (vs ++ [y])) hD6 eH rfl ⟨_, rfl, l6.append (RDats.cons r6 RDats.nil)⟩), h6⟩
  · have ei : i = it.items.length := by omega
    subst ei
    rw [List.drop_length] at hl
    obtain ⟨hok, hl⟩ := (hl : _ ∧ _)
    obtain ⟨_, hst⟩ := itr _ H' al' M' n13 hok
    refine .inl ⟨hst rfl, c _ _ _ _ _ (n1.trans n13) ?_ hl⟩
    rw [RDat]
    exact ⟨D, pfx_get n3.p hD2, rfl⟩

/-! ### methods of built-in types -/
def rcv (T : String) (d : D) (M : Mem) : Prop := match d with
  | .str _ => T = "str"
  | .ref n => match M[n]? with
    | some (.lst _) => T = "list"
    | some (.fro _) => T = "list"
    | some (.dK _) => T = "dict"
    | _ => False
  | _ => False
theorem rcv_ok {H : Hp} {al : List Addr} {M : Mem} {d : D} {v : V} {T : String} (m : RMem G H al M) (r : RDat G.K H al d v) (h : rcv T d M) : tyV G.K T v H := by
  cases d with
  | str x => rw [RDat] at r; subst r; exact h
  | ref n =>
    have h : (match M[n]? with | some (.lst _) => T = "list" | some (.fro _) => T = "list" | some (.dK _) => T = "dict" | _ => False) := h
    cases e : M[n]? with
    | none => simp [e] at h
    | some o =>
      cases o with
      | lst xs =>
        simp only [e] at h
        obtain ⟨a, vs, rfl, _, e2, _⟩ := m.lst r e
        exact .inl ⟨h, vs, SqL.of e2⟩
      | fro xs =>
        simp only [e] at h
        obtain ⟨a, vs, rfl, e2, _⟩ := m.fro r e
        exact .inl ⟨h, vs, e2⟩
      | dK kvs =>
        simp only [e] at h
        rw [RDat] at r
        obtain ⟨a, ea, rfl⟩ := r
        obtain ⟨b, u, e1, e2, ws, e3, q⟩ := m.at_ n _ e
        rw [ea] at e1; cases e1; subst e3
        exact .inr (.inr (.inl ⟨h, .inl ⟨ws, e2⟩⟩))
      | ins _ _ => simp [e] at h
  | _ => exact (h : False).elim
def eBm (T : String) (g : OpM) (to : SE) (tt : SA) : SE := fun Ex ρ M R => to Ex ρ M fun d M1 => rcv T d M1 ∧ tt Ex ρ M1 fun ds M2 => g d ds M2 R
variable {o a : Expr} {es : List Expr} {to : SE} {tt : SA} {name : Str} {apos cpos : Pos} {T id : String} {g : OpM}
theorem me_bm0 (hK : X.K = G.K) (pa : PlainAttrs T) (slot : Slot T name id) (hty : typeOf (.builtin id) = pure (.type "method_descriptor")) (hm : MtR X id (LMt G g)) (ho : ME X G o to)
    (hbase : attributeBase o name X.env (eval o X.env) = eval o X.env) (hline : (apos.endLine == cpos.line) = true) : ME X G (.Call (.Attribute o name apos) [] [] cpos) (eBm T g to aNil) := by
  refine fun W tk => PE.imp (pe_bm0 pa slot hty hm (ho W tk) hbase hline) fun σ H Q h => ?_
  obtain ⟨ρ, al, M, Ex, R, r, h, c, xc⟩ := h
  refine ⟨ρ, al, M, Ex, _, r, h, fun H1 al1 M1 v d n1 r1 h1 => ?_, xc⟩
  obtain ⟨h1, h2⟩ := (h1 : _ ∧ _)
  exact ⟨by rw [hK]; exact rcv_ok n1.m r1 h1, al1, M1, d, [], R, n1.m, r1, RDats.nil, h2, c.nxt n1⟩
theorem me_bm (hK : X.K = G.K) (pa : PlainAttrs T) (slot : Slot T name id) (hty : typeOf (.builtin id) = pure (.type "method_descriptor")) (hm : MtR X id (LMt G g)) (ho : ME X G o to) (ha : MA X G (a :: es) tt)
    (hbase : attributeBase o name X.env (eval o X.env) = eval o X.env)
    (hfew : ((backTo cpos (starEach (a :: es) X.env)).all (fun x => !x.1) && (backToKw cpos (keywordEach [] X.env)).all (fun x => x.1.isSome)
      && decide ((a :: es).length + ([] : List Keyword).length + (if ([] : List Keyword).isEmpty then 0 else 1) < 30)) = true)
    (hline : (apos.endLine == cpos.line) = true) (hs : starEach (a :: es) X.env = (false, eval a X.env) :: starEach es X.env) (hplain : (backTo cpos (starEach es X.env)).any (·.1) = false) :
    ME X G (.Call (.Attribute o name apos) (a :: es) [] cpos) (eBm T g to tt) := by
  refine fun W tk => PE.imp (pe_bm pa slot hty hm (ho W tk) (ha W tk) hbase hfew hline hs hplain) fun σ H Q h => ?_
  obtain ⟨ρ, al, M, Ex, R, r, h, c, xc⟩ := h
  refine ⟨ρ, al, M, Ex, _, r, h, fun H1 al1 M1 v d n1 r1 h1 => ?_, xc⟩
  obtain ⟨h1, h2⟩ := (h1 : _ ∧ _)
  exact ⟨by rw [hK]; exact rcv_ok n1.m r1 h1, ρ, al1, M1, Ex, _, r.go n1, h2, fun H2 al2 M2 vs ds n2 r2 l2 h3 => ⟨al2, M2, d, ds, R, n2.m, r1.mono n2.k n2.p, r2, h3, c.nxt (n1.trans n2)⟩, xc.nxt n1⟩

def mAppend : OpM := fun d ds M R => match d, ds with
  | .ref n, [y] => match mlst M n with
    | some xs => xs.length < sizeLine ∧ R .non (M.set n (.lst (xs ++ [y])))
    | none => False
  | _, _ => False
theorem mr_append : MtR X "list.append" (LMt G mAppend) := by
  intro pins s σ H x xs v us Q I rx rs h
  obtain ⟨al, M, d, ds, R, m, r1, r2, g, c⟩ := h
  rcases ds with _ | ⟨y, _ | ⟨z, t⟩⟩
  · cases d <;> exact (g : False).elim
  · cases d with
    | ref n =>
      have g : (match mlst M n with | some xs => xs.length < sizeLine ∧ R .non (M.set n (.lst (xs ++ [y]))) | none => False) := g
      cases e : mlst M n with
      | none => simp [e] at g
      | some ys =>
        simp only [e] at g
        obtain ⟨hz, g⟩ := g
        obtain ⟨a, vs, rfl, ea, e2, l⟩ := m.lst r1 (mlst_lst e)
        obtain ⟨w, rfl, rw1⟩ := rd1 r2
        exact mt_append pins s σ H _ _ v us Q I rx rs ⟨a, vs, w, rfl, rfl, e2, by rw [← l.length]; exact hz, c _ _ _ _ _ (m.wr (o := .lst (ys ++ [y])) (u := .lst (vs ++ [w])) ea e2 rfl ⟨_, rfl, l.append (RDats.cons rw1 RDats.nil)⟩) (by rw [RDat]) g⟩
    | _ => exact (g : False).elim
  · cases d <;> exact (g : False).elim
theorem ext_tup (l : Addr) (items : Array Value) (n : Nat) (b : Addr) (items2 : Array Value) (n2 : Nat) (dd : Option Addr) (sl : Array (Option Value)) (hs0 : ¬(!items.isEmpty && Builtin.List.listTooLong (items.size + items2.size)) = true) (hs1 : items.size ≤ sizeLine) (hs2 : items.size + items2.size ≤ sizeLine + 1) :
    Meets (Builtin.«list.extend» ⟨[.ref l, .ref b], []⟩) (fun _ R s => s.heap.get? l = some { cls := .type "list", dict := none, data := .seq items n, slots := #[] } ∧ s.heap.get? b = some { cls := .type "tuple", dict := dd, data := .seq items2 n2, slots := sl } ∧
      R (.ok (.ret Value.none)) { s with heap := s.heap.update l (Obj.mapSeq fun x => x ++ items2), toks := s.toks }) :=
  .of_wp fun prog w A R s h => by
    obtain ⟨hp, g, d, tk, os⟩ := s
    obtain ⟨hl, hb, h⟩ := h
    have f1 := AutoSeq1.idx_int
    have f2 := AutoSeq1.sub_tuple_tuple
    have f3 := AutoSeq1.sub_list_list
    have f4 := AutoSeq1.sub_tuple_list
    have f5 := AutoSeq1.sub_list_tuple
    have hz' : (items ++ items2).size ≤ sizeLine + 1 := by rw [Array.size_append]; exact hs2
    wp_walk using (wpAny_updateSeq hl rfl (hz := hs1) (_hz' := hz')), AutoSeq1.wpAny_loadPart' hl, AutoSeq1.wpAny_loadPart' hb
    exact ⟨_, rfl, h⟩
def rExtT (K : PySem.W.Frag) : V → List V → Hp → VK → Prop := fun x vs H Q => ∃ l b xs zs, x = .ref l ∧ vs = [.ref b] ∧ H l = some (.lst xs) ∧ SqT K H b zs ∧ xs.length + zs.length ≤ sizeLine ∧ Q .non (upd H l (.lst (xs ++ zs)))
theorem mt_extT : MtR X "list.extend" (rExtT X.K) := by
  intro pins s σ H x vs v us Q I rx rv h
  obtain ⟨l, b, xs, zs, rfl, rfl, hH, hB, hz, q⟩ := h
  cases rx
  obtain ⟨u, rfl, ru⟩ := rv.one
  cases ru
  obtain ⟨z, its, n, r, hl, e⟩ := I.lstM hH
  obtain ⟨its2, r2, ⟨⟨c2, dd, dt, sl⟩, e2, hc2, n2, hd2⟩, hz2⟩ := I.tuple hB
  replace hc2 : c2 = .type "tuple" := hc2
  replace hd2 : dt = .seq its2.toArray n2 := hd2
  subst hc2 hd2
  have hl2 := r2.length
  have hsz : its.toArray.size + its2.toArray.size ≤ sizeLine := by rw [List.size_toArray, List.size_toArray]; omega
  have hlong : ¬ (!its.toArray.isEmpty && Builtin.List.listTooLong (its.toArray.size + its2.toArray.size)) = true := by
    rw [notLongL hsz, Bool.and_false]
    exact Bool.false_ne_true
  refine call_meets F.slot_list_extend ⟨_, e, rfl⟩ F.entry_list_extend (F.args_list_extend_2 _ _)
    (ext_tup l its.toArray n b its2.toArray n2 dd sl hlong (by rw [List.size_toArray]; omega) (by omega)) ⟨e, e2, ?_⟩
  refine ⟨.non, _, I.lset (its' := its ++ its2) hH e (by simp) (r.append r2) ?_, rfl, q⟩
  rw [List.length_append]
  omega
def mExtend : OpM := fun d ds M R => match d, ds with
  | .ref n, [.tup zs] => match mlst M n with
    | some xs => xs.length + zs.length ≤ sizeLine ∧ R .non (M.set n (.lst (xs ++ zs)))
    | none => False
  | .ref n, [.ref k] => match mlst M n, mlst M k with
    | some xs, some zs => xs.length + zs.length ≤ sizeLine ∧ R .non (M.set n (.lst (xs ++ zs)))
    | _, _ => False
  | _, _ => False
theorem mr_extend (hK : X.K = G.K) : MtR X "list.extend" (LMt G mExtend) := by
  intro pins s σ H x xs v us Q I rx rs h
  obtain ⟨al, M, d, ds, R, m, r1, r2, g, c⟩ := h
  rcases ds with _ | ⟨y, _ | ⟨z, t⟩⟩
  · cases d <;> exact (g : False).elim
  · cases d with
    | ref n =>
      obtain ⟨w, rfl, rw1⟩ := rd1 r2
      cases y with
      | tup zs =>
        have g : (match mlst M n with | some xs => xs.length + zs.length ≤ sizeLine ∧ R .non (M.set n (.lst (xs ++ zs))) | none => False) := g
        cases e : mlst M n with
        | none => simp [e] at g
        | some ys =>
          simp only [e] at g
          obtain ⟨hz, g⟩ := g
          obtain ⟨a, vs, rfl, ea, e2, l⟩ := m.lst r1 (mlst_lst e)
          rw [RDat] at rw1
          obtain ⟨b, ws, rfl, sb, lb⟩ := rw1
          exact mt_extT pins s σ H _ _ v us Q I rx rs ⟨a, b, vs, ws, rfl, rfl, e2, by rw [hK]; exact sb, by rw [← l.length, ← lb.length]; exact hz, c _ _ _ _ _ (m.wr (o := .lst (ys ++ zs)) (u := .lst (vs ++ ws)) ea e2 rfl ⟨_, rfl, l.append lb⟩) (by rw [RDat]) g⟩
      | ref k =>
        have g : (match mlst M n, mlst M k with | some xs, some zs => xs.length + zs.length ≤ sizeLine ∧ R .non (M.set n (.lst (xs ++ zs))) | _, _ => False) := g
        cases e : mlst M n with
        | none => simp [e] at g
        | some ys =>
          cases e' : mlst M k with
          | none => simp [e, e'] at g
          | some zs =>
            simp only [e, e'] at g
            obtain ⟨hz, g⟩ := g
            obtain ⟨a, vs, rfl, ea, e2, l⟩ := m.lst r1 (mlst_lst e)
            obtain ⟨b, ws, rfl, eb, e3, lb⟩ := m.lst rw1 (mlst_lst e')
            exact L2.mt_extend pins s σ H _ _ v us Q I rx rs ⟨a, b, vs, ws, rfl, rfl, e2, e3, by rw [← l.length, ← lb.length]; exact hz, c _ _ _ _ _ (m.wr (o := .lst (ys ++ zs)) (u := .lst (vs ++ ws)) ea e2 rfl ⟨_, rfl, l.append lb⟩) (by rw [RDat]) g⟩
      | _ => exact (g : False).elim
    | _ => cases y <;> exact (g : False).elim
  · cases d <;> cases y <;> exact (g : False).elim
/-- pop from the end -/
def mPop : OpM := fun d ds M R => match d, ds with
  | .ref n, [] => match mlst M n with
    | some xs => match xs.getLast? with
      | some y => R y (M.set n (.lst xs.dropLast))
      | none => False
    | none => False
  | .ref n, [.int i] => match mlst M n with
    | some xs => (-(2 ^ 63) ≤ i ∧ i < 2 ^ 63) ∧ (match seqIndex? i xs.length with
      | some k => match xs[k]? with
        | some y => R y (M.set n (.lst (xs.eraseIdx k)))
        | none => False
      | none => False)
    | none => False
  | _, _ => False
theorem mr_pop : MtR X "list.pop" (LMt G mPop) := by
  intro pins s σ H x xs v us Q I rx rs h
  obtain ⟨al, M, d, ds, R, m, r1, r2, g, c⟩ := h
  rcases ds with _ | ⟨y, _ | ⟨z, t⟩⟩
  · cases d with
    | ref n =>
      have g : (match mlst M n with
        | some xs => (match xs.getLast? with | some y => R y (M.set n (.lst xs.dropLast)) | none => False)
        | none => False) := g
      cases e : mlst M n with
      | none => simp [e] at g
      | some ys =>
        simp only [e] at g
        cases e3 : ys.getLast? with
        | none => simp [e3] at g
        | some y =>
          simp only [e3] at g
          obtain ⟨a, vs, rfl, ea, e2, l⟩ := m.lst r1 (mlst_lst e)
          rw [RDats] at r2; subst r2
          rw [List.getLast?_eq_getElem?] at e3
          obtain ⟨w, e4, rw1⟩ := l.get e3
          rw [l.length] at e4
          exact L2.mt_pop pins s σ H _ _ v us Q I rx rs ⟨a, vs, w, rfl, rfl, e2, e4, c _ _ _ _ _ (m.wr (o := .lst ys.dropLast) (u := .lst vs.dropLast) ea e2 rfl ⟨_, rfl, l.dropLast⟩)
            (rw1.mono (KeepH.wr e2 rfl) (List.prefix_refl _)) g⟩
    | _ => exact (g : False).elim
  · cases d with
    | ref n =>
      cases y with
      | int i =>
        have g : (match mlst M n with
          | some xs => (-(2 ^ 63) ≤ i ∧ i < 2 ^ 63) ∧ (match seqIndex? i xs.length with
            | some k => (match xs[k]? with | some y => R y (M.set n (.lst (xs.eraseIdx k))) | none => False)
            | none => False)
          | none => False) := g
        cases e : mlst M n with
        | none => simp [e] at g
        | some ys =>
          simp only [e] at g
          obtain ⟨⟨h1, h2⟩, g⟩ := g
          cases e5 : seqIndex? i ys.length with
          | none => simp [e5] at g
          | some k =>
            simp only [e5] at g
            cases e3 : ys[k]? with
            | none => simp [e3] at g
            | some y =>
              simp only [e3] at g
              obtain ⟨a, vs, rfl, ea, e2, l⟩ := m.lst r1 (mlst_lst e)
              obtain ⟨w0, rfl, rw0⟩ := rd1 r2
              rw [RDat] at rw0; subst rw0
              obtain ⟨w, e4, rw1⟩ := l.get e3
              rw [l.length] at e5
              exact mt_popAt pins s σ H _ _ v us Q I rx rs ⟨a, vs, i, k, w, rfl, rfl, e2, h1, h2, e5, e4, c _ _ _ _ _ (m.wr (o := .lst (ys.eraseIdx k)) (u := .lst (vs.eraseIdx k)) ea e2 rfl ⟨_, rfl, l.eraseIdx k⟩)
                (rw1.mono (KeepH.wr e2 rfl) (List.prefix_refl _)) g⟩
      | _ => exact (g : False).elim
    | _ => cases y <;> exact (g : False).elim
  · cases d <;> cases y <;> exact (g : False).elim
def mReverse : OpM := fun d ds M R => match d, ds with
  | .ref n, [] => match mlst M n with
    | some xs => R .non (M.set n (.lst xs.reverse))
    | none => False
  | _, _ => False
theorem mr_reverse : MtR X "list.reverse" (LMt G mReverse) := by
  intro pins s σ H x xs v us Q I rx rs h
  obtain ⟨al, M, d, ds, R, m, r1, r2, g, c⟩ := h
  rcases ds with _ | ⟨y, t⟩
  · cases d with
    | ref n =>
      have g : (match mlst M n with | some xs => R .non (M.set n (.lst xs.reverse)) | none => False) := g
      cases e : mlst M n with
      | none => simp [e] at g
      | some ys =>
        simp only [e] at g
        obtain ⟨a, vs, rfl, ea, e2, l⟩ := m.lst r1 (mlst_lst e)
        rw [RDats] at r2; subst r2
        exact mt_reverse pins s σ H _ _ v us Q I rx rs ⟨a, vs, rfl, rfl, e2, c _ _ _ _ _ (m.wr (o := .lst ys.reverse) (u := .lst vs.reverse) ea e2 rfl ⟨_, rfl, l.reverse⟩) (by rw [RDat]) g⟩
    | _ => exact (g : False).elim
  · cases d <;> exact (g : False).elim
/-- the texts of a list of data -/
def strsD : List D → Option (List Str)
  | [] => some []
  | .str i :: r => (strsD r).map (i :: ·)
  | _ => none
theorem strsD_rel {K : PySem.W.Frag} {H : Hp} {al : List Addr} : ∀ {ds : List D} {vs : List V} {ns : List Str}, RDats K H al ds vs → strsD ds = some ns → vs = ns.map V.str
  | [], _, _, r, h => by rw [RDats] at r; subst r; cases h; rfl
  | d :: ds, _, ns, r, h => by
    rw [RDats] at r
    obtain ⟨v, r', rfl, h1, h2⟩ := r
    cases d with
    | str i =>
      have h : (strsD ds).map (i :: ·) = some ns := h
      cases e : strsD ds with
      | none => rw [e] at h; cases h
      | some ms =>
        rw [e] at h; cases h
        rw [RDat] at h1; subst h1
        rw [strsD_rel h2 e]; rfl
    | _ => cases h
def mJoin : OpM := fun d ds M R => match d, ds with
  | .str a, [.tup xs] => match strsD xs with
    | some ys => (ys.map (·.length)).sum + ys.length * a.length ≤ 16777216 ∧ R (.str (Txt.join a ys)) M
    | none => False
  | .str a, [.ref n] => match (lstAt M n).bind strsD with
    | some ys => (ys.map (·.length)).sum + ys.length * a.length ≤ 16777216 ∧ R (.str (Txt.join a ys)) M
    | none => False
  | _, _ => False
theorem mr_join (hK : X.K = G.K) : MtR X "str.join" (LMt G mJoin) := by
  intro pins s σ H x xs v us Q I rx rs h
  obtain ⟨al, M, d, ds, R, m, r1, r2, g, c⟩ := h
  rcases ds with _ | ⟨y, _ | ⟨z, t⟩⟩
  · cases d <;> exact (g : False).elim
  · cases d with
    | str a =>
      rw [RDat] at r1; subst r1
      obtain ⟨w, rfl, rw1⟩ := rd1 r2
      cases y with
      | tup zs =>
        have g : (match strsD zs with | some ys => (ys.map (·.length)).sum + ys.length * a.length ≤ 16777216 ∧ R (.str (Txt.join a ys)) M | none => False) := g
        cases e : strsD zs with
        | none => simp [e] at g
        | some ys =>
          simp only [e] at g
          obtain ⟨hz, g⟩ := g
          rw [RDat] at rw1
          obtain ⟨b, ws, rfl, sb, lb⟩ := rw1
          have ew := strsD_rel lb e
          subst ew
          exact mt_join pins s σ H _ _ v us Q I rx rs ⟨a, b, ys, rfl, rfl, .inr (by rw [hK]; exact sb), hz, c _ _ _ _ _ m.go (by rw [RDat]) g⟩
      | ref k =>
        have g : (match (lstAt M k).bind strsD with | some ys => (ys.map (·.length)).sum + ys.length * a.length ≤ 16777216 ∧ R (.str (Txt.join a ys)) M | none => False) := g
        cases el : lstAt M k with
        | none => simp [el] at g
        | some zs =>
          cases e : strsD zs with
          | none => simp [el, e] at g
          | some ys =>
            simp only [el, Option.bind_some, e] at g
            obtain ⟨hz, g⟩ := g
            obtain ⟨b, ws, rfl, sb, lb⟩ := m.seq rw1 el
            have ew := strsD_rel lb e
            subst ew
            exact mt_join pins s σ H _ _ v us Q I rx rs ⟨a, b, ys, rfl, rfl, .inl (by rw [hK]; exact sb), hz, c _ _ _ _ _ m.go (by rw [RDat]) g⟩
      | _ => exact (g : False).elim
    | _ => cases y <;> exact (g : False).elim
  · cases d <;> cases y <;> exact (g : False).elim
end
end DN

set_option maxHeartbeats 4000000
/-! statements, defs -/
namespace DN
open PySem PySem.Spec L2

structure SD where
  nx : Env → Mem → Prop
  rt : KD
  bk : Env → Mem → Prop
  ct : Env → Mem → Prop
  ex : Exn → Env → Mem → Prop
abbrev SS := SD → Env → Mem → Prop

structure EndR (G : GC) (W : WX) (H : Hp) (al : List Addr) (Ds : SD) (De : Ends) : Prop where
  nx : ∀ σ' ρ' H' al' M', Nxt G H al H' al' M' → RSt G H' al' M' σ' ρ' → Ds.nx ρ' M' → De.nx σ' H'
  rt : VCl G H al Ds.rt De.rt
  bk : ∀ σ' ρ' H' al' M', Nxt G H al H' al' M' → RSt G H' al' M' σ' ρ' → Ds.bk ρ' M' → De.bk σ' H'
  ct : ∀ σ' ρ' H' al' M', Nxt G H al H' al' M' → RSt G H' al' M' σ' ρ' → Ds.ct ρ' M' → De.ct σ' H'
  ex : ∀ σ' ρ' H' al' M' x cls dd, Nxt G H al H' al' M' → RSt G H' al' M' σ' ρ' → RExn G.K G.cm H' al' x cls dd → Ds.ex x ρ' M' → W cls dd σ' H'
theorem EndR.nxt {G : GC} {W : WX} {H H1 : Hp} {al al1 : List Addr} {M1 : Mem} {Ds : SD} {De : Ends} (e : EndR G W H al Ds De) (n : Nxt G H al H1 al1 M1) : EndR G W H1 al1 Ds De :=
  ⟨fun _ _ _ _ _ n' => e.nx _ _ _ _ _ (n.trans n'), e.rt.nxt n, fun _ _ _ _ _ n' => e.bk _ _ _ _ _ (n.trans n'), fun _ _ _ _ _ n' => e.ct _ _ _ _ _ (n.trans n'), fun _ _ _ _ _ _ _ _ n' => e.ex _ _ _ _ _ _ _ _ (n.trans n')⟩
theorem EndR.xcl {G : GC} {W : WX} {H : Hp} {al : List Addr} {M : Mem} {Ds : SD} {De : Ends} {σ : L2.St} {ρ : Env} (e : EndR G W H al Ds De) (r : RSt G H al M σ ρ) : XCl G W H al (fun x M => Ds.ex x ρ M) σ :=
  fun H' al' M' x cls dd n rx h => e.ex σ ρ H' al' M' x cls dd n (r.go n) rx h
def LS (G : GC) (W : WX) (t : SS) : TS := fun De σ H => ∃ ρ al M Ds, RSt G H al M σ ρ ∧ t Ds ρ M ∧ EndR G W H al Ds De
def MS (X : Cx) (G : GC) (st : Stmt) (t : SS) : Prop := ∀ W, Takes X W → PS X st (LS G W t)
def MSs (X : Cx) (G : GC) (st : List Stmt) (t : SS) : Prop := ∀ W, Takes X W → PSs X st (LS G W t)

def sNop : SS := fun D ρ M => D.nx ρ M
def SD.sq (D : SD) (u : SD → Env → Mem → Prop) : SD := { D with nx := u D }
def SD.lp (D : SD) (K : Env → Mem → Prop) : SD := { D with nx := K, ct := K, bk := D.nx }
def sSeq (t u : SS) : SS := fun D ρ M => t (D.sq u) ρ M
def sBreak : SS := fun D ρ M => D.bk ρ M
def sCont : SS := fun D ρ M => D.ct ρ M
def sEx (t : SE) : SS := fun D ρ M => t (fun x M1 => D.ex x ρ M1) ρ M fun _ M1 => D.nx ρ M1
def sRet (t : SE) : SS := fun D ρ M => t (fun x M1 => D.ex x ρ M1) ρ M D.rt
def sRetN : SS := fun D _ M => D.rt .non M
def sIf (c : SC) (t u : SS) : SS := fun D ρ M => c (fun x M1 => D.ex x ρ M1) ρ M fun b M1 => match b with | true => t D ρ M1 | false => u D ρ M1
def sAsg (t : SE) (tg : Tg) : SS := fun D ρ M => t (fun x M1 => D.ex x ρ M1) ρ M fun d M1 => match asgD tg d ρ with | some ρ1 => D.nx ρ1 M1 | none => False
/-- o[i] = v -/
def setM (o i v : D) (M : Mem) (R : Mem → Prop) : Prop := match o, i with
  | .ref n, .int k => match mlst M n with
    | some xs => match ixN xs.length k with
      | some j => R (M.set n (.lst (xs.set j v)))
      | none => False
    | none => False
  | _, _ => False
def sSet (to ti tv : SE) : SS := fun D ρ M => tv (fun x M1 => D.ex x ρ M1) ρ M fun v M1 => to (fun x M1 => D.ex x ρ M1) ρ M1 fun o M2 => ti (fun x M1 => D.ex x ρ M1) ρ M2 fun i M3 => setM o i v M3 fun M4 => D.nx ρ M4
def forL (ok : Mem → Prop) (tg : Tg) (b : SS) (De : SD) : List D → Env → Mem → Prop
  | [], ρ, M => ok M ∧ De.nx ρ M
  | d :: r, ρ, M => ok M ∧ match asgD tg d ρ with
    | some ρ1 => b (De.lp (forL ok tg b De r)) ρ1 M
    | none => False
def sFor (ti : SI) (tg : Tg) (b : SS) : SS := fun D ρ M => ti (fun x M1 => D.ex x ρ M1) ρ M fun it M1 => forL it.ok tg b D it.items ρ M1
def whileN (c : SC) (b : SS) (D : SD) : Nat → Env → Mem → Prop
  | 0, _, _ => False
  | n + 1, ρ, M => c (fun x M1 => D.ex x ρ M1) ρ M fun k M1 => match k with
    | true => b (D.lp (whileN c b D n)) ρ M1
    | false => D.nx ρ M1
def sWhile (c : SC) (b : SS) : SS := fun D ρ M => ∃ n, whileN c b D n ρ M

section
variable {X : Cx} {G : GC} {st : Stmt} {rest : List Stmt} {t u : SS} {e : Expr} {te : SE} {pos : Pos}
theorem mss_nil : MSs X G [] sNop := by
  refine fun W tk => PSs.imp pss_nil fun De σ H h => ?_
  obtain ⟨ρ, al, M, Ds, r, h, er⟩ := h
  exact er.nx _ _ _ _ _ r.m.go r h
theorem mss_cons (h1 : MS X G st t) (h2 : MSs X G rest u) : MSs X G (st :: rest) (sSeq t u) := by
  refine fun W tk => PSs.imp (pss_cons (h1 W tk) (h2 W tk)) fun De σ H h => ?_
  obtain ⟨ρ, al, M, Ds, r, h, er⟩ := h
  exact ⟨ρ, al, M, _, r, h, ⟨fun σ' ρ' H' al' M' n r' h' => ⟨ρ', al', M', Ds, r', h', er.nxt n⟩, er.rt, er.bk, er.ct, er.ex⟩⟩
theorem mss_one (h1 : MS X G st t) : MSs X G [st] t := fun W tk => pss_one (h1 W tk)
theorem ms_pass : MS X G (.Pass pos) sNop := by
  refine fun W tk => PS.imp ps_pass fun De σ H h => ?_
  obtain ⟨ρ, al, M, Ds, r, h, er⟩ := h
  exact er.nx _ _ _ _ _ r.m.go r h
theorem ms_break : MS X G (.Break pos) sBreak := by
  refine fun W tk => PS.imp ps_break fun De σ H h => ?_
  obtain ⟨ρ, al, M, Ds, r, h, er⟩ := h
  exact er.bk _ _ _ _ _ r.m.go r h
theorem ms_cont : MS X G (.Continue pos) sCont := by
  refine fun W tk => PS.imp ps_continue fun De σ H h => ?_
  obtain ⟨ρ, al, M, Ds, r, h, er⟩ := h
  exact er.ct _ _ _ _ _ r.m.go r h
theorem ms_expr (he : ME X G e te) (hs : swapsWith e none pos.line X.env = pure false) : MS X G (.Expr e pos) (sEx te) := by
  refine fun W tk => PS.imp (ps_expr (he W tk) hs) fun De σ H h => ?_
  obtain ⟨ρ, al, M, Ds, r, h, er⟩ := h
  exact ⟨ρ, al, M, _, _, r, h, fun H1 al1 M1 v d n1 r1 h1 => er.nx _ _ _ _ _ n1 (r.go n1) h1, er.xcl r⟩
theorem ms_ret (he : ME X G e te) : MS X G (.Return (some e) pos) (sRet te) := by
  refine fun W tk => PS.imp (ps_ret (he W tk)) fun De σ H h => ?_
  obtain ⟨ρ, al, M, Ds, r, h, er⟩ := h
  exact ⟨ρ, al, M, _, _, r, h, er.rt, er.xcl r⟩
theorem ms_retN : MS X G (.Return none pos) sRetN := by
  refine fun W tk => PS.imp ps_retN fun De σ H h => ?_
  obtain ⟨ρ, al, M, Ds, r, h, er⟩ := h
  exact er.rt _ _ _ _ _ r.m.go (by rw [RDat]) h
theorem ms_if {c : Expr} {a b : List Stmt} {tc : SC} (hc : MC X G c tc) (ha : MSs X G a t) (hb : MSs X G b u) : MS X G (.If c a b pos) (sIf tc t u) := by
  refine fun W tk => PS.imp (ps_if (hc W tk) (ha W tk) (hb W tk)) fun De σ H h => ?_
  obtain ⟨ρ, al, M, Ds, r, h, er⟩ := h
  refine ⟨ρ, al, M, _, _, r, h, fun H1 al1 M1 k n1 h1 => ?_, er.xcl r⟩
  cases k with
  | true => exact iteT ⟨ρ, al1, M1, Ds, r.go n1, h1, er.nxt n1⟩
  | false => exact iteF ⟨ρ, al1, M1, Ds, r.go n1, h1, er.nxt n1⟩
theorem asg_end {W : WX} {De : Ends} {Ds : SD} {σ : L2.St} {ρ : Env} {H H1 : Hp} {al al1 : List Addr} {M M1 : Mem} {tg : Tg} {v : V} {d : D} (er : EndR G W H al Ds De) (r : RSt G H al M σ ρ) (n1 : Nxt G H al H1 al1 M1) (r1 : RDat G.K H1 al1 d v)
    (h1 : match asgD tg d ρ with | some ρ1 => Ds.nx ρ1 M1 | none => False) : LG G tg v σ H1 De.nx := by
  cases ea : asgD tg d ρ with
  | none => simp only [ea] at h1
  | some ρ1 =>
    simp only [ea] at h1
    exact ⟨ρ, al1, M1, d, ρ1, r.go n1, r1, ea, fun σ2 r2 o2 => er.nx _ _ _ _ _ n1 r2 h1⟩
theorem ms_asg {tg : Expr} {g : Tg} (he : ME X G e te) (hg : MG X G tg g) (hs : swapsWithSole [tg] e pos.line X.env = pure false) (hw : swappedStores [tg] e X.env = pure none) (h1 : (assignEach [tg] X.env).map (·.2) = [assign tg X.env]) : MS X G (.Assign [tg] e pos) (sAsg te g) := by
  refine fun W tk => PS.imp (ps_asg (he W tk) hg hs hw h1) fun De σ H h => ?_
  obtain ⟨ρ, al, M, Ds, r, h, er⟩ := h
  exact ⟨ρ, al, M, _, _, r, h, fun H1 al1 M1 v d n1 r1 h1 => asg_end er r n1 r1 h1, er.xcl r⟩
theorem ms_set {i : Nat} {x : Str} {pos' : Pos} (hN : X.N.Nodup) (hi : X.N[i]? = some x) (hx : Loc X.env.scope x) (he : ME X G e te) (hs : swapsWith e (some (.Name x pos')) pos.line X.env = pure false) (hf : X.fn x = true ∨ X.env.scope.names.lookup x = some .local) (hX : NoX G [i]) :
    MS X G (.Assign [.Name x pos'] e pos) (sAsg te (.nm i)) := by
  refine fun W tk => PS.imp (ps_set hN hi hx (he W tk) hs hf) fun De σ H h => ?_
  obtain ⟨ρ, al, M, Ds, r, h, er⟩ := h
  exact ⟨ρ, al, M, _, _, r, h, fun H1 al1 M1 v d n1 r1 h1 => er.nx _ _ _ _ _ n1 ((r.go n1).setS r1 hX) h1, er.xcl r⟩
theorem le_lc {W : WX} {elt tg iter : Expr} {ti : SI} {t : Tg} {tt : SC} {te : SE} {vs : List Nat} {σ : L2.St} {H : Hp} {Q : VK} (hsl : ∀ i ∈ slotsT t, i ∈ vs) (hx : NoX G vs) (h : LE G W (eLc ti t tt te vs) σ H Q) : tLc (LI G W ti) (LG G t) (LC G W0 tt) (LE G W0 te) vs σ H Q := by
  obtain ⟨ρ, al, M, Ex, R, r, h, c, xc⟩ := h
  refine ⟨ρ, al, M, Ex, _, r, h, fun H1 al1 M1 J it n1 itr h1 => ?_, xc⟩
  intro D hD
  have h1 : lcL it.ok t tt te M1.length (wipeD ρ vs) it.items (M1 ++ [.lst []]) (fun M2 => R (.ref M1.length) M2) := h1
  have n2 := n1.m.new (o := .lst []) (u := .lst []) hD ⟨[], rfl, RDats.nil⟩
  have hD2 : (al1 ++ [D])[M1.length]? = some D := by
    rw [← n1.m.len, List.getElem?_append_right (Nat.le_refl _), Nat.sub_self]; rfl
  let Wi : Nat → Nat → Hp → Prop := fun i m H' => m = it.items.length - i ∧ i ≤ it.items.length ∧ ∃ al' M', Nxt G (upd H1 D (.lst [])) (al1 ++ [D]) H' al' M' ∧
    lcL it.ok t tt te M1.length (wipeD ρ vs) (it.items.drop i) M' (fun M2 => R (.ref M1.length) M2)
  refine ⟨Wi, ⟨it.items.length, by simp, Nat.zero_le _, _, _, n2.m.go, by simpa using h1⟩, ?_⟩
  rintro i m H' ⟨rfl, hi, al', M', n3, hl⟩
  have n13 := n2.trans n3
  by_cases hlt : i < it.items.length
  · have ed : it.items.drop i = it.items[i] :: it.items.drop (i + 1) := List.drop_eq_getElem_cons hlt
    rw [ed] at hl
    obtain ⟨hok, hl⟩ := (hl : _ ∧ _)
    obtain ⟨hgo, _⟩ := itr i H' al' M' n13 hok
    obtain ⟨go, hy⟩ := hgo _ (List.getElem?_eq_getElem hlt)
    refine .inr ⟨go, fun H2 => Wi (i + 1) (it.items.length - (i + 1)) H2, fun H2 w => ⟨_, by omega, w⟩, fun x H2 hyx => ?_⟩
    obtain ⟨n4, rx⟩ := hy x H2 hyx
    cases ea : asgD t it.items[i] (wipeD ρ vs) with
    | none => rw [ea] at hl; exact hl.elim
    | some ρ1 =>
      rw [ea] at hl
      have n14 := n13.trans n4
      have rw0 : RSt G H2 al' M' (L2.wipe σ vs) (wipeD ρ vs) :=
        ⟨n4.m, (r.e.mono (n1.k.trans n14.k) (n1.p.trans n14.p)).wipe _, (r.x.mono (n1.k.trans n14.k) (n1.p.trans n14.p)).wipe hx⟩
      refine ⟨_, al', M', _, ρ1, rw0, rx, ea, fun σ2 r2 o2 => ⟨?_, ρ1, al', M', noX, _, r2, hl, fun H5 al5 M5 b n5 h5 => ?_, xcl0⟩⟩
      · rw [o2.wipe hsl]
        apply List.ext_getElem?
        intro j
        rw [wipe_get, wipe_get, wipe_length]
        by_cases hj : j ∈ vs
        · rw [if_pos hj, if_pos hj]
        · rw [if_neg hj, if_neg hj]
      · have n15 := n3.trans (n4.trans n5)
        cases b with
        | false => exact iteF ⟨rfl, hlt, al5, M5, n15, h5⟩
        | true =>
          refine iteT ?_
          refine ⟨ρ1, al5, M5, noX, _, r2.go n5, h5, fun H6 al6 M6 y d n6 r6 h6 => ?_, xcl0⟩
          have n16 := n15.trans n6
          cases em : mlst M6 M1.length with
          | none => simp only [em] at h6
          | some acc =>
            simp only [em] at h6
            obtain ⟨hz, h6⟩ := (h6 : _ ∧ _)
            have hD6 : al6[M1.length]? = some D := pfx_get n16.p hD2
            obtain ⟨a, ws, ev, ea6, eH, l6⟩ := n16.m.lst (v := .ref D) (by rw [RDat]; exact ⟨D, hD6, rfl⟩) (mlst_lst em)
            cases ev
            refine ⟨ws, eH, by rw [← l6.length]; exact hz, rfl, hlt, al6, _, n16.trans (n16.m.wr (o := .lst (acc ++ [d])) (u := .lst (ws ++ [y])) hD6 eH rfl ⟨_, rfl, l6.append (RDats.cons r6 RDats.nil)⟩), h6⟩
  · have ei : i = it.items.length := by omega
    subst ei
    rw [List.drop_length] at hl
    obtain ⟨hok, hl⟩ := (hl : _ ∧ _)
    obtain ⟨_, hst⟩ := itr _ H' al' M' n13 hok
    refine .inl ⟨hst rfl, c _ _ _ _ _ (n1.trans n13) ?_ hl⟩
    rw [RDat]
    exact ⟨D, pfx_get n3.p hD2, rfl⟩
/-- name = [..] -/
theorem ms_setLc {i : Nat} {y : Str} {py : Pos} {elt tg iter : Expr} {ifs : List Expr} {scope : Scope} {own : List (Str × Nat)} {pos spos : Pos} {ti : SI} {t : Tg} {tt : SC} {te : SE} (hc : X.calm = true) (hN : X.N.Nodup) (hy : X.N[i]? = some y) (hyl : X.env.scope.names.lookup y = some .local)
    (hsw : swapsWith (.ListComp elt [⟨tg, iter, ifs, 0⟩] scope pos) (some (.Name y py)) spos.line X.env = pure true) (hi : MI X G tg iter ti) (ok : BlkOk X.N X.env.scope scope own)
    (hg : ∀ (s : Shared) (H : Hp) (C : Addr) (cl : List (Str × Addr)) (fp : List Addr), MG (X.blk s H scope (compEnvC scope cl C X.env) fp) G tg t) (ht : ∀ (s : Shared) (H : Hp) (C : Addr) (cl : List (Str × Addr)) (fp : List Addr), MTs (X.blk s H scope (compEnvC scope cl C X.env) fp) G ifs tt)
    (he : ∀ (s : Shared) (H : Hp) (C : Addr) (cl : List (Str × Addr)) (fp : List Addr), ME (X.blk s H scope (compEnvC scope cl C X.env) fp) G elt te) (hs : ∀ x, foldedSetIterable iter X.env x = pure x)
    (hsl : ∀ i ∈ slotsT t, i ∈ own.map (·.2)) (hx : NoX G (own.map (·.2))) (hX : NoX G [i]) : MS X G (.Assign [.Name y py] (.ListComp elt [⟨tg, iter, ifs, 0⟩] scope pos) spos) (sAsg (eLc ti t tt te (own.map (·.2))) (.nm i)) := by
  intro W tk
  refine PS.imp (ps_setLc hc hN hy hyl hsw (hi W tk) ok hg (fun s H C cl fp => ht s H C cl fp W0 takes0) (fun s H C cl fp => he s H C cl fp W0 takes0) hs) fun De σ H h => ?_
  obtain ⟨ρ, al, M, Ds, r, h, er⟩ := h
  exact le_lc (W := W) (elt := elt) (tg := tg) (iter := iter) hsl hx ⟨ρ, al, M, _, _, r, h, fun H1 al1 M1 v d n1 r1 h1 => er.nx _ _ _ _ _ n1 ((r.go n1).setS r1 hX) h1, er.xcl r⟩
theorem setM_ok {H : Hp} {al : List Addr} {M : Mem} {o i v : D} {ov iv vv : V} {R : Mem → Prop} {Q : Hp → Prop} (m : RMem G H al M) (ro : RDat G.K H al o ov) (ri : RDat G.K H al i iv) (rv : RDat G.K H al v vv) (h : setM o i v M R)
    (c : ∀ H' al' M', Nxt G H al H' al' M' → R M' → Q H') : rSetL ov iv vv H Q := by
  cases o with
  | ref n =>
    cases i with
    | int k =>
      have h : (match mlst M n with
        | some xs => (match ixN xs.length k with | some j => R (M.set n (.lst (xs.set j v))) | none => False)
        | none => False) := h
      cases e : mlst M n with
      | none => simp [e] at h
      | some xs =>
        simp only [e] at h
        cases e2 : ixN xs.length k with
        | none => simp [e2] at h
        | some j =>
          simp only [e2] at h
          obtain ⟨a, vs, rfl, ea, e3, l⟩ := m.lst ro (mlst_lst e)
          rw [RDat] at ri; subst ri
          exact ⟨a, vs, k, j, rfl, rfl, e3, by rw [← l.length]; exact e2, c _ _ _ (m.wr (o := .lst (xs.set j v)) (u := .lst (vs.set j vv)) ea e3 rfl ⟨_, rfl, l.set rv j⟩) h⟩
    | _ => exact (h : False).elim
  | _ => cases i <;> exact (h : False).elim
theorem ms_sub {o i : Expr} {to ti : SE} {tpos : Pos} (he : ME X G e te) (ho : ME X G o to) (hi : ME X G i ti)
    (ha : ∀ v, assign (.Subscript o i tpos) X.env v = (do
      let ov ← holding [v] (eval o X.env)
      let iv ← holding [v, ov] (eval i X.env)
      standAt tpos
      holding [v, ov, iv] (setItem ov iv v)
      release [v, ov, iv] []))
    (hs : swapsWithSole [.Subscript o i tpos] e pos.line X.env = pure false) (hw : swappedStores [.Subscript o i tpos] e X.env = pure none) (h1 : (assignEach [.Subscript o i tpos] X.env).map (·.2) = [assign (.Subscript o i tpos) X.env]) : MS X G (.Assign [.Subscript o i tpos] e pos) (sSet to ti te) := by
  refine fun W tk => PS.imp (ps_asg (he W tk) (pg_sub (ho W tk) (hi W tk) set_list ha) hs hw h1) fun De σ H h => ?_
  obtain ⟨ρ, al, M, Ds, r, h, er⟩ := h
  refine ⟨ρ, al, M, _, _, r, h, fun H1 al1 M1 v d n1 r1 h1 => ?_, er.xcl r⟩
  refine ⟨ρ, al1, M1, _, _, r.go n1, h1, fun H2 al2 M2 o' d' n2 r2 h2 => ?_, (er.xcl r).nxt n1⟩
  have n12 := n1.trans n2
  refine ⟨ρ, al2, M2, _, _, r.go n12, h2, fun H3 al3 M3 i' d3 n3 r3 h3 => ?_, (er.xcl r).nxt n12⟩
  have n13 := n12.trans n3
  exact setM_ok n3.m (r2.mono n3.k n3.p) r3 (r1.mono (n2.k.trans n3.k) (n2.p.trans n3.p)) h3 fun H4 al4 M4 n4 h4 => er.nx _ _ _ _ _ (n13.trans n4) (r.go (n13.trans n4)) h4
theorem ms_for_of {tg iter : Expr} {body : List Stmt} {ti : SI} {g : Tg} (hps : ∀ W, Takes X W → PS X (.For tg iter body [] pos) (tFor (LI G W ti) (LG G g) (LS G W t))) : MS X G (.For tg iter body [] pos) (sFor ti g t) := by
  refine fun W tk => PS.imp (hps W tk) fun De σ H h => ?_
  obtain ⟨ρ, al, M, Ds, r, h, er⟩ := h
  refine ⟨ρ, al, M, _, _, r, h, fun H1 al1 M1 J it n1 itr h1 => ?_, er.xcl r⟩
  let Wi : Nat → Nat → L2.St → Hp → Prop := fun i m σ' H' => m = it.items.length - i ∧ i ≤ it.items.length ∧ ∃ ρ' al' M', Nxt G H1 al1 H' al' M' ∧ RSt G H' al' M' σ' ρ' ∧ forL it.ok g t Ds (it.items.drop i) ρ' M'
  refine ⟨Wi, ⟨it.items.length, by simp, Nat.zero_le _, ρ, _, _, n1.m.go, r.go n1, by simpa using h1⟩, ?_⟩
  rintro i m σ' H' ⟨rfl, hi', ρ', al', M', n2, r2, hl⟩
  by_cases hlt : i < it.items.length
  · have ed : it.items.drop i = it.items[i] :: it.items.drop (i + 1) := List.drop_eq_getElem_cons hlt
    rw [ed] at hl
    obtain ⟨hok, hl⟩ := (hl : _ ∧ _)
    obtain ⟨hgo, _⟩ := itr i H' al' M' n2 hok
    obtain ⟨go, hy⟩ := hgo _ (List.getElem?_eq_getElem hlt)
    refine .inr ⟨go, fun σ2 H2 => Wi (i + 1) (it.items.length - (i + 1)) σ2 H2, fun σ2 H2 w => ⟨_, by omega, w⟩, fun x H2 hyx => ?_⟩
    obtain ⟨n3, rx⟩ := hy x H2 hyx
    have n13 := n2.trans n3
    cases ea : asgD g it.items[i] ρ' with
    | none => rw [ea] at hl; exact hl.elim
    | some ρ1 =>
      rw [ea] at hl
      refine ⟨ρ', al', M', _, ρ1, r2.go n3, rx, ea, fun σ2 r3 o3 => ⟨ρ1, al', M', _, r3, hl, ?_⟩⟩
      have er2 := er.nxt (n1.trans n13)
      exact ⟨fun σ4 ρ4 H4 al4 M4 n4 r4 h4 => ⟨rfl, hlt, ρ4, al4, M4, n13.trans n4, r4, h4⟩, er2.rt, er2.nx, fun σ4 ρ4 H4 al4 M4 n4 r4 h4 => ⟨rfl, hlt, ρ4, al4, M4, n13.trans n4, r4, h4⟩, er2.ex⟩
  · have ei : i = it.items.length := by omega
    subst ei
    rw [List.drop_length] at hl
    obtain ⟨hok, hl⟩ := (hl : _ ∧ _)
    obtain ⟨_, hst⟩ := itr _ H' al' M' n2 hok
    exact .inl ⟨hst rfl, er.nx _ _ _ _ _ (n1.trans n2) r2 hl⟩
theorem ms_for {tg iter : Expr} {body : List Stmt} {ti : SI} {g : Tg} (hp : PassesOwn (model X.prog X.w) X.A X.env X.xe) (hc : X.calm = true) (hi : MI X G tg iter ti) (hg : MG X G tg g) (hb : MSs X G body t)
    (hs : ∀ x, foldedSetIterable iter X.env x = pure x) : MS X G (.For tg iter body [] pos) (sFor ti g t) := ms_for_of fun W tk => ps_for hp hc (hi W tk) hg (hb W tk) hs
/-- what a suite walks -/
def MIH (X : Cx) (G : GC) (tg iter : Expr) (t : SI) : Prop := ∀ W, Takes X W → L2H.PIH X tg iter (LI G W t)
theorem PIH.imp {X : Cx} {tg e : Expr} {t t' : TI} (h : L2H.PIH X tg e t) (i : ∀ σ H Q, t' σ H Q → t σ H Q) : L2H.PIH X tg e t' := ⟨fun pins s σ H R I w => h.run pins s σ H R I (i σ H R w)⟩
theorem ms_forH {tg iter : Expr} {body : List Stmt} {ti : SI} {g : Tg} (hp : PassesOwn (model X.prog X.w) X.A X.env X.xe) (hc : L2H.HotC X) (hi : MIH X G tg iter ti) (hg : MG X G tg g) (hb : MSs X G body t)
    (hs : ∀ x, foldedSetIterable iter X.env x = pure x) : MS X G (.For tg iter body [] pos) (sFor ti g t) := ms_for_of fun W tk => L2H.ps_forH hp hc (hi W tk) hg (hb W tk) hs
theorem mi_range1H {tg a : Expr} {ta : SA} {p pos : Pos} (hg : Gl X "range") (hm : X.mg "range" = none) (ha : MA X G [a] ta) (hs : starEach [a] X.env = [(false, eval a X.env)]) : MIH X G tg (.Call (.Name "range" p) [a] [] pos) (iRange1 ta) := by
  refine fun W tk => PIH.imp (L2H.pi_range1H hg hm (ha W tk) hs) fun σ H Q h => ?_
  obtain ⟨ρ, al, M, Ex, R, r, t, c, xc⟩ := h
  refine ⟨ρ, al, M, Ex, _, r, t, fun H1 al1 M1 vs ds n1 r1 l1 h1 => ?_, xc⟩
  rcases ds with _ | ⟨d, _ | ⟨e, t⟩⟩
  · exact (h1 : False).elim
  · obtain ⟨v, rfl, r2⟩ := rd1 r1
    cases d with
    | int j =>
      obtain ⟨h2, h3, h1⟩ := (h1 : _ ∧ _ ∧ _)
      rw [RDat] at r2; subst r2
      exact ⟨j, rfl, h3, h2, c _ _ _ _ _ n1 itr_rng h1⟩
    | _ => exact (h1 : False).elim
  · cases d <;> exact (h1 : False).elim
theorem ms_while {c : Expr} {body : List Stmt} {tc : SC} (hp : PassesOwn (model X.prog X.w) X.A X.env X.xe) (hc : MC X G c tc) (hb : MSs X G body t) : MS X G (.While c body [] pos) (sWhile tc t) := by
  refine fun W tk => PS.imp (ps_while hp (hc W tk) (hb W tk)) fun De σ H h => ?_
  obtain ⟨ρ, al, M, Ds, r, ⟨n0, h⟩, er⟩ := h
  refine ⟨fun m σ' H' => ∃ ρ' al' M', Nxt G H al H' al' M' ∧ RSt G H' al' M' σ' ρ' ∧ whileN tc t Ds m ρ' M', ⟨n0, ρ, al, M, r.m.go, r, h⟩, ?_⟩
  rintro m σ' H' ⟨ρ', al', M', n1, r1, hw⟩
  cases m with
  | zero => exact hw.elim
  | succ m =>
    refine ⟨ρ', al', M', _, _, r1, hw, fun H2 al2 M2 k n2 h2 => ?_, (er.nxt n1).xcl r1⟩
    have n12 := n1.trans n2
    cases k with
    | true =>
      refine iteT ⟨fun σ3 H3 => ∃ ρ' al' M', Nxt G H al H3 al' M' ∧ RSt G H3 al' M' σ3 ρ' ∧ whileN tc t Ds m ρ' M', fun σ3 H3 w => ⟨m, Nat.lt_succ_self _, w⟩, ρ', al2, M2, _, r1.go n2, h2, ?_⟩
      have er2 := er.nxt n12
      exact ⟨fun σ4 ρ4 H4 al4 M4 n4 r4 h4 => ⟨ρ4, al4, M4, n12.trans n4, r4, h4⟩, er2.rt, er2.nx, fun σ4 ρ4 H4 al4 M4 n4 r4 h4 => ⟨ρ4, al4, M4, n12.trans n4, r4, h4⟩, er2.ex⟩
    | false => exact iteF (er.nx _ _ _ _ _ n12 (r1.go n2) h2)
/-- f() -/
theorem me_call0 {k : Nat} {f : Addr} {fd : FuncData} {ps : List Str} {x : Str} {p : Pos} {F : Fn} (hF : FnOk X.prog X.w X.K X.mg X.base (CX X.prog X.w) k f fd ps (LSp G F 0)) (hr : Room k X.A) (hg : Gl X x) (hm : X.mg x = some (.ref f)) (hk : PySem.W.keepIn X.K (.ref f) = true) (hb : Binds X.K fd ps []) (hdb : (x == ("__debug__" : Str)) = false) :
    ME X G (.Call (.Name x p) [] [] pos) (eCall F aNil) := by
  intro W tk
  refine ⟨fun pins s σ H Q I h => ?_⟩
  obtain ⟨ρ, al, M, Ex, R, r, h, c, xc⟩ := h
  refine wpAny_Call_Name_kw (ld_glob I hg hm ?_ hdb)
  refine PySem.W.callWith_K0 I.kIn hk (run_fnSD (us := []) (E := fun σ cls dd H => W cls dd σ H) hF hr hb .nil (passAt tk σ) I .nil ?_)
  exact ⟨al, M, [], R, Ex, rfl, r.m, RDats.nil, h, c, fun H' al' M' x cls dd n' rx ex => xc _ _ _ _ _ _ n' rx ex⟩
end

/-! ### a def's body keeps its promise -/
def startD (n : Nat) (ds : List D) : Env := ds.map some ++ List.replicate (n - ds.length) none
def SD.top (R : KD) (Ex : XC) : SD := { nx := fun _ M1 => R .non M1, rt := R, bk := fun _ _ => False, ct := fun _ _ => False, ex := fun x _ M1 => Ex x M1 }
def bodyF (n : Nat) (t : SS) : Fn := fun ds M R Ex => t (SD.top R Ex) (startD n ds) M
theorem start_rel {G : GC} {H : Hp} {al : List Addr} {M : Mem} {N : List Str} {ds : List D} {vs : List V} (m : RMem G H al M) (r : RDats G.K H al ds vs) (hx : G.xn = none) : RSt G H al M (L2.start N vs) (startD N.length ds) := by
  refine ⟨m, ⟨?_, fun i d h => ?_⟩, by unfold XOk; rw [hx]; trivial⟩
  · unfold L2.start startD
    simp [r.length]
  · unfold startD at h
    have hi : i < ds.length := by
      by_cases hi : i < ds.length
      · exact hi
      · rw [List.getElem?_append_right (by simpa using hi), List.getElem?_replicate] at h
        split at h <;> cases h
    rw [List.getElem?_append_left (by simpa using hi), List.getElem?_map] at h
    cases e : ds[i]? with
    | none => rw [e] at h; cases h
    | some d' =>
      rw [e] at h; cases h
      obtain ⟨v, e1, e2⟩ := r.get e
      refine ⟨v, ?_, e2⟩
      unfold L2.start
      rw [List.getElem?_append_left (by rw [List.length_map, ← r.length]; exact hi), List.getElem?_map, e1]
      rfl
theorem fn_body {G : GC} {k : Nat} {x qual : Str} {st : Stmt} {f : Addr} {fd : FuncData} {N ps : List Str} {t : SS} (hx : G.xn = none) (F : Fun G.K x qual st f fd) (S : FnScope N ps (defScope st))
    (hb : ∀ (cdv : Value) (A : Around) (outer : List PySem.Env) (s : Shared) (H : Hp) (E : XK), Room k (A.deeper (PyProof.Rows.envOfC qual (defScope st) s.heap.objs.size f cdv)) → MSs (cxOf (CX G.P G.w) G.P G.w G.K G.mg G.base N qual (defScope st) f cdv A outer s H E) G (defBody st) t) :
    FnOk G.P G.w G.K G.mg G.base (CX G.P G.w) (k + 1) f fd ps (LSp G (bodyF N.length t) ps.length) := by
  obtain ⟨oc, od, kV, doc, pm, an, cdv, ct, osl, rfl, lk, hcd⟩ := F.ex
  refine fn_of lk hcd S (fun vs H Q E h => ?_) (fun A outer s H vs Q E hr h => ?_)
  · obtain ⟨al, M, ds, R, Ex, hl, _⟩ := h
    exact hl
  · obtain ⟨al, M, ds, R, Ex, hl, m, r, hF, c, xc⟩ := h
    refine ⟨_, hb cdv A outer s H E hr (fun cls d _ H => E cls d H) (L2N.takes_of rfl rfl rfl rfl), startD N.length ds, al, M, _, start_rel m r hx, hF, ?_⟩
    exact ⟨fun σ' ρ' H' al' M' n r' h' => c _ _ _ _ _ n (by rw [RDat]) h', c, fun _ _ _ _ _ _ _ h => h.elim, fun _ _ _ _ _ _ _ h => h.elim, fun σ' ρ' H' al' M' x cls dd n r' rx h' => xc _ _ _ _ _ _ n rx h'⟩
end DN

set_option maxHeartbeats 4000000
/-! an own exception whose __init__ stores its fields and says super().__init__(text) last -/
namespace DN
open PySem PySem.Spec L2 NdefX
/-! ### the bound built-in __init__, called -/
section
variable {prog : Program} {w : World} {A : Around} {E : Value → Shared → Prop} {h : Heap} {g : Array GenState} {d : Drawn} {tk : Nat} {os : OsState}
theorem call_mw {e u t C N : Addr} {dv : Option Addr} {nm q : Str} {bs bm bmB : List Value} {sn : List Str} {sub : List Value} {ab : Bool} {col : Option Bool} {dd : Option Addr} {k0 k1 k2 k3 k5 : Option Value} {newId i B : String} {rest : List Value} {Q : Value → Shared → Prop}
    (FB : ExcBaseFacts B newId i bmB) (hC : h.get? C = some (excClassObj nm q C N bs bm true sn sub ab col dd k0 k1 k2 k3 k5 newId)) (he : h.get? e = some (PySem.W.excObj C t dv .none)) (hu : h.get? u = some (PySem.W.kxs_mw i e)) (hz : rest.length ≤ sizeLine)
    (hq : ∀ t' h', (∀ b o, b ≠ e → h.get? b = some o → h'.get? b = some o) → h'.get? e = some (PySem.W.excObj C t' dv .none) → Q .none ⟨h', g, d, tk, os⟩) : wpAny (model prog w) A (call (.ref u) rest) Q E ⟨h, g, d, tk, os⟩ := by
  refine wpAny_call (codeAny_of_tree ?_)
  show wpAny _ A.in1 (callAny (.ref u) ⟨rest, []⟩) _ _ _
  simp only [callAny]
  refine wpAny_bind (wpAny_load hu ?_)
  simp only [PySem.W.kxs_mw, show (Value.type "method-wrapper" == Value.type "method" || Value.type "method-wrapper" == Value.type "builtin_function_or_method" || Value.type "method-wrapper" == Value.type "method-wrapper") = true by decide, if_true]
  refine PySem.W.KFB.if_so (by decide) ?_
  refine wpAny_bind (PySem.W.check_bound_init FB.toExcCallFacts hC he rfl ?_)
  refine wpAny_bind (wpAny_pure (wpAny_pure ?_))
  refine ⟨plainId_quiet FB.init.plain _, codeAny_builtin FB.initEntry ?_⟩
  exact PySem.W.exc_init_tree (cls := .ref C) (t0 := t) (dv := dv) (c2 := .none) (c3 := .none) (b4 := .bool false) he hz fun h' k e' t' => hq _ _ k e'
end
/-! ### the last statement of __init__ -/
/-- what the written part says of an __init__ -/
structure InitC (P : Program) (K : PySem.W.Frag) (mg : Str → Option Value) (F : NF) (f C cc : Addr) (sf : Str) : Prop where
  cls : OexC K C
  clo : F.cl = [(("__class__" : Str), cc)]
  fn : ∃ (oc : Value) (od : Option Addr) (osl : Array (Option Value)) (fd : FuncData) (ar : Arg), K.lookup f = some ⟨oc, od, .func fd, osl⟩ ∧ (fd.params.posonlyargs ++ fd.params.args).head? = some ar ∧ ar.arg = sf
  code : ∃ (ccl : Value) (cdd : Option Addr) (vs : Array Value) (ccs : Array (Option Value)) (file : Str) (tf : Tok), K.lookup F.c = some ⟨ccl, cdd, .fields vs, ccs⟩ ∧ vs[2]? = some (.str file tf) ∧ ((P.main.file : Str) == file) = true
  cell : ∃ (cl : Value) (cld : Option Addr) (csl : Array (Option Value)), K.lookup cc = some ⟨cl, cld, .cell (some (.ref C)), csl⟩
  sub : PySem.W.mroIn K C (.ref C) = some true
  up : PySem.W.ks_superIn K C C "__init__" = some (some (.builtin "ValueError.__init__"))
  ve : PySem.W.subIn K (.ref C) (.type "ValueError") = some true
  any : PySem.W.nsIn K cStatics "thirdparty.any" = some none
  sup : mg "super" = none
  top : (P.main.scope.names.lookup ("super" : Str)).isSome = false
  ks : F.scope.names.lookup ("super" : Str) = some .globalImplicit
  kc : F.scope.names.lookup ("__class__" : Str) = some .free
  ka : F.scope.names.lookup sf = some .local
theorem super_last {CX : CXT} {P : Program} {w : World} {K : PySem.W.Frag} {mg : Str → Option Value} {base : Heap} {N : List Str} {F : NF} {f C cc : Addr} {sf : Str} {A : Around} {outer : List PySem.Env} {s0 : Shared} {H0 : Hp} {E0 : XK} {σ : L2.St} {H : Hp} {s : Shared}
    (c : InitC P K mg F f C cc sf) (I : Inv (ncx CX P w K mg base N F f A outer s0 H0 E0) [] σ H s) {a : Addr} {dv : Option Addr} (h0 : N[0]? = some sf) (h1 : σ[0]? = some (some (.ref a))) (ea : H a = some (exo a C dv)) (ed : ∀ dx, dv = some dx → ∃ fs, H dx = some (exd dx fs))
    {p0 p1 p2 p3 p4 p5 : Pos} {kk : Nat} {txt : Str} {Ex : Value → Shared → Prop} {Q : Flow → Shared → Prop} {pl : Sem Bool}
    (he : eval (.Call (.Attribute (.Call (.Name "super" p0) [] [] p1) "__init__" p2) [.Constant (.str txt) kk p3] [] p4) (envF F f s0.heap.objs.size) = (do
      let ov ← attributeBase (.Call (.Name "super" p0) [] [] p1) "__init__" (envF F f s0.heap.objs.size) (eval (.Call (.Name "super" p0) [] [] p1) (envF F f s0.heap.objs.size))
      standAt p2.atName
      let (fx, first) ← holding [ov] (getMethod ov "__init__" pl)
      callWith p4 fx first (backTo p4 (starEach [.Constant (.str txt) kk p3] (envF F f s0.heap.objs.size))) []))
    (k : ∀ s', Inv (ncx CX P w K mg base N F f A outer s0 H0 E0) [] σ H s' → Q .next s') :
    wpAt (model P w) (ncx CX P w K mg base N F f A outer s0 H0 E0).A (.func F.body (envF F f s0.heap.objs.size)) (exec (.Expr (.Call (.Attribute (.Call (.Name "super" p0) [] [] p1) "__init__" p2) [.Constant (.str txt) kk p3] [] p4) p5) (envF F f s0.heap.objs.size)) Q Ex s := by
  obtain ⟨oc, od, osl, fd, ar, lf, hp, har⟩ := c.fn
  obtain ⟨ccl, cdd, vs, ccs, file, tf, lc, hvs, hfile⟩ := c.code
  obtain ⟨cl, cld, csl, lcc⟩ := c.cell
  have X : K.In s.heap := I.kIn
  obtain ⟨m, hns, hlook⟩ := I.loc
  obtain ⟨mb, hb1, hb2⟩ := I.mod.blt
  have hself : m sf = some (.ref a) := by
    obtain ⟨u, ru, lk⟩ := hlook 0 sf (.ref a) h0 h1 (.inl c.ka)
    obtain rfl : u = .ref a := ru
    rcases lk with ⟨_, e⟩ | ⟨q, _⟩
    · exact e
    · have e1 : F.scope.names.lookup sf = some .local := c.ka
      rcases q with q | q
      · have q : F.scope.names.lookup sf = some .cell := q
        rw [e1] at q; cases q
      · have q : F.scope.names.lookup sf = some .free := q
        rw [e1] at q; cases q
  obtain ⟨nm, q, N', bs, bm, sn, sub, ab, col, dd, k0, k1, k2, k3, k5, hC, hbm⟩ := c.cls.cls
  have hcl : PySem.W.clsIn K C = some { name := nm, bases := bs, mro := .ref C :: bm, ns := N', qualname := q, hasDict := true, slotNames := sn, subclasses := sub, abstract := ab, collection := col, hasDel := false } := by unfold PySem.W.clsIn; rw [hC] <;> rfl
  obtain ⟨t1, ho⟩ := exo_at I.hok ea
  have inst : ∃ odx, PySem.W.InstAt s.heap a (PySem.W.excObj C t1 dv .none) C odx := by
    cases dv with
    | none => exact ⟨none, ho, rfl, rfl, trivial⟩
    | some dx =>
      obtain ⟨fs, e⟩ := ed dx rfl
      obtain ⟨mA, hn, _⟩ := exd_at I.hok e
      obtain ⟨oD, _, _, hoD, _⟩ := hn
      exact ⟨some oD, ho, rfl, rfl, hoD⟩
  obtain ⟨odx, inst⟩ := inst
  have hni : a ≠ C := PySem.W.ks_ne X inst hcl
  have opq := PySem.W.looks_opaque (M := model P w) X c.any (C := C)
  obtain ⟨hp0, g, d, t, os⟩ := s
  refine PySem.ks_wpAt_Expr_any (PySem.ks_wpAt_MethodCall (pl := pl) ?_ he) I.quiet rfl
  refine PySem.ks_wpAt_super_base (env := envF F f s0.heap.objs.size) c.ks c.kc (by decide) rfl (X _ _ lf) rfl hp rfl (X _ _ lc) rfl hvs hfile c.top ?_
  refine PySem.W.ks_loadName_global (env := envF F f s0.heap.objs.size) I.ok.kind c.ks (Calls.loadGlobal_builtin (env := envF F f s0.heap.objs.size) (I.mod.glob.keeps I.bk) c.sup (hb1.keeps I.bk) ((hb2 _ (by decide +kernel)).trans (by decide +kernel : bootBuiltins "super" = some (.type "super"))) ⟨rfl, ?_⟩)
  refine wpAny_loadName_free I.ok.kind c.kc (by show F.cl.lookup _ = _; rw [c.clo]; rfl) ⟨_, X _ _ lcc, rfl⟩ ?_
  rw [har]
  refine wpAny_loadName_local I.ok.kind c.ka hns hself ?_
  have hCd : hp0.get? C = some (excClassObj nm q C N' bs bm true sn sub ab col dd k0 k1 k2 k3 k5 "ValueError.__new__") := X _ _ hC
  refine ks_wpAny_isType_cls hCd rfl ⟨rfl, ?_⟩
  refine ks_wpAny_call_super hCd rfl ho rfl (fun c e => by cases e) (PySem.W.looks_mroIn X c.sub) (fun h1 e1 k1 => ?_)
  have X1 : K.In h1 := fun b o e => k1 _ _ (X b o e)
  have isV0 : PySem.W.Looks (model P w) hp0 (isInstance (.ref a) (.type "ValueError")) true := inst.type.andThen (PySem.W.looks_subIn X c.ve)
  have isV := isV0.keeps k1
  have up := c.up
  unfold PySem.W.ks_superIn at up
  rw [hcl, Option.bind_some] at up
  refine PySem.W.kxs_getMethod PySem.W.kxs_ValueError e1 (opq.keeps k1) (l₀ := Value.ref C :: bm) (fun A Q E s k q => wpAny_bind ((PySem.W.looks_clsIn X1 hcl) A _ E s k (wpAny_pure q))) rfl X1 up isV hni (by decide) ?_
  -- the wrapper, called
  have so := h1.objs.size
  have I1 : Inv (ncx CX P w K mg base N F f A outer s0 H0 E0) [] σ H ⟨h1.push (PySem.W.kxs_mw "ValueError.__init__" a), g, d, t + 1, os⟩ := I.kept (t' := t + 1) (fun b u e => Heap.get?_push_of_some _ (k1 b u e))
  have hu1 : (h1.push (PySem.W.kxs_mw "ValueError.__init__" a)).get? h1.objs.size = some (PySem.W.kxs_mw "ValueError.__init__" a) := Heap.get?_push_at rfl rfl
  have hge : hp0.objs.size ≤ h1.objs.size := Nat.le_of_lt (Heap.lt_size e1)
  have Ip : Inv (ncx CX P w K mg base N F f A outer s0 H0 E0) [(h1.objs.size, PySem.W.kxs_mw "ValueError.__init__" a)] σ H ⟨h1.push (PySem.W.kxs_mw "ValueError.__init__" a), g, d, t + 1, os⟩ := I1.pins_of fun p hp => by
    obtain rfl : p = (h1.objs.size, PySem.W.kxs_mw "ValueError.__init__" a) := by simpa using hp
    refine ⟨hu1, I.hok.fresh hge, Nat.ne_of_gt (Nat.lt_of_lt_of_le I.lt hge), I.nofs hge, fun v e => by cases e⟩
  have pa : PA (ncx CX P w K mg base N F f A outer s0 H0 E0) [.Constant (.str txt) kk p3] _ := pa_cons pe_str pa_nil
  refine PySem.W.kxs_callWith (i := "ValueError.__init__") (x := a) rfl (PySem.Calls.evalArgs_plain ?_)
  refine thn (pa.run p4 _ _ σ H (fun vs H' => vs = [.str txt] ∧ H' = H) Ip ⟨rfl, rfl⟩) fun us s2 ⟨vs2, H2, I2, r2, hv, hH⟩ => ?_
  subst hH
  have hu2 := (I2.pin (h1.objs.size, PySem.W.kxs_mw "ValueError.__init__" a) (by simp)).1
  obtain ⟨t2, ho2⟩ := exo_at I2.hok ea
  have hC2 := I2.kIn _ _ hC
  obtain ⟨hp2, g2, d2, tk2, os2⟩ := s2
  refine ⟨hu2, ?_⟩
  refine call_mw (B := "ValueError") PySem.F.excBase_ValueError hC2 ho2 hu2 (by show us.length ≤ sizeLine; rw [← r2.length, hv]; exact Nat.le_of_ble_eq_true rfl) fun t' h' kp he' => ?_
  have J := (I2.pins_of (pins' := []) fun p hp => I2.pin p (by simpa using Or.inl hp)).write (t' := tk2) (x := a) (e := a) (o := exo a C dv) (by rw [ea]; exact True.intro) (.inl rfl) kp ⟨_, he'⟩ (exo_ok he')
  have eu : upd H2 a (exo a C dv) = H2 := by
    funext b
    by_cases hb : b = a
    · rw [hb, upd_same, ea]
    · rw [upd_ne hb]
  rw [eu] at J
  exact k _ J
/-! ### the whole __init__ -/
/-- self.f = f, one after the other -/
inductive Stores (sf : Str) : List Stmt → List Str → Prop
  | nil : Stores sf [] []
  | cons {q1 q2 q3 q4 : Pos} {f : Str} {sts : List Stmt} {fl : List Str} : Stores sf sts fl → Stores sf (.Assign [.Attribute (.Name sf q1) f q2] (.Name f q3) q4 :: sts) (f :: fl)
/-- the exception while it is made: its fields so far -/
def ExoAt (H : Hp) (a C : Addr) (dv : Option Addr) (fs : List (Str × V)) : Prop :=
  H a = some (exo a C dv) ∧ ((dv = none ∧ fs = []) ∨ ∃ dx, dv = some dx ∧ dx ≠ a ∧ H dx = some (exd dx fs))
theorem ExoAt.dict {H : Hp} {a C : Addr} {dv : Option Addr} {fs : List (Str × V)} (e : ExoAt H a C dv fs) : ∀ dx, dv = some dx → ∃ fs, H dx = some (exd dx fs) := fun dx h => by
  rcases e.2 with ⟨e1, _⟩ | ⟨d, e1, _, e2⟩
  · rw [h] at e1; cases e1
  · rw [h] at e1; cases e1; exact ⟨fs, e2⟩
theorem init_walk {CX : CXT} {P : Program} {w : World} {K : PySem.W.Frag} {mg : Str → Option Value} {base : Heap} {N : List Str} {F : NF} {f C cc : Addr} {sf : Str} {A : Around} {outer : List PySem.Env} {s0 : Shared} {H0 : Hp} {E0 : XK} {σ : L2.St}
    (c : InitC P K mg F f C cc sf) {a : Addr} (hdb : (sf == ("__debug__" : Str)) = false) (hcd : (sf == ("__classdict__" : Str)) = false) (h0 : N[0]? = some sf) (h1 : σ[0]? = some (some (.ref a))) {last : Stmt} {Q : Flow → Shared → Prop} {Hx : Hp} {fz : List (Str × V)}
    (hfz : fz.length ≤ 900)
    (hl : ∀ (H : Hp) (s : Shared) (dv : Option Addr), Inv (ncx CX P w K mg base N F f A outer s0 H0 E0) [] σ H s → ExoAt H a C dv fz → (∀ b, b ≠ a → (∀ dx, dv = some dx → b ≠ dx) → H b = Hx b) → (∀ dx, dv = some dx → Hx dx = none) →
      wpAt (model P w) (ncx CX P w K mg base N F f A outer s0 H0 E0).A (.func F.body (envF F f s0.heap.objs.size)) (execs [last] (envF F f s0.heap.objs.size)) Q (ncx CX P w K mg base N F f A outer s0 H0 E0).xe s) :
    ∀ {sts : List Stmt} {fl : List Str}, Stores sf sts fl → ∀ (ys : List V) (H : Hp) (s : Shared) (dv : Option Addr) (fs : List (Str × V)), Inv (ncx CX P w K mg base N F f A outer s0 H0 E0) [] σ H s → ExoAt H a C dv fs →
      (∀ b, b ≠ a → (∀ dx, dv = some dx → b ≠ dx) → H b = Hx b) → (∀ dx, dv = some dx → Hx dx = none) → (∀ x ∈ fl, PySem.W.findIn K (.ref C) x = some none ∧ F.scope.names.lookup x = some .local ∧ (x == ("__debug__" : Str)) = false ∧ (x == ("__classdict__" : Str)) = false) →
      ys.length = fl.length → (∀ (i : Nat) (x : Str) (y : V), fl[i]? = some x → ys[i]? = some y → ∃ j : Nat, N[j]? = some x ∧ σ[j]? = some (some y)) → fz = (fl.zip ys).reverse ++ fs →
      wpAt (model P w) (ncx CX P w K mg base N F f A outer s0 H0 E0).A (.func F.body (envF F f s0.heap.objs.size)) (execs (sts ++ [last]) (envF F f s0.heap.objs.size)) Q (ncx CX P w K mg base N F f A outer s0 H0 E0).xe s := by
  intro sts fl st
  induction st with
  | nil =>
    intro ys H s dv fs I e hb hd _ hy _ hz
    have : ys = [] := List.eq_nil_of_length_eq_zero hy
    subst this
    have hz : fz = fs := hz
    subst hz
    exact hl H s dv I e hb hd
  | @cons q1 q2 q3 q4 x sts fl st ih =>
    intro ys H s dv fs I e hb hd hx hy hj hz
    cases ys with
    | nil => cases hy
    | cons y ys =>
      obtain ⟨hx1, hx2, hx3, hx4⟩ := hx x (by simp)
      obtain ⟨j, hj1, hj2⟩ := hj 0 x y rfl rfl
      have lenz : fs.length ≤ 900 := by
        have := congrArg List.length hz
        rw [List.length_append] at this
        omega
      have ps : PS (ncx CX P w K mg base N F f A outer s0 H0 E0) (.Assign [.Attribute (.Name sf q1) x q2] (.Name x q3) q4) (tOst K x (tVar 0) (tVar j)) :=
        ps_ost (pe_var h0 (.inl c.ka) hdb hcd) (pe_var hj1 (.inl hx2) hx3 hx4) rfl
      have step : ∀ (dx : Addr) (H' : Hp), H' = upd (upd H dx (exd dx ((x, y) :: fs))) a (exo a C (some dx)) → dx ≠ a → (dv = none → H dx = none) → (∀ d, dv = some d → d = dx) → ∀ s', Inv (ncx CX P w K mg base N F f A outer s0 H0 E0) [] σ H' s' →
          wpAt (model P w) (ncx CX P w K mg base N F f A outer s0 H0 E0).A (.func F.body (envF F f s0.heap.objs.size)) (execs (sts ++ [last]) (envF F f s0.heap.objs.size)) Q (ncx CX P w K mg base N F f A outer s0 H0 E0).xe s' := by
        intro dx H' eH dne hn hs s' I'
        subst eH
        refine ih ys _ s' (some dx) ((x, y) :: fs) I' ⟨upd_same, .inr ⟨dx, rfl, dne, by rw [upd_ne dne, upd_same]⟩⟩ (fun b h1 h2 => ?_) (fun d h => ?_) (fun z hz => hx z (by simp [hz])) (by simpa using hy) (fun i z v e1 e2 => hj (i + 1) z v (by simpa using e1) (by simpa using e2)) (by rw [hz]; simp)
        · rw [upd_ne h1, upd_ne (h2 dx rfl)]
          exact hb b h1 fun d hd' => by rw [hs d hd']; exact h2 dx rfl
        · cases h
          cases dv with
          | none => rw [← hb dx dne fun d hd' => by cases hd']; exact hn rfl
          | some d => have := hs d rfl; subst this; exact hd d rfl
      show wpAt _ _ _ (execs (.Assign [.Attribute (.Name sf q1) x q2] (.Name x q3) q4 :: (sts ++ [last])) _) _ _ _
      refine PySem.ks_wpAt_execs_cons (wpAt_of_wpAny ?_)
      refine wpAny_mono (ps.run [] s σ H { nx := fun σ' H' => σ' = σ ∧ ∃ dx, H' = upd (upd H dx (exd dx ((x, y) :: fs))) a (exo a C (some dx)) ∧ dx ≠ a ∧ (dv = none → H dx = none) ∧ ∀ d, dv = some d → d = dx, rt := fun _ _ => False } I ?_) (fun fl' s' hs => ?_) fun _ _ h => h
      · refine ⟨y, hj2, .ref a, h1, a, C, rfl, c.cls, hx1, ?_⟩
        rcases e.2 with ⟨e1, e2⟩ | ⟨dx, e1, dne, e2⟩
        · subst e1 e2
          exact .inl ⟨e.1, fun dx hn hne => ⟨rfl, dx, rfl, hne, fun _ => hn, fun d h => (by cases h)⟩⟩
        · subst e1
          refine .inr ⟨dx, fs, e.1, e2, lenz, rfl, dx, ?_, dne, fun h => (by cases h), fun d h => (by cases h; rfl)⟩
          funext b
          by_cases h1 : b = a
          · subst h1; rw [upd_same, upd_ne (Ne.symm dne)]; exact e.1
          · rw [upd_ne h1]
      · cases fl' with
        | next =>
          obtain ⟨σ', H', J, rfl, dx, eH, dne, hn, hs⟩ := hs
          exact step dx H' eH dne hn hs s' J
        | ret u => obtain ⟨_, _, _, _, _, q⟩ := hs; exact q.elim
        | brk => obtain ⟨_, _, _, q⟩ := hs; exact q.elim
        | cont => obtain ⟨_, _, _, q⟩ := hs; exact q.elim
def spInit (C : Addr) (fl : List Str) : Sp := fun vs H Q _ => ∃ a ys, vs = .ref a :: ys ∧ ys.length = fl.length ∧ H a = some (exo a C none) ∧
  ∀ H' d, d ≠ a → H d = none → H' a = some (exo a C (some d)) → H' d = some (exd d (fl.zip ys).reverse) → (∀ b, b ≠ a → b ≠ d → H' b = H b) → Q .non H'
abbrev superE (p0 p1 p2 p3 p4 : Pos) (kk : Nat) (txt : Str) : Expr := .Call (.Attribute (.Call (.Name "super" p0) [] [] p1) "__init__" p2) [.Constant (.str txt) kk p3] [] p4
/-- C.__init__ keeps its promise -/
theorem fn_init {CX : CXT} {P : Program} {w : World} {K : PySem.W.Frag} {mg : Str → Option Value} {base : Heap} {N : List Str} {F : NF} {f C cc : Addr} {sf : Str} {k : Nat} {oc : Value} {od : Option Addr} {doc pm ctv : Value} {osl : Array (Option Value)} {sts : List Stmt} {fl : List Str}
    {p0 p1 p2 p3 p4 p5 : Pos} {kk : Nat} {txt : Str} {pl : Sem Bool}
    (c : InitC P K mg F f C cc sf) (lk : K.lookup f = some ⟨oc, od, .func (F.fd doc pm ctv), osl⟩) (hcd : PySem.W.codeIn K (.ref F.c) F.qual = true) (S : NScope N (sf :: fl) [("__class__" : Str)] F.scope) (st : Stores sf sts fl) (hne : fl ≠ [])
    (hbody : F.body = sts ++ [.Expr (superE p0 p1 p2 p3 p4 kk txt) p5]) (hfl : ∀ x ∈ fl, PySem.W.findIn K (.ref C) x = some none ∧ (x == ("__debug__" : Str)) = false ∧ (x == ("__classdict__" : Str)) = false) (hlen : fl.length ≤ 900)
    (hdb : (sf == ("__debug__" : Str)) = false) (hcl : (sf == ("__classdict__" : Str)) = false)
    (he : ∀ L : Addr, eval (superE p0 p1 p2 p3 p4 kk txt) (envF F f L) = (do
      let ov ← attributeBase (.Call (.Name "super" p0) [] [] p1) "__init__" (envF F f L) (eval (.Call (.Name "super" p0) [] [] p1) (envF F f L))
      standAt p2.atName
      let (fx, first) ← holding [ov] (getMethod ov "__init__" pl)
      callWith p4 fx first (backTo p4 (starEach [.Constant (.str txt) kk p3] (envF F f L))) [])) :
    FnOk P w K mg base CX (k + 1) f (F.fd doc pm ctv) (sf :: fl) (spInit C fl) := by
  refine ⟨fun vs H Q E ⟨a, ys, e, l, _⟩ => by rw [e, List.length_cons, List.length_cons, l], fun A outer s H args us vs Q E hr e0 hb r hsp => ?_⟩
  obtain ⟨a, ys, rfl, hl, ea, hQ⟩ := hsp
  have KX : K.In s.heap := e0.mod.kin.keeps fun b o e => (e0.bs b o e).1
  have lim : s.heap.NoLimit := e0.mod.nolimit.keeps fun b o e => (e0.bs b o e).1
  obtain ⟨cl, cld, csl, lcc⟩ := c.cell
  have hccK : H cc = none := by
    have := e0.mod.kin _ _ lcc
    exact (e0.bs _ _ this).2
  have CA : CellsAt F.cl [("__class__" : Str)] [some (.ref C)] s.heap H := by
    refine ⟨rfl, fun y c' hy => ?_, fun x y c' hx hy => ?_, fun i y hi => ?_⟩
    · rw [c.clo] at hy
      simp only [List.lookup_cons, List.lookup_nil] at hy
      split at hy
      · cases hy; exact ⟨hccK, _, _, KX _ _ lcc, rfl⟩
      · cases hy
    · rw [c.clo] at hx hy
      simp only [List.lookup_cons, List.lookup_nil] at hx hy
      split at hx
      · rename_i e1
        split at hy
        · rename_i e2
          rw [beq_iff_eq.mp e1, beq_iff_eq.mp e2]
        · cases hy
      · cases hx
    · cases i with
      | zero =>
        have hi : ("__class__" : Str) = y := by simpa using hi
        subst hi
        refine ⟨cc, by rw [c.clo]; simp, fun v hv => ?_⟩
        have hv : V.ref C = v := by simpa using hv
        subst hv
        exact ⟨.ref C, rfl, _, KX _ _ lcc, rfl⟩
      | succ i => simp at hi
  refine ks_codeAny_call_defAt hr.depth (KX _ _ lk) rfl lim (PySem.W.codeRec_of KX hcd) rfl hb S.nocell (fun ⟨n, _⟩ hy => S.par n (List.of_mem_zip hy).1) (fun h₁ hns kp => ?_) S.co S.gen S.kind
  have I : Inv (ncx CX P w K mg base N F f A outer s H E) [] (startF N (.ref a :: ys) [some (.ref C)]) H { s with heap := h₁, toks := s.toks + ((sf :: fl).zip us).length } := inv_startN S hr.hd e0 (by rw [List.length_cons, List.length_cons, hl]) r CA hns kp
  show wpAt (model P w) (A.deeper (envF F f s.heap.objs.size)) (.func F.body (envF F f s.heap.objs.size)) (execs F.body (envF F f s.heap.objs.size)) _ _ _
  have hpre := S.pre
  have hn0 : N[0]? = some sf := by
    have : (N.take ((sf :: fl).length + [("__class__" : Str)].length))[0]? = some sf := by rw [hpre]; rfl
    rwa [List.getElem?_take_of_lt (by simp)] at this
  have key := init_walk (CX := CX) (P := P) (w := w) (K := K) (mg := mg) (base := base) (N := N) (F := F) (f := f) (C := C) (cc := cc) (sf := sf) (A := A) (outer := outer) (s0 := s) (H0 := H) (E0 := E) (σ := startF N (.ref a :: ys) [some (.ref C)])
    c (a := a) hdb hcl hn0 rfl (last := .Expr (superE p0 p1 p2 p3 p4 kk txt) p5) (Q := fun fl' s' => CR CX outer P w H s Q E (.ok (.ret (match fl' with | .ret v => v | _ => .none))) s') (Hx := H) (fz := (fl.zip ys).reverse)
    (by rw [List.length_reverse, List.length_zip]; omega) (fun H' s' dv I' e' hb' hd' => ?_) st ys H _ none [] I ⟨ea, .inl ⟨rfl, rfl⟩⟩ (fun _ _ _ => rfl) (fun _ h => by cases h) (fun x hx => ⟨(hfl x hx).1, S.par x (by simp [hx]), (hfl x hx).2⟩) hl (fun i x y e1 e2 => ?_) (by simp)
  · rw [← hbody] at key
    exact key
  · refine PySem.ks_wpAt_execs_cons ?_
    refine super_last c I' hn0 rfl e'.1 e'.dict (he _) fun s'' J => ?_
    refine wpAt_of_wpAny ?_
    rw [execs_nil]
    refine wpAny_pure ?_
    rcases e'.2 with ⟨_, e2⟩ | ⟨dx, e1, dne, e2⟩
    · exfalso
      cases fl with
      | nil => exact hne rfl
      | cons x r =>
        cases ys with
        | nil => cases hl
        | cons y t => simp at e2
    · subst e1
      have hq : Q .non H' := hQ H' dx dne (hd' dx rfl) e'.1 e2 fun b h1 h2 => hb' b h1 fun d h => by cases h; exact h2
      exact ⟨.non, H', J.os, J.bare, J.base, J.hok, rfl, hq⟩
  · have hi : i < fl.length := (List.getElem?_eq_some_iff.mp e1).1
    refine ⟨i + 1, ?_, ?_⟩
    · have : (N.take ((sf :: fl).length + [("__class__" : Str)].length))[i + 1]? = some x := by
        rw [hpre, List.cons_append, List.getElem?_cons_succ, List.getElem?_append_left hi]; exact e1
      rwa [List.getElem?_take_of_lt (by simp; omega)] at this
    · show (startF N (.ref a :: ys) [some (.ref C)])[i + 1]? = _
      unfold startF
      rw [List.getElem?_append_left (by simp; omega)]
      simp [e2]
end DN

set_option maxHeartbeats 4000000
/-! an own exception made where it is calm: its context is None -/
namespace DN
open PySem PySem.Spec PyProof.Rows L2
theorem pmk_exN {X : Cx} {CX : CXT} {x : Str} {e : Expr} {es : List Expr} {ta : TA} {p pos : Pos} {C fI : Addr} {k : Nat} {fd : FuncData} {ps : List Str} {sp : Sp} (T : OexC X.K C) (iC : PySem.W.findIn X.K (.ref C) "__init__" = some (some (.ref fI)))
    (tI : PySem.W.typeIn X.K (.ref fI) = some (.type "function")) (F1 : FnOk X.prog X.w X.K X.mg X.base CX k fI fd ps sp) (hr : Room (k + 1) X.A) (hb : Binds X.K fd ps []) (hx : Passes CX X (fun _ _ _ => False)) (hg : Gl X x) (hm : X.mg x = some (.ref C)) (ha : PA X (e :: es) ta)
    (hdb : (x == ("__debug__" : Str)) = false) (he : starEach (e :: es) X.env = (false, eval e X.env) :: starEach es X.env) (hpl : (backTo pos (starEach es X.env)).any (·.1) = false) :
    L2N.PMk X (.Call (.Name x p) (e :: es) [] pos) (tMkO C sp [] ta) := by
  intro pins s σ H Q I h
  obtain ⟨nm, q, N, bs, bm, sn, sub, ab, col, dd, k0, k1, k2, k3, k5, cls, hbm⟩ := T.cls
  refine wpAny_Call_Name_kw (ld_glob I hg hm ?_ hdb)
  refine PySem.W.callWith_K (h₀ := X.base) I.ok.mod.kin T.kC (thn (ha.run pos pins s σ H _ I h) fun us s1 got => ?_) he hpl
  obtain ⟨vs, H1, I1, rv, hz, want⟩ := got
  refine ⟨I1.kIn, ?_⟩
  show wpAny _ _ (call (.ref C) us) _ _ _
  obtain ⟨hp, g, dr, tk, os⟩ := s1
  -- the new object lies at n
  have hn := I1.hok.fresh (Nat.le_succ hp.objs.size)
  have hq := want (hp.objs.size + 1) hn
  have old : ∀ b o, hp.get? b = some o → ((hp.push (PySem.W.kdv_tup us)).push (PySem.HandSPX.excO C hp.objs.size)).get? b = some o := fun b o e => Heap.get?_push_of_some _ (Heap.get?_push_of_some _ e)
  have new : ((hp.push (PySem.W.kdv_tup us)).push (PySem.HandSPX.excO C hp.objs.size)).get? (hp.objs.size + 1) = some (PySem.HandSPX.excO C hp.objs.size) := by heap_get
  have I2 := I1.laid (t' := tk) (a := hp.objs.size + 1) (o := exo (hp.objs.size + 1) C none) (h' := (hp.push (PySem.W.kdv_tup us)).push (PySem.HandSPX.excO C hp.objs.size)) old (Nat.le_succ _) (exo_ok new)
  rw [List.append_nil] at hq
  have rel : Vals (V.ref (hp.objs.size + 1) :: vs) (Value.ref (hp.objs.size + 1) :: us) := .cons rfl rv
  have len : (Value.ref (hp.objs.size + 1) :: us).length = ps.length := by rw [← F1.len _ _ _ _ hq]; exact rel.length.symm
  have small : us.length ≤ sizeLine := by rw [← Paired.length rv, sizeLine_eq]; omega
  have bd := hb _ (Value.ref (hp.objs.size + 1) :: us) I2.kIn (by rw [List.append_nil]; exact len)
  rw [List.append_nil] at bd
  have run := F1.run (X.A.under (.builtin "type.__call__" ⟨.ref C :: us, []⟩)) X.stack _ _ ⟨Value.ref (hp.objs.size + 1) :: us, []⟩ (Value.ref (hp.objs.size + 1) :: us) _ _ (fun _ _ _ => False) (hr.make C us []) (I2.env0.make C us []) bd rel hq
  refine wpAny_call (PySem.HandSPX.call_own F.excBase_ValueError (fun Y => PySem.HandSPX.refsVE_contains Y bm hbm) (I1.kIn _ _ cls) (PySem.W.looks_findIn I1.kIn iC) (fun self => PySem.W.bind_fn I1.kIn self tI) small (codeAny_mono run fun r s' out => ?_))
  cases r with
  | error er => exact hx pins σ _ _ er s' I2 out
  | ok fl =>
    cases fl with
    | ret u =>
      obtain ⟨v, H2, os2, bare2, un2, hok2, rv2, ev, d, fs, ea, ed, hd1, q2⟩ := out
      subst ev
      obtain ⟨h2, g2, d2, t2, os'⟩ := s'
      obtain ⟨t0, G, J, keep, gone, at_, free⟩ := mk_end0 (d2 := d2) (t2 := t2) I1 (Nat.le_succ _) old un2 hok2 os2 bare2 ea ed hd1
      exact ⟨rv2, _, _, _, ⟨G, g2, d2, t2, os'⟩, _, .ref C, some d, rfl, J, keep, gone, at_, ⟨rfl, rfl, fun ws e => by cases e; rfl⟩, rfl, rfl, free, rfl, bare2, raises_own T.exC T.tyC, q2⟩
    | _ => exact False.elim out
end DN

set_option maxHeartbeats 4000000
/-! try with any clauses, each with or without a name -/
namespace DN
open PySem PySem.Spec PyProof.Rows L2
abbrev Sut := Addr → Value → Option Addr → TS
/-- the ends of a suite whose exception is named at i (or not at all) -/
def endG (D : Ends) : Option Nat → Ends
  | none => D
  | some i => { nx := fun σ' H' => D.nx (σ'.set i none) H', rt := D.rt, bk := fun σ' H' => D.bk (σ'.set i none) H', ct := fun σ' H' => D.ct (σ'.set i none) H' }
def setG (σ : L2.St) (a : Addr) : Option Nat → L2.St
  | none => σ
  | some i => σ.set i (some (.ref a))
def wG (K : PySem.W.Frag) (Wout : WX) (D : Ends) : List (Value × Option Nat × Sut) → WX
  | [] => Wout
  | (c, oi, ts) :: r => fun cls d σ H => ∃ b, PySem.W.exmOne K cls c = some b ∧ (b = true → ∀ a, H a = none → ts a cls d (endG D oi) (setG σ a oi) H) ∧ (b = false → wG K Wout D r cls d σ H)
inductive HdG (X : Cx) : List ExceptHandler → List (Value × Option Nat × Sut) → Prop
  | nil : HdG X [] []
  | plain {x : Str} {c : Value} {ts : Sut} {b₀ : Stmt} {suite : List Stmt} {np pos' : Pos} {hds : List ExceptHandler} {l : List (Value × Option Nat × Sut)} (hc : Names X x c)
      (hsu : ∀ (a : Addr) (oe : Obj) (cls : Value) (d : Option Addr) (pn : List (Addr × Obj)), L2N.Zn cls d oe → (∃ vs, oe.data = .fields vs) → PSs (X.suite a ((a, oe) :: pn)) (b₀ :: suite) (ts a cls d)) (r : HdG X hds l) :
      HdG X (.ExceptHandler (some (.Name x np)) none (b₀ :: suite) pos' :: hds) ((c, none, ts) :: l)
  | as {x n : Str} {i : Nat} {c : Value} {ts : Sut} {b₀ : Stmt} {suite : List Stmt} {np pos' : Pos} {hds : List ExceptHandler} {l : List (Value × Option Nat × Sut)} (hc : Names X x c) (hN : X.N.Nodup) (hi : X.N[i]? = some n) (hln : X.env.kindOf n = some .local)
      (hsu : ∀ (a : Addr) (oe : Obj) (cls : Value) (d : Option Addr) (pn : List (Addr × Obj)), L2N.Zn cls d oe → (∃ vs, oe.data = .fields vs) → PSs (X.suite a ((a, oe) :: pn)) (b₀ :: suite) (ts a cls d)) (r : HdG X hds l) :
      HdG X (.ExceptHandler (some (.Name x np)) (some n) (b₀ :: suite) pos' :: hds) ((c, some i, ts) :: l)
section
open L2N
variable {X : Cx} {body : List Stmt} {h₀ : ExceptHandler} {hds : List ExceptHandler} {l : List (Value × Option Nat × Sut)} {pos : Pos} {tb : WX → TS} {Wout : WX}
theorem ps_try_g (hs : X.stack = X.env :: X.outer) (hf : X.env.frame = some X.env.locals) (tk : L2N.Takes X Wout)
    (hb : ∀ (W : WX) (pn : List (Addr × Obj)) (xe : Value → Shared → Prop), L2N.Takes (X.tr pn xe) W → PassesOwn (model X.prog X.w) X.A X.env xe → PSs (X.tr pn xe) body (tb W))
    (hh : HdG X (h₀ :: hds) l) : PS X (.Try body (h₀ :: hds) [] [] pos) (fun D σ H => tb (wG X.K Wout D l) D σ H) := by
  refine ⟨fun pins s σ H D I h => ?_⟩
  have ok := I.ok
  have hfr : X.A.frames = some (X.env :: X.outer) := by rw [ok.frames, hs]
  refine wpAny_Try_except ?_
  refine wpAny_mono ((hb (wG X.K Wout D l) (X.pn ++ pins) (fun e s₁ => wpAny (model X.prog X.w) X.A (noteFrame e X.env) (fun _ s₂ => wpAny (model X.prog X.w) X.A (setFlight e none) (fun _ s₃ =>
    wpAny (model X.prog X.w) X.A (handleBy e X.env (h₀ :: hds)) (SP X pins D) X.xe s₃) X.xe s₂) X.xe s₁) (fun u s' xx => ?_) PassesOwn.looking).run [] s σ H D (I.toTry _) h) (fun f s1 hsp => ?_) (fun e s1 he => he)
  · -- the catch
    obtain ⟨a, B, sI, pins', σ', H', cls, d, rfl, J', nb, up, sky, na, os, ag, w⟩ := xx
    have J : Inv X pins σ' H' sI := J'.ofTry ok
    have sky' : Sky B (X.env :: X.outer) a (Zn cls d) X.env.locals s'.heap := by rw [← hs]; exact sky
    show wpAny (model X.prog X.w) X.A (noteFrame (.ref a) X.env) _ _ _
    refine Sky.land Zn.steady hfr hf sky' fun h3 fl3 up3 => ?_
    have J3 : Inv X pins σ' H' { s' with heap := h3 } := J.landed nb fl3.1 (up.trans up3) os ag
    obtain ⟨oe3, vs3, he3, hz3, hd3⟩ := fl3.there
    have notFr : ∀ {h : Heap} {o : Obj} {vs : Array Value}, h.FunFrames B (X.env :: X.outer) → h.get? a = some o → o.data = .fields vs → a ∉ frs (X.env :: X.outer) := fun {h o vs} ff e dd hm => by
      obtain ⟨_, o', e', hnf⟩ := ff.mem hm
      rw [e] at e'; cases e'
      exact hnf _ dd
    have nfr := notFr fl3.2.2.1 he3 hd3
    have nL : a ≠ X.env.locals := fun z => nfr (List.mem_filterMap.mpr ⟨X.env, List.mem_cons_self, by rw [hf, z]⟩)
    have nF : a ∉ X.fs := fun hm => by
      obtain ⟨e, he, q⟩ := List.mem_filterMap.mp hm
      exact nfr (List.mem_filterMap.mpr ⟨e, List.mem_cons_of_mem _ he, q⟩)
    have S3 := J3.suite he3 hd3 na nL nF
    have go : ∀ {hds' : List ExceptHandler} {l' : List (Value × Option Nat × Sut)}, HdG X hds' l' → wG X.K Wout D l' cls d σ' H' →
        wpAny (model X.prog X.w) X.A (handleBy (.ref a) X.env hds') (SP X pins D) X.xe { s' with heap := h3 } := by
      intro hds' l' hk
      induction hk with
      | nil =>
        intro w
        refine wpAny_handleBy_nil ?_
        obtain ⟨k1, k2, k3, oe, vs, T, oT, ts', he, hz, hd, h1, hr⟩ := id fl3
        unfold PySem.passOn
        refine wpAny_bind (wpAny_field he hd h1 ?_)
        rw [if_neg (show ¬ ((Value.ref T == Value.none) = true) from by simp)]
        have fin : wpAny (model X.prog X.w) X.A (setFlight (.ref a) X.env.frame) (fun _ s4 => wpAny (model X.prog X.w) X.A (throw (.ref a) : Sem Flow) (SP X pins D) X.xe s4) X.xe { s' with heap := h3 } := by
          rw [hf]
          refine HandSPX.setFlight_upZ fl3 fun h4 hh4 up4 => wpAny_throw (tk _ _ ?_)
          exact ⟨a, B, sI, pins, σ', H', cls, d, rfl, J, nb, (up.trans up3).trans up4, .inr (.inr (by rw [hs]; exact hh4)), na, os, ag, w⟩
        first
          | exact wpAny_bind (wpAny_pure (wpAny_bind fin))
          | exact wpAny_bind fin
      | @plain x c ts b₀ suite np pos' hds2 l2 hc hsu r ih =>
        intro w
        obtain ⟨b, hb1, hyes, hno⟩ := w
        refine wpAny_handleBy_cons (codeAny_handlers_test ?_) (by intro q; cases q)
        have LT : PySem.W.Looks (model X.prog X.w) h3 (typeOf (.ref a)) cls := fun A Q E s k q => wpAny_typeOf_ref (k _ _ he3) (by rw [hz3.1]; exact q)
        have LM := PySem.W.exm_one (M := model X.prog X.w) (J3.kIn) LT hb1
        have test : ∀ {Q : Value → Shared → Prop} {E : Value → Shared → Prop}, Q c { s' with heap := h3 } → wpAny (model X.prog X.w) (X.A.mark (some (.ref a))) (eval (.Name x np) X.env) Q E { s' with heap := h3 } := fun {Q E} q => by
          obtain ⟨hg, hdbg, hm | ⟨hm, hv, hnn⟩⟩ := hc
          · exact ld_glob (X := X.suite a ((a, oe3) :: (X.pn ++ pins))) S3 hg hm q hdbg
          · exact ld_blt (X := X.suite a ((a, oe3) :: (X.pn ++ pins))) S3 hg hm hv q hnn hdbg
        refine test (LM.here ?_)
        cases b with
        | true =>
          refine codeAny_handlers_suite ?_
          refine HandSPX.lands_againZ fl3 fun h4 fl4 up4 => ?_
          have J4 : Inv X pins σ' H' { s' with heap := h4 } := J.landed nb fl4.1 ((up.trans up3).trans up4) os ag
          obtain ⟨oe4, vs4, he4, hz4, hd4⟩ := fl4.there
          have S4 := J4.suite he4 hd4 na nL nF
          refine wpAny_mono ((hsu a oe4 cls d (X.pn ++ pins) hz4 ⟨_, hd4⟩).run [] _ _ H' _ S4 (hyes rfl a na)) (fun f s6 hsp => ?_) (fun _ _ z => False.elim z)
          cases f with
          | next =>
            obtain ⟨σ6, H6, S6, q6⟩ := hsp
            exact ⟨_, _, S6.unsuite ok, q6⟩
          | brk =>
            obtain ⟨σ6, H6, S6, q6⟩ := hsp
            exact ⟨_, _, S6.unsuite ok, q6⟩
          | cont =>
            obtain ⟨σ6, H6, S6, q6⟩ := hsp
            exact ⟨_, _, S6.unsuite ok, q6⟩
          | ret u =>
            obtain ⟨v6, σ6, H6, S6, r6, q6⟩ := hsp
            exact ⟨_, _, _, S6.unsuite ok, r6, q6⟩
        | false =>
          show wpAny _ X.A (handleBy (.ref a) X.env hds2) _ _ _
          exact ih (hno rfl)
      | @as x n i c ts b₀ suite np pos' hds2 l2 hc hN hi hln hsu r ih =>
        intro w
        have hloc : Loc X.env.scope n := .inl hln
        obtain ⟨b, hb1, hyes, hno⟩ := w
        refine wpAny_handleBy_cons (codeAny_handlers_test ?_) (by intro q; cases q)
        have LT : PySem.W.Looks (model X.prog X.w) h3 (typeOf (.ref a)) cls := fun A Q E s k q => wpAny_typeOf_ref (k _ _ he3) (by rw [hz3.1]; exact q)
        have LM := PySem.W.exm_one (M := model X.prog X.w) (J3.kIn) LT hb1
        have test : ∀ {Q : Value → Shared → Prop} {E : Value → Shared → Prop}, Q c { s' with heap := h3 } → wpAny (model X.prog X.w) (X.A.mark (some (.ref a))) (eval (.Name x np) X.env) Q E { s' with heap := h3 } := fun {Q E} q => by
          obtain ⟨hg, hdbg, hm | ⟨hm, hv, hnn⟩⟩ := hc
          · exact ld_glob (X := X.suite a ((a, oe3) :: (X.pn ++ pins))) S3 hg hm q hdbg
          · exact ld_blt (X := X.suite a ((a, oe3) :: (X.pn ++ pins))) S3 hg hm hv q hnn hdbg
        refine test (LM.here ?_)
        cases b with
        | true =>
          refine codeAny_handlers_suite_as ?_
          refine HandSPX.lands_againZ fl3 fun h4 fl4 up4 => ?_
          have J4 : Inv X pins σ' H' { s' with heap := h4 } := J.landed nb fl4.1 ((up.trans up3).trans up4) os ag
          obtain ⟨oe4, vs4, he4, hz4, hd4⟩ := fl4.there
          have S4 := J4.suite he4 hd4 na nL nF
          refine store_ok (X := X.suite a ((a, oe4) :: (X.pn ++ pins))) (v := .ref a) S4 hN hi hloc rfl (fun s5 S5 => ?_) (.inr hln)
          refine wpAny_mono ((hsu a oe4 cls d (X.pn ++ pins) hz4 ⟨_, hd4⟩).run [] s5 _ H' _ S5 (hyes rfl a na)) (fun f s6 hsp => ?_) (fun _ _ z => False.elim z)
          have end_ : ∀ {σ6 : L2.St} {H6 : Hp} {Q : Shared → Prop}, Inv (X.suite a ((a, oe4) :: (X.pn ++ pins))) [] σ6 H6 s6 → (∀ s7, Inv X pins (σ6.set i none) H6 s7 → Q s7) →
              wpAny (model X.prog X.w) X.A (do bindName X.env n .none; unbindBehindTheSuite X.env n pos') (fun _ s7 => Q s7) X.xe s6 := fun {σ6 H6 Q} S6 hq => gone_ok (S6.unsuite ok) hN hi hln hq
          cases f with
          | next =>
            obtain ⟨σ6, H6, S6, q6⟩ := hsp
            exact end_ S6 fun s7 J7 => ⟨_, _, J7, q6⟩
          | brk =>
            obtain ⟨σ6, H6, S6, q6⟩ := hsp
            exact end_ S6 fun s7 J7 => ⟨_, _, J7, q6⟩
          | cont =>
            obtain ⟨σ6, H6, S6, q6⟩ := hsp
            exact end_ S6 fun s7 J7 => ⟨_, _, J7, q6⟩
          | ret u =>
            obtain ⟨v6, σ6, H6, S6, r6, q6⟩ := hsp
            exact end_ S6 fun s7 J7 => ⟨_, _, _, J7, r6, q6⟩
        | false =>
          show wpAny _ X.A (handleBy (.ref a) X.env hds2) _ _ _
          exact ih (hno rfl)
    exact go hh w
  · cases f with
    | next =>
      obtain ⟨σ', H', J', q⟩ := hsp
      exact wpAny_execs_nil ⟨σ', H', J'.ofTry ok, q⟩
    | brk =>
      obtain ⟨σ', H', J', q⟩ := hsp
      exact ⟨σ', H', J'.ofTry ok, q⟩
    | cont =>
      obtain ⟨σ', H', J', q⟩ := hsp
      exact ⟨σ', H', J'.ofTry ok, q⟩
    | ret u =>
      obtain ⟨v, σ', H', J', r, q⟩ := hsp
      exact ⟨v, σ', H', J'.ofTry ok, r, q⟩
end
end DN

set_option maxHeartbeats 4000000
/-! raise, try, what a suite says of its exception -/
namespace DN
open PySem PySem.Spec L2 NdefX
section
variable {X : Cx} {G : GC}
/-- an own exception class with an __init__ -/
def ExcK (G : GC) (c : Str) (fl : List Str) (k : Nat) : Prop := ∃ (C fI : Addr) (fd : FuncData) (sf : Str), G.mg c = some (.ref C) ∧ G.cm c = some C ∧ OexC G.K C ∧ PySem.W.findIn G.K (.ref C) "__init__" = some (some (.ref fI)) ∧
  PySem.W.typeIn G.K (.ref fI) = some (.type "function") ∧ FnOk G.P G.w G.K G.mg G.base (CX G.P G.w) k fI fd (sf :: fl) (spInit C fl) ∧ Binds G.K fd (sf :: fl) [] ∧ fl.Nodup ∧ fl.length ≤ 900
def sRaise (c : Str) (fl : List Str) (tt : SA) : SS := fun D ρ M => tt (fun x M1 => D.ex x ρ M1) ρ M fun ds M1 => D.ex ⟨c, fl, ds⟩ ρ M1
theorem lookup_rev {β : Type} : ∀ {fl : List Str} {vs : List β} {k : Str} {v : β}, fl.Nodup → (fl.zip vs).lookup k = some v → (fl.zip vs).reverse.lookup k = some v
  | [], _, _, _, _, h => by simp at h
  | f :: fl, [], _, _, _, h => by simp at h
  | f :: fl, y :: vs, k, v, nd, h => by
    simp only [List.zip_cons_cons, List.reverse_cons]
    obtain ⟨n1, n2⟩ := List.nodup_cons.mp nd
    simp only [List.zip_cons_cons, List.lookup_cons] at h
    rw [List.lookup_append]
    split at h
    · rename_i e
      cases h
      have ek := beq_iff_eq.mp e
      have : (fl.zip vs).reverse.lookup k = none := by
        rw [List.lookup_eq_none_iff]
        intro p hp
        have hp := (List.of_mem_zip (List.mem_reverse.mp hp)).1
        simp only [beq_eq_false_iff_ne, ne_eq, bne_iff_ne, Bool.not_eq_true]
        intro e2
        rw [ek] at e2
        exact n1 (by rw [e2]; exact hp)
      rw [this]
      simp [List.lookup_cons, e]
    · rw [lookup_rev n2 h]; rfl
theorem RMem.xd {H : Hp} {al : List Addr} {M : Mem} (m : RMem G H al M) {p : Addr} {o : HO} (h : H p = none) : Nxt G H al (upd H p o) al M := by
  have k : KeepH H (upd H p o) := KeepH.new h
  exact ⟨List.prefix_refl _, k, m.nd, m.len, fun n o e => let ⟨a, u, e1, e2, r⟩ := m.at_ n o e; ⟨a, u, e1, by rw [upd_ne (ne_of_none e2 h)]; exact e2, r.mono k (List.prefix_refl _)⟩⟩
variable {a : Expr} {es : List Expr} {tt : SA} {c : Str} {fl : List Str} {k : Nat} {p pos pos' : Pos}
theorem ms_raise (hP : X.prog = G.P) (hw : X.w = G.w) (hK : X.K = G.K) (hmg : X.mg = G.mg) (hbs : X.base = G.base) (e : ExcK G c fl k) (hc : X.calm = true) (hr : Room (k + 1) X.A) (hg : Gl X c) (ha : MA X G (a :: es) tt) (hn : (a :: es).length = fl.length)
    (hdb : (c == ("__debug__" : Str)) = false) (he : starEach (a :: es) X.env = (false, eval a X.env) :: starEach es X.env) (hpl : (backTo pos (starEach es X.env)).any (·.1) = false) :
    MS X G (.Raise (some (.Call (.Name c p) (a :: es) [] pos)) none pos') (sRaise c fl tt) := by
  obtain ⟨C, fI, fd, sf, e1, e2, e3, e4, e5, e6, e7, e8, e9⟩ := e
  intro W tk
  refine PS.imp (L2N.ps_raise hc tk (pmk_exN (CX := CX X.prog X.w) (by rw [hK]; exact e3) (by rw [hK]; exact e4) (by rw [hK]; exact e5) (by rw [hP, hw, hK, hmg, hbs]; exact e6) hr (by rw [hK]; exact e7) passL hg (by rw [hmg]; exact e1) (ha W tk) hdb he hpl)) fun De σ H h => ?_
  obtain ⟨ρ, al, M, Ds, r, h, er⟩ := h
  refine ⟨ρ, al, M, _, _, r, h, fun H1 al1 M1 vs ds n1 r1 l1 h1 => ?_, er.xcl r⟩
  have lv : vs.length = fl.length := by rw [r1.vlen, l1, hn]
  refine ⟨by omega, fun x hx => ?_⟩
  show spInit C fl (.ref x :: (vs ++ [])) (upd H1 x (exo x C none)) _ _
  rw [List.append_nil]
  refine ⟨x, vs, rfl, lv, upd_same, fun H' d dne dn ea ed hb => ⟨rfl, d, _, ea, ed, ?_, ?_⟩⟩
  · rw [upd_ne dne] at dn; exact dn
  · rw [upd_ne dne] at dn
    have eH : upd (del H' x) d (.xd (fl.zip vs).reverse) = upd H1 d (.xd (fl.zip vs).reverse) := by
      funext b
      by_cases hd : b = d
      · subst hd; rw [upd_same, upd_same]
      · rw [upd_ne hd, upd_ne hd]
        by_cases hx' : b = x
        · subst hx'; rw [del_same, hx]
        · rw [del_ne hx', hb b hx' hd, upd_ne hx']
    rw [eH]
    have n2 := n1.trans (n1.m.xd (o := .xd (fl.zip vs).reverse) dn)
    refine er.ex _ _ _ _ _ _ _ _ n2 (r.go n2) ?_ h1
    exact ⟨C, e2, rfl, .inr ⟨d, _, vs, rfl, upd_same, r1.mono (KeepH.new dn) (List.prefix_refl _), (by show fl.length = ds.length; rw [l1, hn]), fun k v hk => lookup_rev e8 hk⟩⟩
/-! ### a class without an __init__ of its own -/
def Exc0 (G : GC) (c : Str) : Prop := ∃ C, G.mg c = some (.ref C) ∧ G.cm c = some C ∧ PySem.W.excIn G.K C [.type "ValueError", .type "Exception", .type "BaseException", .type "object"] "ValueError.__new__" = true ∧ PySem.W.keepIn G.K (.ref C) = true ∧
  PySem.W.subIn G.K (.ref C) (.type "BaseException") = some true ∧ PySem.W.typeIn G.K (.ref C) = some (.type "type")
theorem pmk0 {x : Str} {C : Addr} {bb : List Value} {B nid iid : String} {p pos : Pos} (F : ExcBaseFacts B nid iid bb) (q : PySem.W.excIn X.K C bb nid = true) (gC : X.mg x = some (.ref C)) (kC : PySem.W.keepIn X.K (.ref C) = true) (r : Raises X (.ref C)) (hg : Gl X x)
    (hdb : (x == ("__debug__" : Str)) = false) : L2N.PMk X (.Call (.Name x p) [] [] pos) (fun _ H Q => Q (.ref C) none H) := by
  intro pins s σ H Q I h
  refine wpAny_Call_Name_kw (ld_glob I hg gC ?_ hdb)
  refine PySem.W.callWith_K0 I.kIn kC ?_
  show wpAny _ _ (call (.ref C) []) _ _ _
  obtain ⟨_, _, _, _, _, _, _, _, _, _, _, _, _, _, _, _, _, hC, hN, hni, T⟩ := exc_obj I.kIn q
  exact wpAny_call_exc_subT F T hC hN hni (fun h' e hm => L2N.mk_of I hm r h (I.hok.gone hm.new)) (by show 0 ≤ sizeLine; omega)
theorem ms_raise0 {c : Str} {p pos pos' : Pos} (hK : X.K = G.K) (hmg : X.mg = G.mg) (e : Exc0 G c) (hc : X.calm = true) (hg : Gl X c) (hdb : (c == ("__debug__" : Str)) = false) :
    MS X G (.Raise (some (.Call (.Name c p) [] [] pos)) none pos') (sRaise c [] aNil) := by
  obtain ⟨C, e1, e2, e3, e4, e5, e6⟩ := e
  intro W tk
  refine PS.imp (L2N.ps_raise hc tk (pmk0 PySem.F.excBase_ValueError (by rw [hK]; exact e3) (by rw [hmg]; exact e1) (by rw [hK]; exact e4) (raises_own (by rw [hK]; exact e5) (by rw [hK]; exact e6)) hg hdb)) fun De σ H h => ?_
  obtain ⟨ρ, al, M, Ds, r, h, er⟩ := h
  exact er.ex _ _ _ _ _ _ _ _ r.m.go r ⟨C, e2, rfl, .inl ⟨rfl, rfl, rfl⟩⟩ h
end
/-! ### try .. except C as n -/
section
variable {G G0 : GC}
theorem RMem.re (hK : G.K = G0.K) (hc : G.cm = G0.cm) {H : Hp} {al : List Addr} {M : Mem} (m : RMem G H al M) : RMem G0 H al M :=
  ⟨m.nd, m.len, fun n o e => by rw [← hK, ← hc]; exact m.at_ n o e⟩
theorem Nxt.re (hK : G.K = G0.K) (hc : G.cm = G0.cm) {H H' : Hp} {al al' : List Addr} {M' : Mem} (n : Nxt G H al H' al' M') : Nxt G0 H al H' al' M' := ⟨n.p, n.k, n.m.re hK hc⟩
theorem REnv.re (hK : G.K = G0.K) {H : Hp} {al : List Addr} {σ : L2.St} {ρ : Env} (e : REnv G H al σ ρ) : REnv G0 H al σ ρ := ⟨e.1, fun i d h => by rw [← hK]; exact e.2 i d h⟩
end
/-- what is known of a class that is asked for: which classes of exceptions lie under it -/
def ClsK (G : GC) (cv : Value) (tab : List (Str × Bool)) : Prop := ∀ n b, tab.lookup n = some b → ∃ Cn, G.cm n = some Cn ∧ PySem.W.exmOne G.K (.ref Cn) cv = some b ∧ PySem.W.kitOne G.K (.ref Cn) cv = some b
/-- a clause: the name's place, the classes that it takes, its suite -/
structure Hdl where
  oi : Option Nat
  tab : List (Str × Bool)
  su : Exn → SS
def sdG (D : SD) : Option Nat → SD
  | none => { nx := D.nx, rt := D.rt, bk := D.bk, ct := D.ct, ex := fun _ _ _ => False }
  | some i => { nx := fun ρ2 M2 => D.nx (ρ2.set i none) M2, rt := D.rt, bk := fun ρ2 M2 => D.bk (ρ2.set i none) M2, ct := fun ρ2 M2 => D.ct (ρ2.set i none) M2, ex := fun _ _ _ => False }
def envG (ρ : Env) : Option Nat → Env
  | none => ρ
  | some i => ρ.set i none
def okG (ρ : Env) : Option Nat → Prop
  | none => True
  | some i => i < ρ.length
def exG (D : SD) : List Hdl → Exn → Env → Mem → Prop
  | [] => D.ex
  | h :: r => fun x ρ1 M1 => match h.tab.lookup x.cls with
    | some true => okG ρ1 h.oi ∧ h.su x (sdG D h.oi) (envG ρ1 h.oi) M1
    | some false => exG D r x ρ1 M1
    | none => False
def sTryG (hs : List Hdl) (tb : SS) : SS := fun D ρ M => tb { nx := D.nx, rt := D.rt, bk := D.bk, ct := D.ct, ex := exG D hs } ρ M
abbrev GC.inX (G : GC) (x : Exn) (a : Addr) (cls : Value) (d : Option Addr) (i : Nat) : GC := { G with xn := some ⟨x, a, cls, d, i⟩ }
section
variable {X : Cx} {G : GC} {c n : Str} {cv : Value} {i : Nat} {body suite : List Stmt} {b₀ : Stmt} {np pos pos' : Pos} {tb : SS} {tsu : Exn → SS} {tab : List (Str × Bool)}
theorem REnv.setN {H : Hp} {al : List Addr} {σ : L2.St} {ρ : Env} (e : REnv G H al σ ρ) (i : Nat) (v : Option V) : REnv G H al (σ.set i v) (ρ.set i none) := by
  refine ⟨by rw [List.length_set, List.length_set]; exact e.1, fun j d h => ?_⟩
  by_cases hj : i = j
  · subst hj
    have hl : i < ρ.length := by have := (List.getElem?_eq_some_iff.mp h).1; simpa using this
    rw [List.getElem?_set_self hl] at h; cases h
  · rw [List.getElem?_set_ne hj] at h
    rw [List.getElem?_set_ne hj]
    exact e.2 j d h
/-- clauses and what they are read as -/
inductive HdK (X : Cx) (G : GC) : List ExceptHandler → List Hdl → Prop
  | nil : HdK X G [] []
  | plain {c : Str} {cv : Value} {h : Hdl} {b₀ : Stmt} {suite : List Stmt} {np pos' : Pos} {hds : List ExceptHandler} {l : List Hdl} (ho : h.oi = none) (hc : Names X c cv) (hcl : ClsK G cv h.tab)
      (hsu : ∀ (x : Exn) (a : Addr) (oe : Obj) (cls : Value) (d : Option Addr) (pn : List (Addr × Obj)), L2N.Zn cls d oe → (∃ vs, oe.data = .fields vs) → MSs (X.suite a ((a, oe) :: pn)) G (b₀ :: suite) (h.su x)) (r : HdK X G hds l) :
      HdK X G (.ExceptHandler (some (.Name c np)) none (b₀ :: suite) pos' :: hds) (h :: l)
  | as {c n : Str} {i : Nat} {cv : Value} {h : Hdl} {b₀ : Stmt} {suite : List Stmt} {np pos' : Pos} {hds : List ExceptHandler} {l : List Hdl} (ho : h.oi = some i) (hN : X.N.Nodup) (hi : X.N[i]? = some n) (hln : X.env.kindOf n = some .local) (hc : Names X c cv) (hcl : ClsK G cv h.tab)
      (hsu : ∀ (x : Exn) (a : Addr) (oe : Obj) (cls : Value) (d : Option Addr) (pn : List (Addr × Obj)), L2N.Zn cls d oe → (∃ vs, oe.data = .fields vs) → MSs (X.suite a ((a, oe) :: pn)) (G.inX x a cls d i) (b₀ :: suite) (h.su x)) (r : HdK X G hds l) :
      HdK X G (.ExceptHandler (some (.Name c np)) (some n) (b₀ :: suite) pos' :: hds) (h :: l)
def sutG (G : GC) (h : Hdl) : Sut := fun a cls d De σ H => match h.oi with
  | none => ∃ x, LS G (fun _ _ _ _ => False) (h.su x) De σ H
  | some i => ∃ x, LS (G.inX x a cls d i) (fun _ _ _ _ => False) (h.su x) De σ H
/-- the class values go along -/
inductive Clv (G : GC) : List Hdl → List (Value × Option Nat × Sut) → Prop
  | nil : Clv G [] []
  | cons {h : Hdl} {cv : Value} {r : List Hdl} {l : List (Value × Option Nat × Sut)} (hcl : ClsK G cv h.tab) (t : Clv G r l) : Clv G (h :: r) ((cv, h.oi, sutG G h) :: l)
theorem hdG_of {hds : List ExceptHandler} {l : List Hdl} (k : HdK X G hds l) : ∃ l', HdG X hds l' ∧ Clv G l l' := by
  induction k with
  | nil => exact ⟨[], .nil, .nil⟩
  | @plain c cv h b₀ suite np pos' hds l ho hc hcl hsu r ih =>
    obtain ⟨l', k1, k2⟩ := ih
    have e : h.oi = none := ho
    refine ⟨(cv, none, sutG G h) :: l', .plain hc (fun a oe cls d pn hz hv => ⟨fun pins s σ H D I q => ?_⟩) k1, ?_⟩
    · unfold sutG at q
      rw [e] at q
      obtain ⟨x, q⟩ := q
      exact (hsu x a oe cls d pn hz hv _ takes0).run pins s σ H D I q
    · have := Clv.cons (h := h) hcl k2
      rw [e] at this
      exact this
  | @as c n i cv h b₀ suite np pos' hds l ho hN hi hln hc hcl hsu r ih =>
    obtain ⟨l', k1, k2⟩ := ih
    have e : h.oi = some i := ho
    refine ⟨(cv, some i, sutG G h) :: l', .as hc hN hi hln (fun a oe cls d pn hz hv => ⟨fun pins s σ H D I q => ?_⟩) k1, ?_⟩
    · unfold sutG at q
      rw [e] at q
      obtain ⟨x, q⟩ := q
      exact (hsu x a oe cls d pn hz hv _ takes0).run pins s σ H D I q
    · have := Clv.cons (h := h) hcl k2
      rw [e] at this
      exact this
theorem exG_wG (hx : G.xn = none) {W : WX} {De : Ends} {Ds : SD} {H0 : Hp} {al0 : List Addr} {l : List Hdl} {l' : List (Value × Option Nat × Sut)} (k : Clv G l l') (er : EndR G W H0 al0 Ds De)
    {σ' : L2.St} {ρ' : Env} {H' : Hp} {al' : List Addr} {M' : Mem} {x : Exn} {cls : Value} {dd : Option Addr} (n' : Nxt G H0 al0 H' al' M') (r' : RSt G H' al' M' σ' ρ') (rx : RExn G.K G.cm H' al' x cls dd) :
    exG Ds l x ρ' M' → wG G.K W De l' cls dd σ' H' := by
  induction k with
  | nil => exact fun hq => er.ex _ _ _ _ _ _ _ _ n' r' rx hq
  | @cons h cv r l2 hcl t ih =>
    intro hq
    have hq : (match h.tab.lookup x.cls with
      | some true => okG ρ' h.oi ∧ h.su x (sdG Ds h.oi) (envG ρ' h.oi) M'
      | some false => exG Ds r x ρ' M'
      | none => False) := hq
    cases e : h.tab.lookup x.cls with
    | none => rw [e] at hq; exact hq.elim
    | some b =>
      rw [e] at hq
      obtain ⟨Cn, e1, e2, e3⟩ := hcl _ _ e
      have rx0 := rx
      obtain ⟨C, q1, ec, q3⟩ := rx
      rw [e1] at q1; cases q1
      refine ⟨b, by rw [ec]; exact e2, fun hb a na => ?_, fun hb => ?_⟩
      · subst hb
        obtain ⟨hil, hq⟩ := hq
        cases eo : h.oi with
        | none =>
          rw [eo] at hq
          show sutG G h a cls dd _ _ H'
          unfold sutG
          rw [eo]
          refine ⟨x, ρ', al', M', _, r', hq, ?_⟩
          exact ⟨fun σ2 ρ2 H2 al2 M2 n2 r2 h2 => er.nx _ _ _ _ _ (n'.trans n2) r2 h2, fun H2 al2 M2 v d n2 rd h2 => er.rt _ _ _ _ _ (n'.trans n2) rd h2,
            fun σ2 ρ2 H2 al2 M2 n2 r2 h2 => er.bk _ _ _ _ _ (n'.trans n2) r2 h2, fun σ2 ρ2 H2 al2 M2 n2 r2 h2 => er.ct _ _ _ _ _ (n'.trans n2) r2 h2, fun _ _ _ _ _ _ _ _ _ _ _ h => h.elim⟩
        | some i =>
          rw [eo] at hq hil
          have hil : i < ρ'.length := hil
          have hil' : i < σ'.length := by rw [← r'.e.1]; exact hil
          show sutG G h a cls dd _ _ H'
          unfold sutG
          rw [eo]
          refine ⟨x, ρ'.set i none, al', M', _, ⟨RMem.re (G := G) (G0 := G.inX x a cls dd i) rfl rfl r'.m, REnv.re (G := G) (G0 := G.inX x a cls dd i) rfl (r'.e.setN i _), ?_⟩, hq, ?_⟩
          · show XOk (G.inX x a cls dd i) H' al' (σ'.set i (some (.ref a)))
            exact ⟨rx0, by rw [List.getElem?_set_self hil']⟩
          · have back : ∀ {σ2 : L2.St} {ρ2 : Env} {H2 : Hp} {al2 : List Addr} {M2 : Mem}, RSt (G.inX x a cls dd i) H2 al2 M2 σ2 ρ2 → RSt G H2 al2 M2 (σ2.set i none) (ρ2.set i none) := fun r2 =>
              ⟨RMem.re (G := G.inX x a cls dd i) (G0 := G) rfl rfl r2.m, REnv.re (G := G.inX x a cls dd i) (G0 := G) rfl (r2.e.setN i none), by unfold XOk; rw [hx]; trivial⟩
            refine ⟨fun σ2 ρ2 H2 al2 M2 n2 r2 h2 => er.nx _ _ _ _ _ (n'.trans (Nxt.re (G := G.inX x a cls dd i) (G0 := G) rfl rfl n2)) (back r2) h2, fun H2 al2 M2 v d n2 rd h2 => er.rt _ _ _ _ _ (n'.trans (Nxt.re (G := G.inX x a cls dd i) (G0 := G) rfl rfl n2)) rd h2,
              fun σ2 ρ2 H2 al2 M2 n2 r2 h2 => er.bk _ _ _ _ _ (n'.trans (Nxt.re (G := G.inX x a cls dd i) (G0 := G) rfl rfl n2)) (back r2) h2, fun σ2 ρ2 H2 al2 M2 n2 r2 h2 => er.ct _ _ _ _ _ (n'.trans (Nxt.re (G := G.inX x a cls dd i) (G0 := G) rfl rfl n2)) (back r2) h2, fun _ _ _ _ _ _ _ _ _ _ _ h => h.elim⟩
      · subst hb
        exact ih hq
theorem ms_tryG {h₀ : ExceptHandler} {hds : List ExceptHandler} {l : List Hdl} (hx : G.xn = none) (hK : X.K = G.K) (hs : X.stack = X.env :: X.outer) (hf : X.env.frame = some X.env.locals)
    (hb : ∀ (pn : List (Addr × Obj)) (xe : Value → Shared → Prop), PassesOwn (model X.prog X.w) X.A X.env xe → MSs (X.tr pn xe) G body tb) (k : HdK X G (h₀ :: hds) l) :
    MS X G (.Try body (h₀ :: hds) [] [] pos) (sTryG l tb) := by
  intro W tk
  obtain ⟨l', k1, k2⟩ := hdG_of k
  refine PS.imp (ps_try_g (tb := fun W' => LS G W' tb) hs hf tk (fun W' pn xe t' hp => hb pn xe hp W' t') k1) fun De σ H h => ?_
  obtain ⟨ρ, al, M, Ds, r, h, er⟩ := h
  exact ⟨ρ, al, M, _, r, h, ⟨er.nx, er.rt, er.bk, er.ct, fun σ' ρ' H' al' M' x cls dd n' r' rx hq => by rw [hK]; exact exG_wG hx k2 er n' r' rx hq⟩⟩
end
/-! ### in a suite: its exception's class, its fields -/
structure XfK (K : PySem.W.Frag) (C : Addr) (flds : List Str) : Prop where
  xf : XfC K C
  cl : (PySem.W.clsIn K C).isSome = true
  ha : PySem.W.findIn K (.ref C) "__class__" = some (some (.builtin "object.__class__"))
  hn : PySem.W.specialIn K (.builtin "object.__class__") "__get__" = some (some (.builtin "getset_descriptor.__get__"))
  ht : PySem.W.takesIn K (.builtin "object.__class__") = some true
  hm : PySem.W.mroIn K C (.type "object") = some true
  nf : ∀ f ∈ flds, PySem.W.findIn K (.ref C) f = some none
def Suite (X : Cx) (G : GC) : Prop := ∀ n, G.xn = some n → ∃ (X0 : Cx) (oe : Obj) (pn : List (Addr × Obj)), X = X0.suite n.a ((n.a, oe) :: pn) ∧ Zc n.cls n.d oe ∧ ∃ vs, oe.data = .fields vs
def eFld (x : Exn) (f : Str) : SE := fun _ _ M R => match (x.ks.zip x.vs).lookup f with | some d => R d M | none => False
def eIsE (x : Exn) (tab : List (Str × Bool)) : SE := fun _ _ M R => match tab.lookup x.cls with | some b => R (.bl b) M | none => False
theorem zip_rel {K : PySem.W.Frag} {H : Hp} {al : List Addr} : ∀ {ks : List Str} {ds : List D} {vs : List V} {f : Str} {d : D}, RDats K H al ds vs → (ks.zip ds).lookup f = some d → ∃ v, (ks.zip vs).lookup f = some v ∧ RDat K H al d v
  | [], _, _, _, _, _, h => by simp at h
  | k :: ks, [], _, _, _, _, h => by simp at h
  | k :: ks, x :: ds, vs, f, d, r, h => by
    rw [RDats] at r
    obtain ⟨v, r', rfl, r1, r2⟩ := r
    simp only [List.zip_cons_cons, List.lookup_cons] at h ⊢
    split at h
    · cases h; exact ⟨v, rfl, r1⟩
    · exact zip_rel r2 h
section
variable {X : Cx} {G : GC} {n f c : Str} {m : XN} {flds : List Str} {p pos p1 p2 : Pos}
theorem me_fld (su : Suite X G) (hxn : G.xn = some m) (hK : X.K = G.K) (hN : X.N[m.i]? = some n) (hv : Vis X.env.scope n) (hd : (n == ("__debug__" : Str)) = false) (hcd : (n == ("__classdict__" : Str)) = false) (hC : ∀ C, G.cm m.x.cls = some C → XfK G.K C flds) (hf : f ∈ flds) :
    ME X G (.Attribute (.Name n p) f pos) (eFld m.x f) := by
  intro W tk
  obtain ⟨X0, oe, pn, eX, hz, hvs⟩ := su m hxn
  cases eC : G.cm m.x.cls with
  | none =>
    refine ⟨fun pins s σ H Q I h => ?_⟩
    obtain ⟨ρ, al, M, Ex, R, r, _⟩ := h
    have := r.x
    unfold XOk at this
    rw [hxn] at this
    obtain ⟨⟨C, e1, _⟩, _⟩ := this
    rw [eC] at e1; cases e1
  | some C =>
    have xk := hC C eC
    have pe : PE X (.Attribute (.Name n p) f pos) (tXf m.a m.cls m.d C f (tVar m.i)) := by
      have pv : PE X (.Name n p) (tVar m.i) := pe_var hN hv hd hcd
      subst eX
      exact pe_xf (by have := xk.xf; rw [← hK] at this; exact this) (by have := xk.nf f hf; rw [← hK] at this; exact this) hz hvs pv rfl
    refine PE.imp pe fun σ H Q h => ?_
    obtain ⟨ρ, al, M, Ex, R, r, h, c, xc⟩ := h
    have rx := r.x
    unfold XOk at rx
    rw [hxn] at rx
    obtain ⟨⟨C', e1, e2, e3⟩, e4⟩ := rx
    rw [eC] at e1; cases e1
    have h : (match (m.x.ks.zip m.x.vs).lookup f with | some d => R d M | none => False) := h
    cases el : (m.x.ks.zip m.x.vs).lookup f with
    | none => rw [el] at h; exact h.elim
    | some d =>
      rw [el] at h
      rcases e3 with ⟨q1, q2, _⟩ | ⟨dx, fs, vs, q1, q2, q3, q4, q5⟩
      · rw [q1] at el; simp at el
      · obtain ⟨v, l1, l2⟩ := zip_rel q3 el
        exact ⟨.ref m.a, e4, rfl, e2, dx, fs, v, q1, q2, q5 f v l1, c _ _ _ _ _ r.m.go l2 h⟩
theorem call_isX {a C : Addr} {oe : Obj} {d : Option Addr} (xk : XfK X.K C flds) (hz : Zc (.ref C) d oe) (hvs : ∃ vs, oe.data = .fields vs) (hpin : ∃ pn, X.pn = (a, oe) :: pn) : CallR X (.builtin "isinstance") (fun xs H Q => ∃ (c : V) (cv : Value) (b : Bool), xs = [.ref a, c] ∧ (∀ u, RelV c u → u = cv) ∧ PySem.W.kitOne X.K (.ref C) cv = some b ∧ (∀ dd, d = some dd → ∃ fs, H dd = some (.xd fs)) ∧ Q (.bl b) H) := by
  intro pins s σ H xs us Q I r h
  obtain ⟨c, cv, b, rfl, hcv, e, hdd, q⟩ := h
  rcases r with _ | ⟨t1, r2⟩
  rcases r2 with _ | ⟨t2, r4⟩
  rcases r4 with _ | _
  cases t1
  have ec := hcv _ t2
  subst ec
  obtain ⟨pn, hpn⟩ := hpin
  obtain ⟨hget, _⟩ := I.pin (a, oe) (by rw [hpn]; simp)
  have J : ∃ od, PySem.W.InstAt s.heap a oe C od := by
    obtain ⟨vs, hv⟩ := hvs
    cases hd : d with
    | none => exact ⟨none, hget, hz.1, by unfold PySem.W.notCls; rw [hv] <;> rfl, by rw [hz.2, hd]; trivial⟩
    | some dd =>
      obtain ⟨fs, ef⟩ := hdd dd hd
      have hx : ObjOk X.prog X.w H s.heap dd (.xd fs) := I.hok dd _ ef
      obtain ⟨mA, hns, _⟩ := hx
      obtain ⟨od, ho, _⟩ := lookIn_ns hns
      exact ⟨some od, hget, hz.1, by unfold PySem.W.notCls; rw [hv] <;> rfl, by rw [hz.2, hd]; exact ho⟩
  obtain ⟨od, J⟩ := J
  exact PySem.W.kia_one (PySem.W.kitx_exc xk.cl xk.xf.ga xk.xf.gg xk.xf.exC xk.ha xk.hn xk.ht xk.hm) I.kIn J e (fun z => nomatch z) fun tk => ⟨.bl b, H, I.kept (t' := tk) fun _ _ z => z, rfl, q⟩
theorem me_isE (su : Suite X G) (hxn : G.xn = some m) (hK : X.K = G.K) (hN : X.N[m.i]? = some n) (hv : Vis X.env.scope n) (hd : (n == ("__debug__" : Str)) = false) (hcd : (n == ("__classdict__" : Str)) = false) (hC : ∀ C, G.cm m.x.cls = some C → XfK G.K C flds)
    {cv : Value} {cw : V} {tab : List (Str × Bool)} (hpc : PE X (.Name c p2) (tC cw)) (hcw : ∀ u, RelV cw u → u = cv) (hcl : ClsK G cv tab) (hg : Gl X "isinstance") (hm : X.mg "isinstance" = none) :
    ME X G (.Call (.Name "isinstance" p1) [.Name n p, .Name c p2] [] pos) (eIsE m.x tab) := by
  intro W tk
  obtain ⟨X0, oe, pn, eX, hz, hvs⟩ := su m hxn
  cases eC : G.cm m.x.cls with
  | none =>
    refine ⟨fun pins s σ H Q I h => ?_⟩
    obtain ⟨ρ, al, M, Ex, R, r, _⟩ := h
    have := r.x
    unfold XOk at this
    rw [hxn] at this
    obtain ⟨⟨C, e1, _⟩, _⟩ := this
    rw [eC] at e1; cases e1
  | some C =>
    have xk : XfK X.K C flds := by rw [hK]; exact hC C eC
    by_cases hcls : m.cls = .ref C
    · have hz' : Zc (.ref C) m.d oe := by rw [← hcls]; exact hz
      refine PE.imp (pe_callB (call_isX (a := m.a) xk hz' hvs ⟨pn, by rw [eX]⟩) hg hm (by decide +kernel) (pa_cons (pe_var hN hv hd hcd) (pa_cons hpc pa_nil))) fun σ H Q h => ?_
      obtain ⟨ρ, al, M, Ex, R, r, h, cc, xc⟩ := h
      have rx := r.x
      unfold XOk at rx
      rw [hxn] at rx
      obtain ⟨⟨C', e1, e2, e3⟩, e4⟩ := rx
      rw [eC] at e1; cases e1
      have h : (match tab.lookup m.x.cls with | some b => R (.bl b) M | none => False) := h
      cases el : tab.lookup m.x.cls with
      | none => rw [el] at h; exact h.elim
      | some b =>
        rw [el] at h
        obtain ⟨Cn, q1, _, q3⟩ := hcl _ _ el
        rw [eC] at q1; cases q1
        refine ⟨.ref m.a, e4, cw, cv, b, rfl, hcw, by rw [hK]; exact q3, fun dd hdd => ?_, cc _ _ _ _ _ r.m.go (by rw [RDat]) h⟩
        rcases e3 with ⟨_, _, q⟩ | ⟨dx, fs, vs, q1, q2, _⟩
        · rw [q] at hdd; cases hdd
        · rw [q1] at hdd; cases hdd; exact ⟨fs, q2⟩
    · refine ⟨fun pins s σ H Q I h => ?_⟩
      obtain ⟨ρ, al, M, Ex, R, r, _⟩ := h
      have := r.x
      unfold XOk at this
      rw [hxn] at this
      obtain ⟨⟨C', e1, e2, _⟩, _⟩ := this
      rw [eC] at e1; cases e1
      exact absurd e2 hcls
end
end DN

set_option maxHeartbeats 4000000
/-! defs called where an exception is handled -/
namespace DN
open PySem PySem.Spec L2
section
variable {X : Cx} {G : GC} {a : Expr} {es : List Expr} {tt : SA} {pos : Pos}
theorem me_callH {k : Nat} {f : Addr} {fd : FuncData} {ps : List Str} {x : Str} {p : Pos} {F : Fn} {n : Nat} (hF : L2H.FnH X.prog X.w X.K X.mg X.base (CX X.prog X.w) k f fd ps (LSp G F n)) (hr : L2H.RoomH k X.A) (hc : L2H.HotC X) (hg : Gl X x) (hm : X.mg x = some (.ref f)) (hk : PySem.W.keepIn X.K (.ref f) = true) (hb : Binds X.K fd ps [])
    (ha : MA X G (a :: es) tt) (hn : (a :: es).length = n) (hdb : (x == ("__debug__" : Str)) = false) (he : starEach (a :: es) X.env = (false, eval a X.env) :: starEach es X.env) (hpl : (backTo pos (starEach es X.env)).any (·.1) = false) :
    ME X G (.Call (.Name x p) (a :: es) [] pos) (eCall F tt) := by
  intro W tk
  have hx : ∀ σ, PassesAt (CX X.prog X.w) X σ ((fun σ cls dd H => W cls dd σ H) σ) := fun σ => passAt tk σ
  refine PE.imp (L2H.pe_callH hF hr hc hg hm hk hb hx (ha W tk) hdb he hpl) fun σ H Q h => ?_
  obtain ⟨ρ, al, M, Ex, R, r, t, c, xc⟩ := h
  refine ⟨ρ, al, M, Ex, _, r, t, fun H1 al1 M1 vs ds n1 r1 l1 h1 => ?_, xc⟩
  exact ⟨al1, M1, ds, R, Ex, by rw [r1.vlen, l1, hn], n1.m, r1, h1, c.nxt n1, fun H' al' M' x cls dd n' rx ex => xc _ _ _ _ _ _ (n1.trans n') rx ex⟩
end
theorem fn_bodyH {G : GC} {k : Nat} {x qual : Str} {st : Stmt} {f : Addr} {fd : FuncData} {N ps : List Str} {t : SS} (hx : G.xn = none) (F : Fun G.K x qual st f fd) (S : FnScope N ps (defScope st))
    (hb : ∀ (cdv : Value) (A : Around) (outer : List PySem.Env) (s : Shared) (H : Hp) (E : XK) (p : Addr × Obj), L2H.Hot1 A p → L2H.RoomH k (A.deeper (PyProof.Rows.envOfC qual (defScope st) s.heap.objs.size f cdv)) → MSs (L2H.cxH (CX G.P G.w) G.P G.w G.K G.mg G.base N qual (defScope st) f cdv A outer s H E p) G (defBody st) t) :
    L2H.FnH G.P G.w G.K G.mg G.base (CX G.P G.w) (k + 1) f fd ps (LSp G (bodyF N.length t) ps.length) := by
  obtain ⟨oc, od, kV, doc, pm, an, cdv, ct, osl, rfl, lk, hcd⟩ := F.ex
  refine L2H.fn_ofH lk hcd S (fun vs H Q E h => ?_) (fun A outer s H vs Q E p hot hr h => ?_)
  · obtain ⟨al, M, ds, R, Ex, hl, _⟩ := h
    exact hl
  · obtain ⟨al, M, ds, R, Ex, hl, m, r, hF, c, xc⟩ := h
    refine ⟨_, hb cdv A outer s H E p hot hr (fun cls d _ H => E cls d H) (L2N.takes_of rfl rfl rfl rfl), startD N.length ds, al, M, _, start_rel m r hx, hF, ?_⟩
    exact ⟨fun σ' ρ' H' al' M' n r' h' => c _ _ _ _ _ n (by rw [RDat]) h', c, fun _ _ _ _ _ _ _ h => h.elim, fun _ _ _ _ _ _ _ h => h.elim, fun σ' ρ' H' al' M' x cls dd n' r' rx h' => xc _ _ _ _ _ _ n' rx h'⟩
end DN

set_option maxHeartbeats 4000000
/-! further built-ins and methods -/
namespace DN
open PySem PySem.Spec L2
section
variable {X : Cx} {G : GC}
theorem rstrs {K : PySem.W.Frag} {H : Hp} {al : List Addr} : ∀ ys : List Str, RDats K H al (ys.map D.str) (ys.map V.str)
  | [] => RDats.nil
  | y :: ys => RDats.cons (by rw [RDat]) (rstrs ys)
theorem rintsV {K : PySem.W.Frag} {H : Hp} {al : List Addr} : ∀ ys : List Int, RDats K H al (ys.map D.int) (ys.map V.int)
  | [] => RDats.nil
  | y :: ys => RDats.cons (by rw [RDat]) (rintsV ys)
/-! ### str.split(sep) -/
def mSplit : OpM := fun d ds M R => match d, ds with
  | .str a, [.str b] => ((b.length == 0) = false ∧ a.length + 2 ≤ sizeLine) ∧ R (.ref M.length) (M ++ [.lst ((Txt.split a b).map D.str)])
  | _, _ => False
theorem mr_split : MtR X "str.split" (LMt G mSplit) := by
  intro pins s σ H x xs v us Q I rx rs h
  obtain ⟨al, M, d, ds, R, m, r1, r2, g, c⟩ := h
  rcases ds with _ | ⟨y, _ | ⟨z, t⟩⟩
  · cases d <;> exact (g : False).elim
  · cases d with
    | str a =>
      cases y with
      | str b =>
        obtain ⟨⟨h1, h2⟩, g⟩ := (g : _ ∧ _)
        obtain ⟨w, rfl, rw1⟩ := rd1 r2
        rw [RDat] at r1; rw [RDat] at rw1; subst r1 rw1
        refine mt_split pins s σ H _ _ v us Q I rx rs ⟨a, b, rfl, rfl, h1, h2, fun p hp => ?_⟩
        have n := m.new (o := .lst ((Txt.split a b).map D.str)) (u := .lst ((Txt.split a b).map V.str)) hp ⟨_, rfl, rstrs _⟩
        exact c _ _ _ _ _ n (rdat_new m.len) g
      | _ => exact (g : False).elim
    | _ => cases y <;> exact (g : False).elim
  · cases d <;> cases y <;> exact (g : False).elim
/-! ### str(x) -/
def cnStr : OpN := fun ds M R => match ds with
  | [.int i] => i.natAbs.log2 < 1920 ∧ R (.str (toString i)) M
  | [.str x] => R (.str x) M
  | _ => False
theorem cr_str : CallR X (.type "str") (LCall G cnStr) := by
  intro pins s σ H xs us Q I r h
  obtain ⟨al, M, ds, R, m, r1, g, c⟩ := h
  cases ds with
  | nil => exact (g : False).elim
  | cons d t =>
    cases t with
    | cons _ _ => cases d <;> exact (g : False).elim
    | nil =>
      obtain ⟨v, rfl, r2⟩ := rd1 r1
      cases d with
      | int i => obtain ⟨hz, g⟩ := (g : _ ∧ _); rw [RDat] at r2; subst r2; exact call_str_int pins s σ H _ us Q I r ⟨i, rfl, hz, c _ _ _ _ _ m.go (by rw [RDat]) g⟩
      | str i => rw [RDat] at r2; subst r2; exact SkE.call_str_str pins s σ H _ us Q I r ⟨i, rfl, c _ _ _ _ _ m.go (by rw [RDat]) g⟩
      | _ => exact (g : False).elim
/-! ### sorted(list) of ints, of texts, of other plain values that are alike -/
/-- x < y of alike plain values -/
abbrev ltD (x y : D) : Bool := PySem.W.dataLt (toPy x) (toPy y)
def sortOk (xs : List D) : Prop := xs.length ≤ sizeLine ∧ norefs xs = true ∧ PySem.W.AllAlike (xs.map toPy) ∧ PySem.W.Sortable (xs.map toPy) ∧ ∀ d ∈ xs, (toPy d).depth ≤ 60
def sortK (xs : List D) (R : List D → Prop) : Prop := match intsD xs with
  | some ns => ∀ ms : List Int, ms.Perm ns → ms.Pairwise (· ≤ ·) → R (ms.map D.int)
  | none => match strsD xs with
    | some ys => ys.length < 64 ∧ ∀ zs : List Str, zs.Perm ys → PyProof.Rows.sortedS zs = true → R (zs.map D.str)
    | none => sortOk xs ∧ ∀ zs : List D, zs.Perm xs → zs.Pairwise (fun a b => ltD b a = false) → R zs
theorem eachIs_vals : ∀ {ys : List V} {its : List Value} {xs : List D}, Vals ys its → ys.length = xs.length → PySem.W.EachIs (fun (v : Value) (b : V × D) => RelV b.1 v) its (ys.zip xs)
  | _, _, [], .nil, _ => .nil
  | _, _, x :: xs, .cons h t, e => .cons h (eachIs_vals t (by simpa using e))
theorem vals_eachIs : ∀ {its : List Value} {bs : List (V × D)}, PySem.W.EachIs (fun (v : Value) (b : V × D) => RelV b.1 v) its bs → Vals (bs.map Prod.fst) its
  | _, _, .nil => .nil
  | _, _, .cons h t => .cons h (vals_eachIs t)
theorem rdats_len {K : PySem.W.Frag} {H : Hp} {al : List Addr} : ∀ {xs : List D} {ys : List V}, RDats K H al xs ys → ys.length = xs.length
  | [], _, h => by rw [RDats] at h; subst h; rfl
  | x :: xs, _, h => by
    rw [RDats] at h
    obtain ⟨v, r, rfl, h1, h2⟩ := h
    simp [rdats_len h2]
theorem rdats_zip {K : PySem.W.Frag} {H : Hp} {al : List Addr} : ∀ {xs : List D} {ys : List V}, RDats K H al xs ys → ∀ b ∈ ys.zip xs, RDat K H al b.2 b.1
  | [], _, h, b, hb => by rw [RDats] at h; subst h; simp at hb
  | x :: xs, _, h, b, hb => by
    rw [RDats] at h
    obtain ⟨v, r, rfl, h1, h2⟩ := h
    rw [List.zip_cons_cons] at hb
    rcases List.mem_cons.mp hb with rfl | hb
    · exact h1
    · exact rdats_zip h2 b hb
theorem rdats_of {K : PySem.W.Frag} {H : Hp} {al : List Addr} : ∀ {bs : List (V × D)}, (∀ b ∈ bs, RDat K H al b.2 b.1) → RDats K H al (bs.map Prod.snd) (bs.map Prod.fst)
  | [], _ => RDats.nil
  | b :: bs, h => RDats.cons (h b (List.mem_cons_self ..)) (rdats_of fun c hc => h c (List.mem_cons_of_mem _ hc))
theorem norefs_mem : ∀ {xs : List D}, norefs xs = true → ∀ d ∈ xs, noref d = true
  | [], _, d, hd => by simp at hd
  | x :: xs, h, d, hd => by
    simp only [norefs, Bool.and_eq_true] at h
    rcases List.mem_cons.mp hd with rfl | hd
    · exact h.1
    · exact norefs_mem h.2 d hd
theorem each_reads {pins : List (Addr × Obj)} {s : Shared} {σ : St} {H : Hp} {al : List Addr} (I : Inv X pins σ H s) : ∀ {ys : List V} {its : List Value} {xs : List D}, Vals ys its → RDats X.K H al xs ys → norefs xs = true → PySem.W.EachIs (fun (v : Value) (b : V × D) => ∃ as, Reads s.heap v (toPy b.2) as) its (ys.zip xs)
  | _, _, [], .nil, _, _ => .nil
  | _, _, [], .cons _ _, h, _ => by rw [RDats] at h; cases h
  | _, _, x :: xs, .nil, h, _ => by
    rw [RDats] at h
    obtain ⟨v, r, e, h1, h2⟩ := h
    cases e
  | _, _, x :: xs, .cons r t, h, n => by
    rw [RDats] at h
    obtain ⟨v, w, e, h1, h2⟩ := h
    obtain ⟨rfl, rfl⟩ := List.cons.inj e
    simp only [norefs, Bool.and_eq_true] at n
    exact .cons (Dp.reads I _ _ _ (dp_of h1 n.1) r) (each_reads I t h2 n.2)
theorem sorted_dat (hu : X.A.units + 65 < cLine) {pins : List (Addr × Obj)} {s : Shared} {σ : St} {H : Hp} {a : Addr} {ys : List V} {xs : List D} {al : List Addr} {Q : VK} {us : List Value} (I : Inv X pins σ H s) (r : Vals [V.ref a] us) (hs : SqL X.K H a ys) (hx : RDats X.K H al xs ys) (ok : sortOk xs)
    (k : ∀ (zs : List D) (ws : List V) (p : Addr), zs.Perm xs → zs.Pairwise (fun a b => ltD b a = false) → RDats X.K H al zs ws → H p = none → Q (.ref p) (upd H p (.lst ws))) : wpAny (model X.prog X.w) X.A (call (.builtin "sorted") us) (EP X pins σ Q) X.xe s := by
  obtain ⟨hl0, hn, hal, hso, hd⟩ := ok
  obtain ⟨its, rv, hl, hz⟩ := I.list hs
  rw [Vals.ref1 r]
  have hly := rdats_len hx
  have hmap : (ys.zip xs).map (fun b : V × D => toPy b.2) = xs.map toPy := by
    rw [show (fun b : V × D => toPy b.2) = toPy ∘ Prod.snd from rfl, ← List.map_map, List.map_snd_zip (by omega)]
  refine PySem.W.sorted_data (enc := fun b : V × D => toPy b.2) hl.isList (eachIs_vals rv hly) (each_reads I rv hx hn) (by rw [hmap]; exact hal) (by rw [hmap]; exact hso) (by rw [List.length_zip]; omega) (fun b hb => ?_) fun out ho eo => ?_
  · have := hd b.2 (List.of_mem_zip hb).2
    omega
  · obtain ⟨ep, he'⟩ := PyProof.Rows.sortedAll_at s.heap its out.toArray
    have hp := List.mergeSort_perm (ys.zip xs) (PySem.W.dataLe false fun b : V × D => toPy b.2)
    have T := PySem.W.sortLe_total (PyProof.Rows.listOrd PyProof.Rows.itemOrd) false (fun b : V × D => PySem.W.keyToks (toPy b.2))
    have hw := List.pairwise_mergeSort (le := PySem.W.dataLe false fun b : V × D => toPy b.2) T.trans (fun a b => by have := T.total a b; rw [Bool.or_eq_true]; exact this) (ys.zip xs)
    have rv' := vals_eachIs eo
    have hlen : (((ys.zip xs).mergeSort (PySem.W.dataLe false fun b : V × D => toPy b.2)).map Prod.fst).length ≤ sizeLine := by
      rw [List.length_map, hp.length_eq, List.length_zip]; omega
    refine ⟨.ref _, upd H (s.heap.objs.size + 1) (.lst _), I.laid (t' := s.toks) (fun _ _ => PyProof.Rows.sortedAll_old) (Nat.le_succ _) ⟨hlen, out, ep, rv', he'⟩, rfl,
      k (((ys.zip xs).mergeSort (PySem.W.dataLe false fun b : V × D => toPy b.2)).map Prod.snd) _ _ ?_ ?_ ?_ (I.hok.fresh (Nat.le_succ _))⟩
    · have q := hp.map Prod.snd
      rwa [List.map_snd_zip (by omega)] at q
    · rw [List.pairwise_map]
      refine hw.imp fun {a b} h => ?_
      rw [PySem.W.dataLe_eq] at h
      simpa using h
    · exact rdats_of fun b hb => rdats_zip hx b (hp.mem_iff.mp hb)
def cnSorted : OpN := fun ds M R => match ds with
  | [.ref n] => match lstAt M n with | some xs => sortK xs fun zs => R (.ref M.length) (M ++ [.lst zs]) | none => False
  | _ => False
theorem cr_sorted1 (hK : X.K = G.K) (hu : X.A.units + 65 < cLine) : CallR X (.builtin "sorted") (LCall G cnSorted) := by
  intro pins s σ H xs us Q I r h
  obtain ⟨al, M, ds, R, m, r1, g, c⟩ := h
  cases ds with
  | nil => exact (g : False).elim
  | cons d t =>
    cases t with
    | cons _ _ => cases d <;> exact (g : False).elim
    | nil =>
      obtain ⟨v, rfl, r2⟩ := rd1 r1
      cases d with
      | ref n =>
        have g : (match lstAt M n with | some xs => sortK xs fun zs => R (.ref M.length) (M ++ [.lst zs]) | none => False) := g
        cases el : lstAt M n with
        | none => simp [el] at g
        | some ys =>
          simp only [el] at g
          obtain ⟨a, vs, rfl, s1, l1⟩ := m.seq r2 el
          unfold sortK at g
          cases ei : intsD ys with
          | some ns =>
            simp only [ei] at g
            have e := intsD_rel l1 ei
            subst e
            refine cr_sortedI pins s σ H _ us Q I r ⟨a, ns, rfl, by rw [hK]; exact s1, fun ms p hp hw hn => ?_⟩
            have n := m.new (o := .lst (ms.map D.int)) (u := .lst (ms.map V.int)) hn ⟨_, rfl, rintsV _⟩
            exact c _ _ _ _ _ n (rdat_new m.len) (g ms hp hw)
          | none =>
            cases es : strsD ys with
            | none =>
              simp only [ei, es] at g
              obtain ⟨ok, g⟩ := g
              refine sorted_dat hu I r (by rw [hK]; exact s1) (by rw [hK]; exact l1) ok fun zs ws p hp hw hr hn => ?_
              have n := m.new (o := .lst zs) (u := .lst ws) hn ⟨_, rfl, by rw [hK] at hr; exact hr⟩
              exact c _ _ _ _ _ n (rdat_new m.len) (g zs hp hw)
            | some ns =>
              simp only [ei, es] at g
              obtain ⟨h64, g⟩ := g
              have e := strsD_rel l1 es
              subst e
              refine cr_sortedS pins s σ H _ us Q I r ⟨a, ns, rfl, by rw [hK]; exact s1, h64, fun ms p hp hw hn => ?_⟩
              have n := m.new (o := .lst (ms.map D.str)) (u := .lst (ms.map V.str)) hn ⟨_, rfl, rstrs _⟩
              exact c _ _ _ _ _ n (rdat_new m.len) (g ms hp hw)
      | _ => exact (g : False).elim
/-! ### max of three ints -/
def cnMax3 : OpN := fun ds M R => match ds with
  | [.int i, .int j, .int k] => R (.int (if j > i then (if k > j then k else j) else (if k > i then k else i))) M
  | _ => False
theorem cr_max3 (hc : X.calm = true) : CallR X (.builtin "max") (LCall G cnMax3) := by
  intro pins s σ H xs us Q I r h
  obtain ⟨al, M, ds, R, m, r1, g, c⟩ := h
  have g : cnMax3 ds M R := g
  obtain ⟨i, j, k, rfl, g⟩ : ∃ i j k, ds = [.int i, .int j, .int k] ∧ R (.int (if j > i then (if k > j then k else j) else (if k > i then k else i))) M := by
    unfold cnMax3 at g
    split at g
    · exact ⟨_, _, _, rfl, g⟩
    · cases g
  have e : xs = [.int i, .int j, .int k] := by
    rw [RDats] at r1
    obtain ⟨v, w, rfl, a1, r1⟩ := r1
    rw [RDats] at r1
    obtain ⟨v2, w2, rfl, a2, r1⟩ := r1
    rw [RDats] at r1
    obtain ⟨v3, w3, rfl, a3, r1⟩ := r1
    rw [RDats] at r1
    rw [RDat] at a1 a2 a3
    subst a1 a2 a3 r1
    rfl
  subst e
  cases r with
  | cons q1 r =>
    cases r with
    | cons q2 r =>
      cases r with
      | cons q3 r =>
        cases r
        obtain ⟨t1, rfl⟩ := q1
        obtain ⟨t2, rfl⟩ := q2
        obtain ⟨t3, rfl⟩ := q3
        refine PySem.max_three_ints (I.ok.hd hc) fun h' tk kk => ⟨.int (if j > i then (if k > j then k else j) else (if k > i then k else i)), H, I.kept kk, ?_, c _ _ _ _ _ m.go (by rw [RDat]) g⟩
        by_cases h1 : j > i
        · by_cases h2 : k > j
          · rw [if_pos h1, if_pos h2, if_pos h1, if_pos h2]; exact ⟨_, rfl⟩
          · rw [if_pos h1, if_neg h2, if_pos h1, if_neg h2]; exact ⟨_, rfl⟩
        · by_cases h2 : k > i
          · rw [if_neg h1, if_pos h2, if_neg h1, if_pos h2]; exact ⟨_, rfl⟩
          · rw [if_neg h1, if_neg h2, if_neg h1, if_neg h2]; exact ⟨_, rfl⟩
end
end DN

set_option maxHeartbeats 4000000
/-! xs[::-1] of tuples and lists -/
namespace DN
open PySem PySem.Spec PyProof.Rows L2 HT
section
variable {prog : Program} {w : World} {A : Around} {E : Value → Shared → Prop} {s : Shared}
theorem adj_back (n : Nat) : Builtin.Slice.sliceAdjust none none (-1) (n : Int) = ((n : Int) - 1, -1) := rfl
theorem places_back (n : Nat) : Builtin.Slice.slicePlaces ((n : Int) - 1) (-1) (-1) = n := by
  unfold Builtin.Slice.slicePlaces
  have a : ¬ ((-1 : Int) > 0) := by decide
  rw [if_neg a]
  by_cases b : (n : Int) - 1 > -1
  · rw [if_pos b, show (- -1 : Int) = 1 by decide, Int.ediv_one]
    omega
  · rw [if_neg b]
    omega
theorem fm_take {f : Nat → Option Value} {l : List Value} : ∀ n, n ≤ l.length → (∀ k, k < n → f k = l[k]?) → (List.range n).filterMap f = l.take n
  | 0, _, _ => rfl
  | n + 1, h, hf => by
    rw [List.range_succ, List.filterMap_append, fm_take n (by omega) fun k hk => hf k (by omega), List.take_add_one, List.getElem?_eq_getElem (by omega)]
    simp [hf n (by omega), List.getElem?_eq_getElem (show n < l.length by omega)]
theorem pick_back (xs : Array Value) : ((List.range xs.size).filterMap fun (k : Nat) => xs[(((xs.size : Int) - 1) + (k : Int) * (-1)).toNat]?).toArray = xs.toList.reverse.toArray := by
  congr 1
  rw [fm_take (l := xs.toList.reverse) xs.size (by simp) fun k h => ?_, List.take_of_length_le (by simp)]
  rw [List.getElem?_reverse (by simpa using h)]
  rw [show (((xs.size : Int) - 1) + (k : Int) * (-1)).toNat = xs.toList.length - 1 - k by simp; omega]
  simp
theorem applied_back {sl : Addr} {vl vu vs : Value} {n : Nat} {Q : Int × Int × Nat → Shared → Prop} (hs : s.heap.IsSliceOf sl vl vu vs) (pl : IsPart vl none) (pu : IsPart vu none) (ps : IsPart vs (some (-1)))
    (h : Q ((n : Int) - 1, -1, n) s) : wpAny (model prog w) A (Builtin.Slice.sliceApplied (.ref sl) (pure (n : Int))) Q E s := by
  obtain ⟨ob, got, cl, dat⟩ := id hs
  unfold Builtin.Slice.sliceApplied Builtin.Slice.sliceFields
  refine wpAny_bind (wpAny_bind (wpAny_field got dat (x := vl) rfl (wpAny_bind (wpAny_field got dat (x := vu) rfl (wpAny_bind (wpAny_field got dat (x := vs) rfl (wpAny_pure ?_)))))))
  refine wpAny_bind (slicePart_ ps ?_)
  show wpAny _ _ (if ((-1 : Int) == 0) = true then _ else _) _ _ s
  rw [if_neg (by decide)]
  refine wpAny_bind (slicePart_ pl (wpAny_bind (slicePart_ pu (wpAny_bind (wpAny_pure ?_)))))
  show wpAny _ _ (match Builtin.Slice.sliceAdjust none none (-1) (n : Int) with | (lo, hi) => pure (lo, (-1 : Int), Builtin.Slice.slicePlaces lo hi (-1))) _ _ s
  rw [adj_back n]
  show wpAny _ _ (pure ((n : Int) - 1, (-1 : Int), Builtin.Slice.slicePlaces ((n : Int) - 1) (-1) (-1))) _ _ s
  rw [places_back]
  exact wpAny_pure h
theorem tup_back {t sl : Addr} {its : Array Value} {vl vu vs : Value} {Q : Value → Shared → Prop} (ht : IsTup s.heap t its) (hs : s.heap.IsSliceOf sl vl vu vs) (pl : IsPart vl none) (pu : IsPart vu none) (ps : IsPart vs (some (-1)))
    (h : Q (.ref s.heap.objs.size) { s with heap := s.heap.push { cls := .type "tuple", data := .seq its.toList.reverse.toArray } }) (hz : its.size ≤ sizeLine) : wpAny (model prog w) A (getItem (.ref t) (.ref sl)) Q E s := by
  have fits : sizeOk (.seq its.toList.reverse.toArray) := by
    show its.toList.reverse.toArray.size ≤ sizeLine
    simpa using hz
  obtain ⟨ob, got, cl, dat⟩ := id hs
  have isS : s.TypeIs (.ref sl) "slice" := ⟨ob, got, cl⟩
  unfold getItem
  (try with_reducible refine wpAny_holding ?_); (first | refine wpAny_bind (wpAny_pure ?_) | skip)
  refine wpAny_bind (wpAny_sequenceKey (T := "tuple") ht.typeIs (by decide) ?_)
  refine wpAny_bind (wpAny_callSpecial?_slot (name := Str.ofString "__getitem__") ht.typeIs PyProof.Rows.slot_tuple_getitem (wpAny_call_entry PyProof.Rows.slot_tuple_getitem ht.typeIs entry_tuple_getitem ?_ (args_tuple_getitem _ _)))
  show wpAny _ _ (Builtin.Tuple.tupleItemsOf (.ref t) >>= _) _ _ s
  refine wpAny_bind (tupleItemsOf_ ht (wpAny_bind (wpAny_typeOf isS ?_)))
  rw [if_pos (by decide)]
  refine wpAny_bind (applied_back (n := its.size) hs pl pu ps ?_)
  show wpAny _ _ (if ((((its.size : Int) - 1) == 0) && (-1 : Int) == 1 && its.size == its.size) = true then _ else _) _ _ s
  rw [if_neg (by simp), pick_back]
  first
    | exact wpAny_bind (m := Builtin.Tuple.tupleExact _) (wpAny_newObj_type (wpAny_pure ⟨_, rfl, wpAny_pure h⟩) fits)
    | exact wpAny_bind (m := Builtin.Tuple.tupleExact _) (wpAny_newObj_type (wpAny_bind (wpAny_pure (wpAny_pure ⟨_, rfl, wpAny_pure h⟩))) fits)
    | exact wpAny_bind (wpAny_bind (m := Builtin.Tuple.tupleExact _) (wpAny_newObj_type (wpAny_pure (wpAny_pure ⟨_, rfl, wpAny_pure h⟩)) fits))
    | exact wpAny_bind (wpAny_bind (m := Builtin.Tuple.tupleExact _) (wpAny_newObj_type (wpAny_pure ⟨_, rfl, wpAny_pure h⟩) fits))
end
section
variable {X : Cx} {G : GC}
def tBack (K : PySem.W.Frag) (te : TE) : TE := fun σ H Q => te σ H fun x H1 => (∃ a xs, x = .ref a ∧ SqT K H1 a xs ∧ ∀ p, H1 p = none → Q (.ref p) (upd H1 p (.tup xs.reverse))) ∨ ∃ a xs, x = .ref a ∧ SqL K H1 a xs ∧ ∀ p, H1 p = none → Q (.ref p) (upd H1 p (.lst xs.reverse))
theorem pe_back {e : Expr} {te : TE} {k : Nat} {p1 p2 p3 pos : Pos} (he : PE X e te) : PE X (.Subscript e (.Slice none none (some (.UnaryOp .USub (.Constant (.int 1) k p1) p2)) p3) pos) (tBack X.K te) := by
  refine ⟨fun pins s σ H Q I h => ?_⟩
  refine Subscript_ (thn (he.run pins s σ H _ I h) fun v s1 ⟨x, H1, I1, r1, q1⟩ => ?_)
  have stp : PO X (some (.UnaryOp .USub (.Constant (.int 1) k p1) p2)) (tPart (tUn (rU fun i => .int (-i)) (tC (.int 1)))) := po_some (pe_un un_neg pe_int)
  refine wpAny_Slice (thn (po_none.run pins s1 σ H1 (fun o H2 => o = none ∧ H2 = H1) I1 ⟨rfl, rfl⟩) fun vl s2 ⟨l, H2, I2, pl, el, e2⟩ => ?_)
  subst el e2
  refine thn (po_none.run pins s2 σ H2 (fun o H3 => o = none ∧ H3 = H2) I2 ⟨rfl, rfl⟩) fun vu s3 ⟨u, H3, I3, pu, eu, e3⟩ => ?_
  subst eu e3
  refine thn (stp.run pins s3 σ H3 (fun o H4 => o = some (-1) ∧ H4 = H3) I3 ⟨1, rfl, -1, rfl, rfl, rfl⟩) fun vs s4 ⟨o, H4, I4, ps, eo, e4⟩ => ?_
  subst eo e4
  have I5 : Inv X pins σ H4 { s4 with heap := s4.heap.push { cls := .type "slice", data := .fields #[vl, vu, vs] } } := I4.kept (t' := s4.toks) fun _ _ z => Heap.get?_push_of_some _ z
  rcases q1 with ⟨a, xs, ex, hx, q⟩ | ⟨a, xs, ex, hx, q⟩
  · subst ex
    cases r1
    obtain ⟨its, r, ht, hz⟩ := I5.tuple hx
    have len := r.length
    show wpAny (model X.prog X.w) X.A (subscriptTail e (.Slice none none (some (.UnaryOp .USub (.Constant (.int 1) k p1) p2)) p3) (.ref a) (.ref s4.heap.objs.size)) (EP X pins σ Q) X.xe _
    refine tail_any (ops := [.ref a, .ref s4.heap.objs.size]) ht.typeIs (PyProof.Rows.slot_tuple_getitem.lookup) ?_ (by with_unfolding_all rfl)
    refine tup_back ht (Heap.IsSliceOf.new _ vl vu vs) pl pu ps ?_ (by rw [List.size_toArray]; omega)
    have put := I5.laid (t' := s4.toks) (o := .tup xs.reverse) (fun _ _ z => Heap.get?_push_of_some _ z) (Nat.le_refl _) ⟨by rw [List.length_reverse]; exact hz, _, r.reverse, IsTup.new _ _⟩
    exact ⟨.ref _, _, put, rfl, q _ (I5.hok.fresh (Nat.le_refl _))⟩
  · subst ex
    cases r1
    obtain ⟨its, r, ht, hz⟩ := I5.list hx
    have len := r.length
    show wpAny (model X.prog X.w) X.A (subscriptTail e (.Slice none none (some (.UnaryOp .USub (.Constant (.int 1) k p1) p2)) p3) (.ref a) (.ref s4.heap.objs.size)) (EP X pins σ Q) X.xe _
    refine tail_any (ops := [.ref a, .ref s4.heap.objs.size]) ht.isList.typeIs (PySem.slot_list_getitem.lookup) ?_ (by with_unfolding_all rfl)
    refine wpAny_getItem_list_slice ht.isList (Heap.IsSliceOf.new _ vl vu vs) pl pu ps (by decide) ?_ (by rw [List.size_toArray]; omega)
    rw [PySem.W.krv_pick]
    have put := I5.laid (t' := s4.toks) (o := .lst xs.reverse) (fun _ _ z => Heap.get?_push_of_some _ z) (Nat.le_refl _) ⟨by rw [List.length_reverse]; exact hz, _, 0, r.reverse, Heap.get?_push_size _ rfl⟩
    exact ⟨.ref _, _, put, rfl, q _ (I5.hok.fresh (Nat.le_refl _))⟩
def eRev (ta : SE) : SE := fun Ex ρ M R => ta Ex ρ M fun d M1 => match d with
  | .tup xs => R (.tup xs.reverse) M1
  | .ref n => match lstAt M1 n with | some xs => R (.ref M1.length) (M1 ++ [.lst xs.reverse]) | none => False
  | _ => False
theorem rev_rel {K : PySem.W.Frag} {H : Hp} {al : List Addr} : ∀ {ds : List D} {vs : List V}, RDats K H al ds vs → RDats K H al ds.reverse vs.reverse
  | [], vs, r => by
    rw [RDats] at r; subst r
    exact (by rw [List.reverse_nil, List.reverse_nil, RDats])
  | d :: ds, vs, r => by
    rw [RDats] at r
    obtain ⟨v, r', e, h, t⟩ := r
    subst e
    have ih := rev_rel t
    rw [List.reverse_cons, List.reverse_cons]
    exact ih.append (by rw [RDats]; exact ⟨v, [], rfl, h, by rw [RDats]⟩)
theorem me_rev {a : Expr} {ta : SE} {k : Nat} {p1 p2 p3 pos : Pos} (hK : X.K = G.K) (ha : ME X G a ta) : ME X G (.Subscript a (.Slice none none (some (.UnaryOp .USub (.Constant (.int 1) k p1) p2)) p3) pos) (eRev ta) := by
  refine fun W tk => PE.imp (pe_back (ha W tk)) fun σ H Q h => ?_
  obtain ⟨ρ, al, M, Ex, R, r, t, c, xc⟩ := h
  refine ⟨ρ, al, M, Ex, _, r, t, fun H1 al1 M1 v d n1 r1 h1 => ?_, xc⟩
  cases d with
  | tup xs =>
    rw [RDat] at r1
    obtain ⟨a, vs, rfl, s1, l1⟩ := r1
    refine .inl ⟨a, vs, rfl, by rw [hK]; exact s1, fun p hp => ?_⟩
    have n2 := n1.m.tup (vs := vs.reverse) hp
    exact c _ _ _ _ _ (n1.trans n2) (RDat.tup_of (SqT.of upd_same) ((rev_rel l1).mono n2.k n2.p)) h1
  | ref n =>
    have h1 : (match lstAt M1 n with | some xs => R (.ref M1.length) (M1 ++ [.lst xs.reverse]) | none => False) := h1
    cases el : lstAt M1 n with
    | none => simp [el] at h1
    | some xs =>
      simp only [el] at h1
      obtain ⟨a, vs, rfl, s1, l1⟩ := n1.m.seq r1 el
      refine .inr ⟨a, vs, rfl, by rw [hK]; exact s1, fun p hp => ?_⟩
      have n2 := n1.m.new (o := .lst xs.reverse) (u := .lst vs.reverse) hp ⟨_, rfl, rev_rel l1⟩
      exact c _ _ _ _ _ (n1.trans n2) (rdat_new n1.m.len) h1
  | _ => exact (h1 : False).elim
end
end DN

set_option maxHeartbeats 4000000
/-! from the text to its reading, by computation; the reading is right -/
namespace DN
open PySem PySem.Spec L2

inductive GE where
  | const (d : D)
  | fn (k np : Nat) (F : Fn)
  | fnH (k np : Nat) (F : Fn)
  | blt
  | exc (fl : List Str) (k : Nat) (tab : List (Str × Bool))
  | exc0 (tab : List (Str × Bool))
  | cls (tab : List (Str × Bool))
  | clsB (T : String) (tab : List (Str × Bool))
structure SEnv where
  names : List (Str × NameKind)
  N : List Str
  fnall : Bool
  fnl : List Str
  lv : Nat
  Γ : List (Str × GE)
  xi : Option Nat
  hot : Bool := false
  top : Bool := false
  xx : Option Exn := none
  flds : List Str := []
def GEok (G : GC) (x : Str) : GE → Prop
  | .const d => ∃ u v, G.mg x = some u ∧ RelV v u ∧ ∀ H al, RDat G.K H al d v
  | .fn k np F => ∃ f fd ps, ps.length = np ∧ G.mg x = some (.ref f) ∧ PySem.W.keepIn G.K (.ref f) = true ∧ FnOk G.P G.w G.K G.mg G.base (CX G.P G.w) k f fd ps (LSp G F np) ∧ Binds G.K fd ps []
  | .fnH k np F => ∃ f fd ps, ps.length = np ∧ G.mg x = some (.ref f) ∧ PySem.W.keepIn G.K (.ref f) = true ∧ FnOk G.P G.w G.K G.mg G.base (CX G.P G.w) k f fd ps (LSp G F np) ∧ L2H.FnH G.P G.w G.K G.mg G.base (CX G.P G.w) k f fd ps (LSp G F np) ∧ Binds G.K fd ps []
  | .blt => G.mg x = none
  | .exc fl k tab => ExcK G x fl k ∧ ∃ C, G.mg x = some (.ref C) ∧ ClsK G (.ref C) tab
  | .exc0 tab => Exc0 G x ∧ ∃ C, G.mg x = some (.ref C) ∧ ClsK G (.ref C) tab
  | .cls tab => ∃ C, G.mg x = some (.ref C) ∧ ClsK G (.ref C) tab
  | .clsB T tab => G.mg x = none ∧ bootBuiltins x = some (.type T) ∧ x ≠ "__name__" ∧ ClsK G (.type T) tab
def GOk (G : GC) (Γ : List (Str × GE)) : Prop := ∀ x ge, Γ.lookup x = some ge → GEok G x ge
def GAll (G : GC) (Γ : List (Str × GE)) : Prop := ∀ x ge, (x, ge) ∈ Γ → GEok G x ge
theorem GAll.ok {G : GC} {Γ : List (Str × GE)} (h : GAll G Γ) : GOk G Γ := fun x ge e => h x ge (by
  induction Γ with
  | nil => simp at e
  | cons p r ih =>
    obtain ⟨y, v⟩ := p
    rw [List.lookup_cons] at e
    split at e
    · rename_i h1
      cases e
      rw [beq_iff_eq.mp h1]; simp
    · exact List.mem_cons_of_mem _ (ih (fun x ge hm => h x ge (List.mem_cons_of_mem _ hm)) e))
structure Good (X : Cx) (G : GC) (S : SEnv) : Prop where
  P : X.prog = G.P
  w : X.w = G.w
  K : X.K = G.K
  mg : X.mg = G.mg
  base : X.base = G.base
  kind : X.env.scope.kind = .function
  names : X.env.scope.names = S.names
  N : X.N = S.N
  nd : S.N.Nodup
  calm : S.hot = false → X.calm = true
  room : S.hot = false → Room S.lv X.A
  hotc : S.hot = true → L2H.HotC X
  roomH : S.hot = true → L2H.RoomH S.lv X.A
  un : X.A.units + 65 < cLine
  fn : ∀ x, (S.fnall || S.fnl.contains x) = true → X.fn x = true
  xn : ∀ n, G.xn = some n → S.xi = some n.i
  all : GAll G S.Γ
  cold : S.hot = false → G.xn = none
  xx : ∀ x, S.xx = some x → ∃ m, G.xn = some m ∧ m.x = x ∧ S.xi = some m.i
  su : Suite X G
  xf : ∀ n C, G.cm n = some C → XfK G.K C S.flds
  st : S.top = true → X.stack = X.env :: X.outer ∧ X.env.frame = some X.env.locals

theorem Good.g {X : Cx} {G : GC} {S : SEnv} (g : Good X G S) : GOk G S.Γ := g.all.ok
structure Rec where
  e : SEnv → Expr → Option SE
  c : SEnv → Expr → Option SC
  s : SEnv → Stmt → Option SS
structure RecOk (r : Rec) : Prop where
  e : ∀ {X G S e t}, Good X G S → r.e S e = some t → ME X G e t
  c : ∀ {X G S e t}, Good X G S → r.c S e = some t → MC X G e t
  s : ∀ {X G S e t}, Good X G S → PassesOwn (model X.prog X.w) X.A X.env X.xe → r.s S e = some t → MS X G e t

/-! ### facts of the syntax -/
def notStar : Expr → Bool | .Starred _ _ => false | _ => true
def notSet : Expr → Bool | .Set _ _ _ => false | _ => true
def notSlice : Expr → Bool | .Slice _ _ _ _ => false | _ => true
def notComp : Expr → Bool | .ListComp _ _ _ _ => false | .SetComp _ _ _ _ => false | .DictComp _ _ _ _ _ => false | _ => true
def notTup : Expr → Bool | .Tuple _ _ _ => false | _ => true
def notCall : Expr → Bool | .Call _ _ _ _ => false | _ => true
def notTest : Expr → Bool | .UnaryOp .Not _ _ => false | .BoolOp _ _ _ => false | .IfExp _ _ _ _ => false | .Compare _ _ _ _ => false | _ => true
theorem star_cons {a : Expr} {es : List Expr} {env : PySem.Env} (h : notStar a = true) : starEach (a :: es) env = (false, eval a env) :: starEach es env := by
  cases a <;> first | rfl | contradiction
theorem star_any {env : PySem.Env} {pos : Pos} : ∀ {es : List Expr}, es.all notStar = true → (backTo pos (starEach es env)).any (·.1) = false
  | [], _ => rfl
  | a :: es, h => by
    simp only [List.all_cons, Bool.and_eq_true] at h
    rw [star_cons h.1]
    exact star_any (es := es) h.2
theorem star_all {env : PySem.Env} {pos : Pos} : ∀ {es : List Expr}, es.all notStar = true → (backTo pos (starEach es env)).all (fun x => !x.1) = true
  | [], _ => rfl
  | a :: es, h => by
    simp only [List.all_cons, Bool.and_eq_true] at h
    rw [star_cons h.1]
    exact star_all (es := es) h.2
theorem attr_plain {o : Expr} {m : Str} {env : PySem.Env} (h : notCall o = true) : attributeBase o m env (eval o env) = eval o env := by
  cases o <;> first | rfl | contradiction
theorem mark_no {b : Expr} {op : CmpOp} (h : notSet b = true) : behindInMarks op b = false := by
  cases b <;> first | rfl | contradiction
theorem ix_plain {b : Expr} (h : notSlice b = true) : PlainIx b := by
  intro o i
  cases b <;> first | rfl | contradiction
theorem fold_plain {b : Expr} {env : PySem.Env} (h : notSet b = true) : ∀ x, foldedSetIterable b env x = pure x := by
  intro x
  cases b <;> first | rfl | contradiction
theorem sw_plain {e : Expr} {tg : Option Expr} {l : Nat} {env : PySem.Env} (h : notComp e = true) : swapsWith e tg l env = pure false := by
  cases e <;> first | rfl | contradiction
theorem stores_plain {ts : List Expr} {e : Expr} {env : PySem.Env} (h : notTup e = true) : swappedStores ts e env = pure none := by
  unfold swappedStores
  cases e <;> first | contradiction | (rcases ts with _ | ⟨t, _ | ⟨t2, r⟩⟩ <;> first | rfl | (cases t <;> rfl))
theorem true_plain {e : Expr} {env : PySem.Env} (h : notTest e = true) : ∀ whole, isTrue e env whole = (do let v ← whole; standAt e.pos; holding [v] (truthy v)) := by
  intro whole
  cases e <;> first | rfl | contradiction | (rename_i op _ _; cases op <;> first | rfl | contradiction)
theorem each_cons {a : Expr} {es : List Expr} {env : PySem.Env} (h : notStar a = true) : assignEach (a :: es) env = (false, assign a env) :: assignEach es env := by
  cases a <;> first | rfl | contradiction
theorem each_len {env : PySem.Env} : ∀ {es : List Expr}, es.all notStar = true → (assignEach es env).length = es.length ∧ (assignEach es env).findIdx? (·.1) = none
  | [], _ => ⟨rfl, rfl⟩
  | a :: es, h => by
    simp only [List.all_cons, Bool.and_eq_true] at h
    obtain ⟨h1, h2⟩ := each_len (env := env) (es := es) h.2
    rw [each_cons h.1]
    refine ⟨by rw [List.length_cons, List.length_cons, h1], ?_⟩
    rw [List.findIdx?_cons, h2]
    rfl

/-! ### names -/
def okNm (x : Str) : Bool := !(x == ("__debug__" : Str)) && !(x == ("__classdict__" : Str)) && !(x == ("__name__" : Str))
def idx (S : SEnv) (x : Str) : Option Nat := S.N.findIdx? (· == x)
def visK (S : SEnv) (x : Str) : Bool := match S.names.lookup x with | some .local => true | some .cell => true | some .free => true | _ => false
def locK (S : SEnv) (x : Str) : Bool := match S.names.lookup x with | some .local => true | some .cell => true | _ => false
def glbK (S : SEnv) (x : Str) : Bool := match S.names.lookup x with | some .globalImplicit => true | _ => false
def stoK (S : SEnv) (x : Str) : Bool := (S.fnall || S.fnl.contains x) || (match S.names.lookup x with | some .local => true | _ => false)
section
variable {X : Cx} {G : GC} {S : SEnv}
theorem idx_get {x : Str} {i : Nat} (h : idx S x = some i) : S.N[i]? = some x := by
  unfold idx at h
  obtain ⟨hl, e, _⟩ := List.findIdx?_eq_some_iff_getElem.mp h
  rw [List.getElem?_eq_getElem hl, beq_iff_eq.mp e]
theorem Good.vis (g : Good X G S) {x : Str} (h : visK S x = true) : Vis X.env.scope x := by
  unfold visK at h
  unfold Vis
  rw [g.names]
  cases e : S.names.lookup x with
  | none => rw [e] at h; cases h
  | some k => rw [e] at h; cases k <;> first | contradiction | simp
theorem Good.loc (g : Good X G S) {x : Str} (h : locK S x = true) : L2.Loc X.env.scope x := by
  unfold locK at h
  unfold L2.Loc
  rw [g.names]
  cases e : S.names.lookup x with
  | none => rw [e] at h; cases h
  | some k => rw [e] at h; cases k <;> first | contradiction | simp
theorem Good.gl (g : Good X G S) {x : Str} (h : glbK S x = true) : Gl X x := by
  unfold glbK at h
  show X.env.scope.names.lookup x = _
  rw [g.names]
  cases e : S.names.lookup x with
  | none => rw [e] at h; cases h
  | some k => rw [e] at h; cases k <;> first | contradiction | rfl
theorem Good.sto (g : Good X G S) {x : Str} (h : stoK S x = true) : X.fn x = true ∨ X.env.scope.names.lookup x = some .local := by
  unfold stoK at h
  rw [g.names]
  rcases Bool.or_eq_true_iff.mp h with h | h
  · exact .inl (g.fn x h)
  · refine .inr ?_
    cases e : S.names.lookup x with
    | none => rw [e] at h; cases h
    | some k => rw [e] at h; cases k <;> first | contradiction | rfl
theorem okNm1 {x : Str} (h : okNm x = true) : (x == ("__debug__" : Str)) = false := by
  unfold okNm at h; simp only [Bool.and_eq_true, Bool.not_eq_true'] at h; exact h.1.1
theorem okNm2 {x : Str} (h : okNm x = true) : (x == ("__classdict__" : Str)) = false := by
  unfold okNm at h; simp only [Bool.and_eq_true, Bool.not_eq_true'] at h; exact h.1.2
theorem okNm3 {x : Str} (h : okNm x = true) : x ≠ "__name__" := by
  unfold okNm at h; simp only [Bool.and_eq_true, Bool.not_eq_true'] at h; exact fun z => by rw [z] at h; simp at h
theorem Good.units (g : Good X G S) : X.A.units + 65 < cLine := g.un
theorem Good.nox {js : List Nat} (g : Good X G S) (h : (match S.xi with | none => true | some i => !js.contains i) = true) : NoX G js := by
  intro n e
  rw [g.xn n e] at h
  simp only [Bool.not_eq_true', List.contains_eq_mem, decide_eq_false_iff_not] at h
  exact h
def noxB (S : SEnv) (js : List Nat) : Bool := match S.xi with | none => true | some i => !js.contains i
def cName (S : SEnv) (x : Str) : Option SE :=
  if okNm x then
    if visK S x then (idx S x).map eVar
    else if glbK S x then match S.Γ.lookup x with | some (.const d) => some (eC d) | _ => none
    else none
  else none
theorem cName_ok {x : Str} {pos : Pos} {t : SE} (g : Good X G S) (h : cName S x = some t) : ME X G (.Name x pos) t := by
  unfold cName at h
  by_cases ho : okNm x = true
  · rw [if_pos ho] at h
    by_cases hv : visK S x = true
    · rw [if_pos hv] at h
      cases e : idx S x with
      | none => rw [e] at h; cases h
      | some i =>
        rw [e] at h; cases h
        exact me_var (by rw [g.N]; exact idx_get e) (g.vis hv) (okNm1 ho) (okNm2 ho)
    · rw [if_neg hv] at h
      by_cases hg : glbK S x = true
      · rw [if_pos hg] at h
        cases e : S.Γ.lookup x with
        | none => rw [e] at h; cases h
        | some ge =>
          rw [e] at h
          cases ge with
          | const d =>
            cases h
            obtain ⟨u, v, e1, rv, rd⟩ := g.g x _ e
            exact me_of_tC (pe_glob (g.gl hg) (by rw [g.mg]; exact e1) rv (okNm1 ho)) rd
          | _ => cases h
      · rw [if_neg hg] at h; cases h
  · rw [if_neg ho] at h; cases h
def cConst : Const → Option SE
  | .int i => some (eC (.int i))
  | .bool b => some (eC (.bl b))
  | .none => some (eC .non)
  | .str x => some (eC (.str x))
  | _ => none
theorem cConst_ok {c : Const} {k : Nat} {pos : Pos} {t : SE} (h : cConst c = some t) : ME X G (.Constant c k pos) t := by
  cases c <;> first | (cases h; first | exact me_int | exact me_bl | exact me_non | exact me_str) | cases h
def binOp : Operator → Option Op2
  | .Add => some opAdd | .Sub => some opSub | .Mult => some opMul | .FloorDiv => some opDiv | .Mod => some opMod | .Pow => some opPow
  | _ => none
theorem binOp_ok {op : Operator} {f : Op2} (g : Good X G S) (h : binOp op = some f) : OpR X (binaryOp op) (LR G f) := by
  cases op <;> first | (cases h; first | exact or_add g.K | exact or_sub | exact or_mul g.K | exact or_div | exact or_mod | exact or_pow) | cases h
def cmpOp : CmpOp → Op2
  | .Eq => opEq | .NotEq => opNe | .Lt => opLt | .LtE => opLe | .Gt => opGt | .GtE => opGe | .Is => opIs | .IsNot => opIsNot | .In => opIn | .NotIn => opNotIn
theorem cmpOp_ok {op : CmpOp} (g : Good X G S) : OpR X (compareOp op) (LR G (cmpOp op)) := by
  have hu := g.units
  cases op
  · exact or_eq g.K (by omega)
  · exact or_ne g.K (by omega)
  · exact or_lt
  · exact or_le
  · exact or_gt
  · exact or_ge
  · exact or_is
  · exact or_isNot
  · exact or_in g.K hu
  · exact or_notIn g.K hu
variable {r : Rec}
/-! ### argument lists -/
def cArgs (r : Rec) (S : SEnv) : List Expr → Option SA
  | [] => some aNil
  | a :: es => if notStar a then match r.e S a, cArgs r S es with | some ta, some tt => some (aCons ta tt) | _, _ => none else none
theorem cArgs_ok (ro : RecOk r) (g : Good X G S) : ∀ {es : List Expr} {tt : SA}, cArgs r S es = some tt → MA X G es tt ∧ es.all notStar = true
  | [], tt, h => by cases h; exact ⟨ma_nil, rfl⟩
  | a :: es, tt, h => by
    unfold cArgs at h
    by_cases hs : notStar a = true
    · rw [if_pos hs] at h
      cases e1 : r.e S a with
      | none => simp [e1] at h
      | some ta =>
        cases e2 : cArgs r S es with
        | none => simp [e1, e2] at h
        | some t2 =>
          simp only [e1, e2, Option.some.injEq] at h
          subst h
          obtain ⟨h1, h2⟩ := cArgs_ok ro g e2
          exact ⟨ma_cons (ro.e g e1) h1 (star_cons hs), by simp [hs, h2]⟩
    · rw [if_neg hs] at h; cases h

/-! ### calls by name -/
inductive Blt where
  | b (id : String) (g : OpN)
  | t (T : String) (g : OpN)
/-- built-ins by name and number of arguments; where an exception is handled only those with true -/
def bltTab : List ((Str × Nat) × (Bool × Blt)) :=
  [(("len", 1), (true, .b "len" cnLen)), (("int", 1), (true, .t "int" cnInt)), (("tuple", 1), (true, .t "tuple" cnTuple)), (("list", 1), (true, .t "list" cnList)), (("abs", 1), (true, .b "abs" cnAbs)),
   (("ord", 1), (true, .b "ord" cnOrd)), (("str", 1), (true, .t "str" cnStr)), (("sorted", 1), (true, .b "sorted" cnSorted)), (("sum", 1), (false, .b "sum" cnSum)), (("min", 2), (false, .b "min" cnMin)), (("max", 2), (false, .b "max" cnMax)), (("max", 3), (false, .b "max" cnMax3))]
def bltOp (hot : Bool) (f : Str) (n : Nat) : Option Blt := match bltTab.lookup (f, n) with
  | some (h, b) => if hot && !h then none else some b
  | none => none
theorem mem_lookup {α β : Type} [BEq α] [LawfulBEq α] {k : α} {v : β} : ∀ {l : List (α × β)}, l.lookup k = some v → (k, v) ∈ l
  | [], h => by simp at h
  | (k', v') :: r, h => by
    rw [List.lookup_cons] at h
    split at h
    · rename_i e; cases h; rw [beq_iff_eq.mp e]; simp
    · exact List.mem_cons_of_mem _ (mem_lookup h)
def BltOk (X : Cx) (G : GC) (f : Str) : Blt → Prop
  | .b id g => bootBuiltins f = some (.builtin id) ∧ CallR X (.builtin id) (LCall G g)
  | .t T g => bootBuiltins f = some (.type T) ∧ CallR X (.type T) (LCall G g)
theorem bltTab_ok (hK : X.K = G.K) (hu : X.A.units + 65 < cLine) : ∀ p ∈ bltTab, (p.2.1 = false → X.calm = true) → BltOk X G p.1.1 p.2.2 := by
  intro p hp
  unfold bltTab at hp
  rcases List.mem_cons.mp hp with rfl | hp
  · exact fun _ => ⟨by decide +kernel, cr_len hK⟩
  rcases List.mem_cons.mp hp with rfl | hp
  · exact fun _ => ⟨by decide +kernel, cr_int⟩
  rcases List.mem_cons.mp hp with rfl | hp
  · exact fun _ => ⟨by decide +kernel, cr_tuple hK⟩
  rcases List.mem_cons.mp hp with rfl | hp
  · exact fun _ => ⟨by decide +kernel, cr_list hK⟩
  rcases List.mem_cons.mp hp with rfl | hp
  · exact fun _ => ⟨by decide +kernel, cr_abs⟩
  rcases List.mem_cons.mp hp with rfl | hp
  · exact fun _ => ⟨by decide +kernel, cr_ord⟩
  rcases List.mem_cons.mp hp with rfl | hp
  · exact fun _ => ⟨by decide +kernel, cr_str⟩
  rcases List.mem_cons.mp hp with rfl | hp
  · exact fun _ => ⟨by decide +kernel, cr_sorted1 hK hu⟩
  rcases List.mem_cons.mp hp with rfl | hp
  · exact fun h => ⟨by decide +kernel, cr_sumL hK (h rfl)⟩
  rcases List.mem_cons.mp hp with rfl | hp
  · exact fun h => ⟨by decide +kernel, cr_min2 (h rfl)⟩
  rcases List.mem_cons.mp hp with rfl | hp
  · exact fun h => ⟨by decide +kernel, cr_max2 (h rfl)⟩
  rcases List.mem_cons.mp hp with rfl | hp
  · exact fun h => ⟨by decide +kernel, cr_max3 (h rfl)⟩
  cases hp
theorem bltOp_ok {f : Str} {n : Nat} {b : Blt} (g : Good X G S) (h : bltOp S.hot f n = some b) : BltOk X G f b := by
  unfold bltOp at h
  cases e : bltTab.lookup (f, n) with
  | none => rw [e] at h; cases h
  | some p =>
    obtain ⟨hb, b'⟩ := p
    rw [e] at h
    have h : (if (S.hot && !hb) = true then none else some b') = some b := h
    by_cases hh : (S.hot && !hb) = true
    · rw [if_pos hh] at h; cases h
    · rw [if_neg hh] at h; cases h
      refine bltTab_ok g.K g.units _ (mem_lookup e) fun hf => g.calm ?_
      have hf : hb = false := hf
      rw [hf] at hh
      simpa using hh
end
end DN

set_option maxHeartbeats 4000000
/-! the reading of expressions, statements, defs by computation -/
namespace DN
open PySem PySem.Spec L2

structure Mtd where
  T : String
  id : String
  g : OpM
def mtTab : List ((Str × Nat) × Mtd) :=
  [(("append", 1), ⟨"list", "list.append", mAppend⟩), (("extend", 1), ⟨"list", "list.extend", mExtend⟩), (("pop", 0), ⟨"list", "list.pop", mPop⟩), (("pop", 1), ⟨"list", "list.pop", mPop⟩),
   (("reverse", 0), ⟨"list", "list.reverse", mReverse⟩), (("split", 1), ⟨"str", "str.split", mSplit⟩), (("join", 1), ⟨"str", "str.join", mJoin⟩)]
def mtOp (m : Str) (n : Nat) : Option Mtd := mtTab.lookup (m, n)
section
variable {X : Cx} {G : GC} {S : SEnv} {r : Rec}
theorem mtOp_ok {m : Str} {n : Nat} {b : Mtd} (g : Good X G S) (h : mtOp m n = some b) : PlainAttrs b.T ∧ Slot b.T m b.id ∧ typeOf (.builtin b.id) = pure (.type "method_descriptor") ∧ MtR X b.id (LMt G b.g) := by
  have hp := mem_lookup h
  have key : ∀ p ∈ mtTab, PlainAttrs p.2.T ∧ Slot p.2.T p.1.1 p.2.id ∧ typeOf (.builtin p.2.id) = pure (.type "method_descriptor") ∧ MtR X p.2.id (LMt G p.2.g) := by
    intro p hp
    unfold mtTab at hp
    rcases List.mem_cons.mp hp with rfl | hp
    · exact ⟨PySem.F.plainAttrs_list, PySem.F.slot_list_append, PySem.F.type_list_append, mr_append⟩
    rcases List.mem_cons.mp hp with rfl | hp
    · exact ⟨PySem.F.plainAttrs_list, PySem.F.slot_list_extend, PySem.F.type_list_extend, mr_extend g.K⟩
    rcases List.mem_cons.mp hp with rfl | hp
    · exact ⟨PySem.F.plainAttrs_list, PySem.F.slot_list_pop, PySem.F.type_list_pop, mr_pop⟩
    rcases List.mem_cons.mp hp with rfl | hp
    · exact ⟨PySem.F.plainAttrs_list, PySem.F.slot_list_pop, PySem.F.type_list_pop, mr_pop⟩
    rcases List.mem_cons.mp hp with rfl | hp
    · exact ⟨PySem.F.plainAttrs_list, PySem.F.slot_list_reverse, PySem.F.type_list_reverse, mr_reverse⟩
    rcases List.mem_cons.mp hp with rfl | hp
    · exact ⟨PySem.F.plainAttrs_str, PySem.F.slot_str_split, PySem.F.type_str_split, mr_split⟩
    rcases List.mem_cons.mp hp with rfl | hp
    · exact ⟨PySem.F.plainAttrs_str, PySem.F.slot_str_join, PySem.F.type_str_join, mr_join g.K⟩
    cases hp
  exact key _ hp

/-! ### calls -/
def isiT (T : Str) : Option String := if T = "int" then some "int" else if T = "bool" then some "bool" else if T = "str" then some "str" else if T = "tuple" then some "tuple" else if T = "list" then some "list" else none
theorem isiT_ok {T : Str} {TS : String} (h : isiT T = some TS) : bootBuiltins T = some (.type TS) ∧ T ≠ "__name__" ∧ (T == ("__debug__" : Str)) = false := by
  unfold isiT at h
  repeat' (split at h)
  all_goals (cases h)
  all_goals subst_vars
  all_goals exact ⟨by decide +kernel, by decide +kernel, by decide +kernel⟩
def isBlt (S : SEnv) (x : Str) : Bool := glbK S x && (match S.Γ.lookup x with | some .blt => true | _ => false)
theorem isBlt_ok {x : Str} (g : Good X G S) (h : isBlt S x = true) : Gl X x ∧ X.mg x = none := by
  unfold isBlt at h
  rw [Bool.and_eq_true] at h
  refine ⟨g.gl h.1, ?_⟩
  have h2 := h.2
  cases e : S.Γ.lookup x with
  | none => rw [e] at h2; cases h2
  | some ge =>
    rw [e] at h2
    cases ge with
    | blt => rw [g.mg]; exact g.g x _ e
    | _ => cases h2
/-- the name of the exception that the suite holds -/
def excVar (S : SEnv) (x : Str) : Option Exn := if okNm x && visK S x then match S.xi, idx S x with | some i, some j => if i = j then S.xx else none | _, _ => none else none
theorem excVar_ok {n : Str} {x : Exn} (g : Good X G S) (h : excVar S n = some x) : ∃ m, G.xn = some m ∧ m.x = x ∧ X.N[m.i]? = some n ∧ Vis X.env.scope n ∧ okNm n = true := by
  unfold excVar at h
  by_cases hb : (okNm n && visK S n) = true
  · rw [if_pos hb] at h
    rw [Bool.and_eq_true] at hb
    cases e1 : S.xi with
    | none => simp [e1] at h
    | some i =>
      cases e2 : idx S n with
      | none => simp [e1, e2] at h
      | some j =>
        simp only [e1, e2] at h
        by_cases hij : i = j
        · rw [if_pos hij] at h
          obtain ⟨m, q1, q2, q3⟩ := g.xx x h
          rw [e1] at q3; cases q3
          exact ⟨m, q1, q2, by rw [g.N, hij]; exact idx_get e2, g.vis hb.2, hb.1⟩
        · rw [if_neg hij] at h; cases h
  · rw [if_neg hb] at h; cases h
def tabOf (S : SEnv) (T : Str) : Option (List (Str × Bool)) := match S.Γ.lookup T with
  | some (.exc _ _ t) => some t
  | some (.exc0 t) => some t
  | some (.cls t) => some t
  | some (.clsB _ t) => some t
  | _ => none
theorem tabOf_ok {T : Str} {tab : List (Str × Bool)} {p : Pos} (g : Good X G S) (hg : glbK S T = true) (ho : okNm T = true) (h : tabOf S T = some tab) : ∃ cw cv, PE X (.Name T p) (tC cw) ∧ (∀ u, RelV cw u → u = cv) ∧ ClsK G cv tab ∧ Names X T cv := by
  unfold tabOf at h
  cases e : S.Γ.lookup T with
  | none => rw [e] at h; cases h
  | some ge =>
    rw [e] at h
    have own : ∀ C, G.mg T = some (.ref C) → ClsK G (.ref C) tab → ∃ cw cv, PE X (.Name T p) (tC cw) ∧ (∀ u, RelV cw u → u = cv) ∧ ClsK G cv tab ∧ Names X T cv := fun C h1 h2 =>
      ⟨.ref C, .ref C, pe_glob (g.gl hg) (by rw [g.mg]; exact h1) rfl (okNm1 ho), fun u h => h, h2, g.gl hg, okNm1 ho, .inl (by rw [g.mg]; exact h1)⟩
    cases ge with
    | const d => cases h
    | fn k np F => cases h
    | fnH k np F => cases h
    | blt => cases h
    | exc fl k t =>
      cases h
      obtain ⟨_, C, h1, h2⟩ := g.g T _ e
      exact own C h1 h2
    | exc0 t =>
      cases h
      obtain ⟨_, C, h1, h2⟩ := g.g T _ e
      exact own C h1 h2
    | cls t =>
      cases h
      obtain ⟨C, h1, h2⟩ := g.g T _ e
      exact own C h1 h2
    | clsB T' t =>
      cases h
      obtain ⟨h1, h2, h3, h4⟩ := g.g T _ e
      exact ⟨.ty T', .type T', pe_bltn (g.gl hg) (by rw [g.mg]; exact h1) h2 rfl h3 (okNm1 ho), fun u h => h, h4, g.gl hg, okNm1 ho, .inr ⟨by rw [g.mg]; exact h1, h2, h3⟩⟩
def cIsE (S : SEnv) (args : List Expr) : Option SE := match args with
  | [.Name n _, .Name T _] => if isBlt S "isinstance" && okNm T && glbK S T then match excVar S n, tabOf S T with | some x, some tab => some (eIsE x tab) | _, _ => none else none
  | _ => none
theorem cIsE_ok {args : List Expr} {p pos : Pos} {t : SE} (g : Good X G S) (h : cIsE S args = some t) : ME X G (.Call (.Name "isinstance" p) args [] pos) t := by
  unfold cIsE at h
  split at h
  · rename_i n q T pT
    split at h
    · rename_i hb
      rw [Bool.and_eq_true, Bool.and_eq_true] at hb
      split at h
      · rename_i x tab e1 e2
        cases h
        obtain ⟨m, h1, rfl, h3, h4, h5⟩ := excVar_ok g e1
        obtain ⟨cw, cv, c1, c2, c3, _⟩ := tabOf_ok (p := pT) g hb.2 hb.1.2 e2
        obtain ⟨g1, m1⟩ := isBlt_ok g hb.1.1
        exact me_isE g.su h1 g.K h3 h4 (okNm1 h5) (okNm2 h5) (fun C hC => g.xf _ C hC) c1 c2 c3 g1 m1
      · cases h
    · cases h
  · cases h
def cIsi (r : Rec) (S : SEnv) (args : List Expr) : Option SE := match args with
  | [a, .Name T _] => if isBlt S "isinstance" && isBlt S T && notStar a then match isiT T, r.e S a with | some TS, some ta => some (eIsi TS ta) | _, _ => none else none
  | _ => none
def cCallN (r : Rec) (S : SEnv) (f : Str) (args : List Expr) : Option SE :=
  if okNm f && glbK S f then
    if f = "isinstance" then (match cIsE S args with | some t => some t | none => cIsi r S args) else
    match S.Γ.lookup f with
    | some (.fn k np F) => if (k ≤ S.lv ∧ S.hot = false) ∧ args.length = np then (cArgs r S args).map (eCall F) else none
    | some (.fnH k np F) => if k ≤ S.lv ∧ (S.hot = true → args ≠ []) ∧ args.length = np then (cArgs r S args).map (eCall F) else none
    | some .blt => match args with
      | [] => none
      | _ => match bltOp S.hot f args.length, cArgs r S args with
        | some (.b _ g), some tt => some (eCallB g tt)
        | some (.t _ g), some tt => some (eCallB g tt)
        | _, _ => none
    | _ => none
  else none
theorem cIsi_ok {args : List Expr} {p pos : Pos} {t : SE} (ro : RecOk r) (g : Good X G S) (h : cIsi r S args = some t) : ME X G (.Call (.Name "isinstance" p) args [] pos) t := by
  unfold cIsi at h
  split at h
  · rename_i a T pT
    split at h
    · rename_i hb
      rw [Bool.and_eq_true, Bool.and_eq_true] at hb
      obtain ⟨⟨b1, b2⟩, b3⟩ := hb
      cases e1 : isiT T with
      | none => simp [e1] at h
      | some TS =>
        cases e2 : r.e S a with
        | none => simp [e1, e2] at h
        | some ta =>
          simp only [e1, e2, Option.some.injEq] at h
          subst h
          obtain ⟨g1, m1⟩ := isBlt_ok g b1
          obtain ⟨g2, m2⟩ := isBlt_ok g b2
          obtain ⟨v1, v2, v3⟩ := isiT_ok e1
          exact me_isi g.K g1 m1 g2 m2 v1 v2 v3 (ro.e g e2) (star_cons b3) (star_any (es := [.Name T pT]) rfl)
    · cases h
  · cases h
theorem cCallN_ok {f : Str} {args : List Expr} {p pos : Pos} {t : SE} (ro : RecOk r) (g : Good X G S) (h : cCallN r S f args = some t) : ME X G (.Call (.Name f p) args [] pos) t := by
  unfold cCallN at h
  by_cases ho : (okNm f && glbK S f) = true
  · rw [if_pos ho] at h
    rw [Bool.and_eq_true] at ho
    obtain ⟨o1, o2⟩ := ho
    by_cases hi : f = "isinstance"
    · rw [if_pos hi] at h
      subst hi
      cases e : cIsE S args with
      | some t' => rw [e] at h; cases h; exact cIsE_ok g e
      | none => rw [e] at h; exact cIsi_ok ro g h
    · rw [if_neg hi] at h
      cases e : S.Γ.lookup f with
      | none => simp [e] at h
      | some ge =>
        cases ge with
        | const d => simp [e] at h
        | exc _ _ _ => simp [e] at h
        | exc0 _ => simp [e] at h
        | cls _ => simp [e] at h
        | clsB _ _ => simp [e] at h
        | fn k np F =>
          simp only [e] at h
          by_cases hk : (k ≤ S.lv ∧ S.hot = false) ∧ args.length = np
          · rw [if_pos hk] at h
            cases ea : cArgs r S args with
            | none => rw [ea] at h; cases h
            | some tt =>
              rw [ea] at h; cases h
              obtain ⟨h1, h2⟩ := cArgs_ok ro g ea
              obtain ⟨fa, fd, ps, hps, hm, hkp, hF, hb⟩ := g.g f _ e
              have hF' : FnOk X.prog X.w X.K X.mg X.base (CX X.prog X.w) k fa fd ps (LSp G F np) := by rw [g.P, g.w, g.K, g.mg, g.base]; exact hF
              cases args with
              | nil =>
                cases ea
                have : np = 0 := hk.2.symm
                subst this
                exact me_call0 hF' ((g.room hk.1.2).mono hk.1.1) (g.gl o2) (by rw [g.mg]; exact hm) (by rw [g.K]; exact hkp) (by rw [g.K]; exact hb) (okNm1 o1)
              | cons a es =>
                simp only [List.all_cons, Bool.and_eq_true] at h2
                exact me_call hF' ((g.room hk.1.2).mono hk.1.1) (g.gl o2) (by rw [g.mg]; exact hm) (by rw [g.K]; exact hkp) (by rw [g.K]; exact hb) h1 hk.2 (okNm1 o1) (star_cons h2.1) (star_any h2.2)
          · rw [if_neg hk] at h; cases h
        | fnH k np F =>
          simp only [e] at h
          by_cases hk : k ≤ S.lv ∧ (S.hot = true → args ≠ []) ∧ args.length = np
          · rw [if_pos hk] at h
            cases ea : cArgs r S args with
            | none => rw [ea] at h; cases h
            | some tt =>
              rw [ea] at h; cases h
              obtain ⟨h1, h2⟩ := cArgs_ok ro g ea
              obtain ⟨fa, fd, ps, hps, hm, hkp, hF, hH, hb⟩ := g.g f _ e
              have hF' : FnOk X.prog X.w X.K X.mg X.base (CX X.prog X.w) k fa fd ps (LSp G F np) := by rw [g.P, g.w, g.K, g.mg, g.base]; exact hF
              have hH' : L2H.FnH X.prog X.w X.K X.mg X.base (CX X.prog X.w) k fa fd ps (LSp G F np) := by rw [g.P, g.w, g.K, g.mg, g.base]; exact hH
              cases hh : S.hot with
              | false =>
                cases args with
                | nil =>
                  cases ea
                  have : np = 0 := hk.2.2.symm
                  subst this
                  exact me_call0 hF' ((g.room hh).mono hk.1) (g.gl o2) (by rw [g.mg]; exact hm) (by rw [g.K]; exact hkp) (by rw [g.K]; exact hb) (okNm1 o1)
                | cons a es =>
                  simp only [List.all_cons, Bool.and_eq_true] at h2
                  exact me_call hF' ((g.room hh).mono hk.1) (g.gl o2) (by rw [g.mg]; exact hm) (by rw [g.K]; exact hkp) (by rw [g.K]; exact hb) h1 hk.2.2 (okNm1 o1) (star_cons h2.1) (star_any h2.2)
              | true =>
                cases args with
                | nil => exact absurd rfl (hk.2.1 hh)
                | cons a es =>
                  simp only [List.all_cons, Bool.and_eq_true] at h2
                  exact me_callH hH' ((g.roomH hh).mono hk.1) (g.hotc hh) (g.gl o2) (by rw [g.mg]; exact hm) (by rw [g.K]; exact hkp) (by rw [g.K]; exact hb) h1 hk.2.2 (okNm1 o1) (star_cons h2.1) (star_any h2.2)
          · rw [if_neg hk] at h; cases h
        | blt =>
          simp only [e] at h
          have hm : X.mg f = none := by rw [g.mg]; exact g.g f _ e
          cases args with
          | nil => simp at h
          | cons a es =>
            simp only at h
            cases eb : bltOp S.hot f (a :: es).length with
            | none => rw [eb] at h; contradiction
            | some b =>
              cases ea : cArgs r S (a :: es) with
              | none => rw [eb, ea] at h; cases b <;> contradiction
              | some tt =>
                obtain ⟨h1, h2⟩ := cArgs_ok ro g ea
                simp only [List.all_cons, Bool.and_eq_true] at h2
                have bo := bltOp_ok (X := X) (G := G) g eb
                cases b with
                | b id gg =>
                  simp only [eb, ea, Option.some.injEq] at h
                  subst h
                  exact me_callB bo.2 (g.gl o2) hm bo.1 h1 (okNm3 o1) (okNm1 o1) (star_cons h2.1) (star_any h2.2)
                | t T gg =>
                  simp only [eb, ea, Option.some.injEq] at h
                  subst h
                  exact me_callTy bo.2 (g.gl o2) hm bo.1 h1 (okNm3 o1) (okNm1 o1) (star_cons h2.1) (star_any h2.2)
  · rw [if_neg ho] at h; cases h
def cCallM (r : Rec) (S : SEnv) (o : Expr) (m : Str) (apos cpos : Pos) (args : List Expr) : Option SE :=
  if notCall o && (apos.endLine == cpos.line) && decide (args.length < 20) then match mtOp m args.length, r.e S o, cArgs r S args with
    | some b, some to, some tt => some (eBm b.T b.g to tt)
    | _, _, _ => none
  else none
theorem cCallM_ok {o : Expr} {m : Str} {apos cpos : Pos} {args : List Expr} {t : SE} (ro : RecOk r) (g : Good X G S) (h : cCallM r S o m apos cpos args = some t) : ME X G (.Call (.Attribute o m apos) args [] cpos) t := by
  unfold cCallM at h
  by_cases hb : (notCall o && (apos.endLine == cpos.line) && decide (args.length < 20)) = true
  · rw [if_pos hb] at h
    rw [Bool.and_eq_true, Bool.and_eq_true] at hb
    obtain ⟨⟨b1, b2⟩, b3⟩ := hb
    cases em : mtOp m args.length with
    | none => simp [em] at h
    | some b =>
      cases eo : r.e S o with
      | none => simp [em, eo] at h
      | some to =>
        cases ea : cArgs r S args with
        | none => simp [em, eo, ea] at h
        | some tt =>
          simp only [em, eo, ea, Option.some.injEq] at h
          subst h
          obtain ⟨pa, sl, ty, mr⟩ := mtOp_ok (X := X) (G := G) g em
          obtain ⟨h1, h2⟩ := cArgs_ok ro g ea
          cases args with
          | nil => cases ea; exact me_bm0 g.K pa sl ty mr (ro.e g eo) (attr_plain b1) b2
          | cons a es =>
            have h3 := h2
            simp only [List.all_cons, Bool.and_eq_true] at h3
            refine me_bm g.K pa sl ty mr (ro.e g eo) h1 (attr_plain b1) ?_ b2 (star_cons h3.1) (star_any h3.2)
            rw [star_all h2]
            have : (a :: es).length < 20 := of_decide_eq_true b3
            simp [keywordEach, backToKw] at this ⊢
            omega
  · rw [if_neg hb] at h; cases h

/-! ### targets -/
def cTgN (S : SEnv) (x : Str) : Option Tg := if locK S x && stoK S x then match idx S x with | some i => if noxB S [i] then some (.nm i) else none | none => none else none
def cTgs1 (S : SEnv) : List Expr → Option (List Tg)
  | [] => some []
  | .Name x _ :: es => match cTgN S x, cTgs1 S es with | some t, some ts => some (t :: ts) | _, _ => none
  | _ :: _ => none
def cTgs2 (S : SEnv) : List Expr → Option (List Tg)
  | [] => some []
  | .Name x _ :: es => match cTgN S x, cTgs2 S es with | some t, some ts => some (t :: ts) | _, _ => none
  | .Tuple es1 _ _ :: es => match cTgs1 S es1, cTgs2 S es with | some t, some ts => some (.tp t :: ts) | _, _ => none
  | _ :: _ => none
def cTg (S : SEnv) : Expr → Option Tg
  | .Name x _ => cTgN S x
  | .Tuple es _ _ => if S.hot = true then none else (cTgs2 S es).map .tp
  | _ => none
theorem cTgN_ok {x : Str} {pos : Pos} {t : Tg} (g : Good X G S) (h : cTgN S x = some t) : MG X G (.Name x pos) t := by
  unfold cTgN at h
  by_cases hb : (locK S x && stoK S x) = true
  · rw [if_pos hb] at h
    rw [Bool.and_eq_true] at hb
    cases e : idx S x with
    | none => rw [e] at h; cases h
    | some i =>
      simp only [e] at h
      by_cases hx : noxB S [i] = true
      · rw [if_pos hx] at h; cases h
        exact mg_name (by rw [g.N]; exact g.nd) (by rw [g.N]; exact idx_get e) (g.loc hb.1) (g.sto hb.2) (g.nox hx)
      · rw [if_neg hx] at h; cases h
  · rw [if_neg hb] at h; cases h
theorem cTgs1_ok (g : Good X G S) : ∀ {es : List Expr} {ts : List Tg}, cTgs1 S es = some ts → MGs X G es ts ∧ es.length = ts.length ∧ es.all notStar = true
  | [], ts, h => by cases h; exact ⟨mgs_nil, rfl, rfl⟩
  | e :: es, ts, h => by
    cases e <;> first
      | (simp [cTgs1] at h; done)
      | skip
    rename_i x pos
    simp only [cTgs1] at h
    cases e1 : cTgN S x with
    | none => simp [e1] at h
    | some t =>
      cases e2 : cTgs1 S es with
      | none => simp [e1, e2] at h
      | some ts2 =>
        simp only [e1, e2, Option.some.injEq] at h
        subst h
        obtain ⟨h1, h2, h3⟩ := cTgs1_ok g e2
        exact ⟨mgs_cons (cTgN_ok g e1) h1 (by rw [each_cons rfl]; rfl), by rw [List.length_cons, List.length_cons, h2], by simp [notStar, h3]⟩
theorem cTgs2_ok (g : Good X G S) (hh : S.hot = false) : ∀ {es : List Expr} {ts : List Tg}, cTgs2 S es = some ts → MGs X G es ts ∧ es.length = ts.length ∧ es.all notStar = true
  | [], ts, h => by cases h; exact ⟨mgs_nil, rfl, rfl⟩
  | e :: es, ts, h => by
    cases e <;> first
      | (simp [cTgs2] at h; done)
      | skip
    · rename_i x pos
      simp only [cTgs2] at h
      cases e1 : cTgN S x with
      | none => simp [e1] at h
      | some t =>
        cases e2 : cTgs2 S es with
        | none => simp [e1, e2] at h
        | some ts2 =>
          simp only [e1, e2, Option.some.injEq] at h
          subst h
          obtain ⟨h1, h2, h3⟩ := cTgs2_ok g hh e2
          exact ⟨mgs_cons (cTgN_ok g e1) h1 (by rw [each_cons rfl]; rfl), by rw [List.length_cons, List.length_cons, h2], by simp [notStar, h3]⟩
    · rename_i es1 k pos
      simp only [cTgs2] at h
      cases e1 : cTgs1 S es1 with
      | none => simp [e1] at h
      | some t =>
        cases e2 : cTgs2 S es with
        | none => simp [e1, e2] at h
        | some ts2 =>
          simp only [e1, e2, Option.some.injEq] at h
          subst h
          obtain ⟨h1, h2, h3⟩ := cTgs2_ok g hh e2
          obtain ⟨q1, q2, q3⟩ := cTgs1_ok g e1
          obtain ⟨l1, l2⟩ := each_len (env := X.env) q3
          exact ⟨mgs_cons (mg_tup g.K (g.calm hh) q1 q2 l1 l2) h1 (by rw [each_cons rfl]; rfl), by rw [List.length_cons, List.length_cons, h2], by simp [notStar, h3]⟩
theorem cTg_ok {e : Expr} {t : Tg} (g : Good X G S) (h : cTg S e = some t) : MG X G e t := by
  cases e <;> first
    | (simp [cTg] at h; done)
    | skip
  · exact cTgN_ok g h
  · rename_i es k pos
    simp only [cTg] at h
    cases hh : S.hot with
    | true => rw [hh] at h; simp at h
    | false =>
    rw [hh] at h
    simp only [Bool.false_eq_true, if_false] at h
    cases e1 : cTgs2 S es with
    | none => rw [e1] at h; cases h
    | some ts =>
      rw [e1] at h; cases h
      obtain ⟨q1, q2, q3⟩ := cTgs2_ok g hh e1
      obtain ⟨l1, l2⟩ := each_len (env := X.env) q3
      exact mg_tup g.K (g.calm hh) q1 q2 l1 l2

/-! ### what is walked -/
def isTup : Expr → Bool | .Tuple _ _ _ => true | _ => false
def cIt (r : Rec) (S : SEnv) (tg iter : Expr) : Option SI := match iter with
  | .Call (.Name f _) args [] _ =>
    if f = "range" then
      if isBlt S "range" then match args with
        | [a] => (cArgs r S [a]).map iRange1
        | [a, b] => (cArgs r S [a, b]).map iRange2
        | _ => none
      else none
    else if f = "enumerate" then
      if isBlt S "enumerate" && isTup tg then match args with
        | [a] => (cArgs r S [a]).map iEnum1
        | _ => none
      else none
    else (r.e S iter).map iSeq
  | _ => (r.e S iter).map iSeq
theorem cIt_ok {tg iter : Expr} {t : SI} (ro : RecOk r) (g : Good X G S) (h : cIt r S tg iter = some t) : MI X G tg iter t := by
  have plain : (r.e S iter).map iSeq = some t → MI X G tg iter t := fun h => by
    cases e : r.e S iter with
    | none => rw [e] at h; cases h
    | some te => rw [e] at h; cases h; exact mi_seq g.K (ro.e g e)
  unfold cIt at h
  split at h
  · rename_i f p args pos
    by_cases h1 : f = "range"
    · rw [if_pos h1] at h
      subst h1
      by_cases hb : isBlt S "range" = true
      · rw [if_pos hb] at h
        obtain ⟨g1, m1⟩ := isBlt_ok g hb
        split at h
        · rename_i a
          cases ea : cArgs r S [a] with
          | none => rw [ea] at h; cases h
          | some tt =>
            rw [ea] at h; cases h
            obtain ⟨q1, q2⟩ := cArgs_ok ro g ea
            simp only [List.all_cons, Bool.and_eq_true] at q2
            exact mi_range1 g1 m1 q1 (by rw [star_cons q2.1]; rfl)
        · rename_i a b
          cases ea : cArgs r S [a, b] with
          | none => rw [ea] at h; cases h
          | some tt =>
            rw [ea] at h; cases h
            obtain ⟨q1, q2⟩ := cArgs_ok ro g ea
            simp only [List.all_cons, Bool.and_eq_true] at q2
            exact mi_range2 g1 m1 q1 (by rw [star_cons q2.1, star_cons q2.2.1]; rfl) (by rw [star_cons q2.2.1]; rfl)
        · cases h
      · rw [if_neg hb] at h; cases h
    · rw [if_neg h1] at h
      by_cases h2 : f = "enumerate"
      · rw [if_pos h2] at h
        subst h2
        by_cases hb : (isBlt S "enumerate" && isTup tg) = true
        · rw [if_pos hb] at h
          rw [Bool.and_eq_true] at hb
          obtain ⟨g1, m1⟩ := isBlt_ok g hb.1
          split at h
          · rename_i a
            cases ea : cArgs r S [a] with
            | none => rw [ea] at h; cases h
            | some tt =>
              rw [ea] at h; cases h
              obtain ⟨q1, q2⟩ := cArgs_ok ro g ea
              simp only [List.all_cons, Bool.and_eq_true] at q2
              have ht := hb.2
              cases tg <;> first
                | (simp [isTup] at ht; done)
                | exact mi_enum g.K g1 m1 q1 (by rw [star_cons q2.1]; rfl)
          · cases h
        · rw [if_neg hb] at h; cases h
      · rw [if_neg h2] at h
        exact plain h
  · exact plain h
/-- what a suite, or a def called in one, walks -/
def cItH (r : Rec) (S : SEnv) (iter : Expr) : Option SI := match iter with
  | .Call (.Name f _) [a] [] _ => if f = "range" then (if isBlt S "range" then (cArgs r S [a]).map iRange1 else none) else none
  | _ => none
theorem cItH_ok {tg iter : Expr} {t : SI} (ro : RecOk r) (g : Good X G S) (h : cItH r S iter = some t) : MIH X G tg iter t := by
  unfold cItH at h
  split at h
  · rename_i f p a pos
    by_cases h1 : f = "range"
    · rw [if_pos h1] at h
      subst h1
      by_cases hb : isBlt S "range" = true
      · rw [if_pos hb] at h
        obtain ⟨g1, m1⟩ := isBlt_ok g hb
        cases ea : cArgs r S [a] with
        | none => rw [ea] at h; cases h
        | some tt =>
          rw [ea] at h; cases h
          obtain ⟨q1, q2⟩ := cArgs_ok ro g ea
          simp only [List.all_cons, Bool.and_eq_true] at q2
          exact mi_range1H g1 m1 q1 (by rw [star_cons q2.1]; rfl)
      · rw [if_neg hb] at h; cases h
    · rw [if_neg h1] at h; cases h
  · cases h
end
end DN

set_option maxHeartbeats 4000000
namespace DN
open PySem PySem.Spec L2
section
variable {X : Cx} {G : GC} {S : SEnv} {r : Rec}

/-! ### comprehensions -/
def scopeOf (S : SEnv) : Scope := ⟨.function, S.names, false, false, []⟩
def ownOf (S : SEnv) (scope : Scope) : List (Str × Nat) := scope.names.filterMap fun (n, k) => match k with
  | .local => (idx S n).map fun i => (n, i)
  | .cell => (idx S n).map fun i => (n, i)
  | _ => none
def blkS (S : SEnv) (scope : Scope) : SEnv :=
  { S with names := scope.names.map (fun (n, k) => if (k == NameKind.free && S.names.lookup n == some NameKind.cell) then (n, NameKind.cell) else (n, k)), fnall := false, top := false,
           fnl := scope.names.filterMap fun (n, _) => if scope.names.lookup n == some NameKind.cell then some n else none }
theorem blk_good (g : Good X G S) (hh : S.hot = false) {scope : Scope} (hk : scope.kind = .function) (s : Shared) (H : Hp) (C : Addr) (cl : List (Str × Addr)) (fp : List Addr) : Good (X.blk s H scope (compEnvC scope cl C X.env) fp) G (blkS S scope) where
  P := g.P
  w := g.w
  K := g.K
  mg := g.mg
  base := g.base
  kind := hk
  names := by
    show (scope.names.map fun (n, k) => if (k == NameKind.free && X.env.scope.kind == ScopeKind.function && X.env.scope.names.lookup n == some NameKind.cell) then (n, NameKind.cell) else (n, k)) = _
    rw [g.kind, g.names]
    unfold blkS
    simp
  N := g.N
  nd := g.nd
  calm := g.calm
  room := g.room
  hotc := fun h => (by have h : S.hot = true := h; rw [hh] at h; cases h)
  roomH := fun h => (by have h : S.hot = true := h; rw [hh] at h; cases h)
  un := g.un
  fn := fun x h => by
    have h : (blkS S scope).fnl.contains x = true := by
      have z : ((blkS S scope).fnall || (blkS S scope).fnl.contains x) = true := h
      have e : (blkS S scope).fnall = false := rfl
      rw [e, Bool.false_or] at z
      exact z
    show (scope.names.lookup x == some .cell) = true
    unfold blkS at h
    simp only [List.contains_eq_mem, decide_eq_true_eq, List.mem_filterMap] at h
    obtain ⟨⟨n, k⟩, _, h⟩ := h
    simp only at h
    split at h
    · rename_i hc; cases h; exact hc
    · cases h
  xn := g.xn
  all := g.all
  cold := g.cold
  xx := g.xx
  su := fun n e => (by rw [g.cold hh] at e; cases e)
  xf := g.xf
  st := fun h => (by cases h)
def cLc (r : Rec) (S : SEnv) (elt tg iter : Expr) (ifs : List Expr) (scope : Scope) : Option SE :=
  match cIt r S tg iter, cTg (blkS S scope) tg, r.e (blkS S scope) elt, (match ifs with | [] => some cYes | [c] => r.c (blkS S scope) c | _ => none) with
  | some ti, some t, some te, some tt =>
    if !S.hot && blkC S.N (scopeOf S) scope (ownOf S scope) && notSet iter && (slotsT t).all (fun i => ((ownOf S scope).map (·.2)).contains i) && noxB S ((ownOf S scope).map (·.2)) then some (eLc ti t tt te ((ownOf S scope).map (·.2))) else none
  | _, _, _, _ => none
structure LcOk (X : Cx) (G : GC) (elt tg iter : Expr) (ifs : List Expr) (scope : Scope) (own : List (Str × Nat)) (ti : SI) (t : Tg) (tt : SC) (te : SE) : Prop where
  hi : MI X G tg iter ti
  ok : BlkOk X.N X.env.scope scope own
  hg : ∀ (s : Shared) (H : Hp) (C : Addr) (cl : List (Str × Addr)) (fp : List Addr), MG (X.blk s H scope (compEnvC scope cl C X.env) fp) G tg t
  ht : ∀ (s : Shared) (H : Hp) (C : Addr) (cl : List (Str × Addr)) (fp : List Addr), MTs (X.blk s H scope (compEnvC scope cl C X.env) fp) G ifs tt
  he : ∀ (s : Shared) (H : Hp) (C : Addr) (cl : List (Str × Addr)) (fp : List Addr), ME (X.blk s H scope (compEnvC scope cl C X.env) fp) G elt te
  hs : ∀ x, foldedSetIterable iter X.env x = pure x
  hsl : ∀ i ∈ slotsT t, i ∈ own.map (·.2)
  hx : NoX G (own.map (·.2))
  calm : X.calm = true
theorem cLc_parts {elt tg iter : Expr} {ifs : List Expr} {scope : Scope} {t : SE} (ro : RecOk r) (g : Good X G S) (h : cLc r S elt tg iter ifs scope = some t) :
    ∃ ti tt te tgt, t = eLc ti tgt tt te ((ownOf S scope).map (·.2)) ∧ LcOk X G elt tg iter ifs scope (ownOf S scope) ti tgt tt te := by
  unfold cLc at h
  split at h
  · rename_i ti tgt te tt e1 e2 e3 e4
    split at h
    · rename_i hb
      cases h
      simp only [Bool.and_eq_true, List.all_eq_true, List.contains_eq_mem, decide_eq_true_eq] at hb
      obtain ⟨⟨⟨⟨b0, b1⟩, b2⟩, b3⟩, b4⟩ := hb
      have b0 : S.hot = false := by simpa using b0
      have hk : scope.kind = .function := (blkOk_by b1).kind
      refine ⟨ti, tt, te, tgt, rfl, cIt_ok ro g e1, ?_, fun s H C cl fp => cTg_ok (blk_good g b0 hk s H C cl fp) e2, fun s H C cl fp => ?_, fun s H C cl fp => ro.e (blk_good g b0 hk s H C cl fp) e3, fold_plain b2, b3, g.nox b4, g.calm b0⟩
      · have q := blkOk_by b1
        refine ⟨q.kind, q.uniq, by rw [g.N]; exact q.ix, fun y hy e => ?_, fun y hy e => by rw [g.N]; exact q.own y hy e⟩
        rw [g.names]
        exact q.free y hy e
      · split at e4
        · cases e4; exact mts_nil
        · exact mts_one (ro.c (blk_good g b0 hk s H C cl fp) e4)
        · cases e4
    · cases h
  · cases h
theorem cLc_ok {elt tg iter : Expr} {ifs : List Expr} {scope : Scope} {pos : Pos} {t : SE} (ro : RecOk r) (g : Good X G S) (h : cLc r S elt tg iter ifs scope = some t) : ME X G (.ListComp elt [⟨tg, iter, ifs, 0⟩] scope pos) t := by
  obtain ⟨ti, tt, te, tgt, rfl, L⟩ := cLc_parts ro g h
  exact me_lc L.calm (by rw [g.N]; exact g.nd) L.hi L.ok L.hg L.ht L.he L.hs L.hsl L.hx

/-! ### expressions -/
def cBoolV (r : Rec) (S : SEnv) (op : BoolOp) : List Expr → Option SE
  | [] => none
  | [a] => r.e S a
  | a :: b :: rest => match r.e S a, cBoolV r S op (b :: rest) with
    | some ta, some tb => match op with | .And => some (eAnd ta tb) | .Or => some (eOr ta tb)
    | _, _ => none
theorem cBoolV_ok {op : BoolOp} {pos : Pos} (ro : RecOk r) (g : Good X G S) : ∀ {es : List Expr} {t : SE}, cBoolV r S op es = some t → ME X G (.BoolOp op es pos) t
  | [], t, h => by cases h
  | [a], t, h => me_one (ro.e g h)
  | a :: b :: rest, t, h => by
    unfold cBoolV at h
    cases e1 : r.e S a with
    | none => simp [e1] at h
    | some ta =>
      cases e2 : cBoolV r S op (b :: rest) with
      | none => simp [e1, e2] at h
      | some tb =>
        simp only [e1, e2] at h
        cases op with
        | And => cases h; exact me_and g.K (ro.e g e1) (cBoolV_ok ro g e2)
        | Or => cases h; exact me_or g.K (ro.e g e1) (cBoolV_ok ro g e2)
def cPart (r : Rec) (S : SEnv) : Option Expr → Option SO
  | none => some oNo
  | some e => (r.e S e).map oSome
theorem cPart_ok {e : Option Expr} {t : SO} (ro : RecOk r) (g : Good X G S) (h : cPart r S e = some t) : MO X G e t := by
  cases e with
  | none => cases h; exact mo_none
  | some e =>
    unfold cPart at h
    cases e1 : r.e S e with
    | none => simp [e1] at h
    | some te => simp only [e1, Option.map_some, Option.some.injEq] at h; subst h; exact mo_some (ro.e g e1)
def stepE (r : Rec) (S : SEnv) : Expr → Option SE
  | .Name x _ => cName S x
  | .Constant c _ _ => cConst c
  | .BinOp a op b _ => match binOp op, r.e S a, r.e S b with | some f, some ta, some tb => some (eBin f ta tb) | _, _, _ => none
  | .UnaryOp .USub a _ => (r.e S a).map (eUn opNeg)
  | .UnaryOp .Not a _ => (r.e S a).map eNot
  | .Compare a [op] [b] _ => if notSet b then match r.e S a, r.e S b with | some ta, some tb => some (eBin (cmpOp op) ta tb) | _, _ => none else none
  | .Compare a [op, op'] [b, c] _ => if notSet c then match r.e S a, r.e S b, r.e S c with | some ta, some tb, some tc => some (eChain (cmpOp op) (cmpOp op') ta tb tc) | _, _, _ => none else none
  | .BoolOp op es _ => cBoolV r S op es
  | .IfExp c a b _ => match r.c S c, r.e S a, r.e S b with | some tc, some ta, some tb => some (eIf tc ta tb) | _, _, _ => none
  | .Tuple es _ _ => (cArgs r S es).map eTup
  | .List es _ => (cArgs r S es).map eLst
  | .Subscript a (.Slice none none (some (.UnaryOp .USub (.Constant (.int 1) _ _) _)) _) _ => match r.e S a with | some ta => some (eRev ta) | none => none
  | .Subscript a (.Slice lo hi none _) _ => match r.e S a, cPart r S lo, cPart r S hi with | some ta, some tl, some th => some (eSl ta tl th) | _, _, _ => none
  | .Subscript a b _ => if notSlice b then match r.e S a, r.e S b with | some ta, some tb => some (eBin opIx ta tb) | _, _ => none else none
  | .Call (.Name f _) args [] _ => cCallN r S f args
  | .Call (.Attribute o m apos) args [] cpos => cCallM r S o m apos cpos args
  | .ListComp elt [⟨tg, iter, ifs, 0⟩] scope _ => cLc r S elt tg iter ifs scope
  | .Attribute (.Name n _) f _ => if S.flds.contains f then (excVar S n).map fun x => eFld x f else none
  | _ => none
theorem stepE_ok {e : Expr} {t : SE} (ro : RecOk r) (g : Good X G S) (h : stepE r S e = some t) : ME X G e t := by
  unfold stepE at h
  split at h
  · exact cName_ok g h
  · exact cConst_ok h
  · split at h
    · rename_i e1 e2 e3; cases h; exact me_bin (binOp_ok g e1) (ro.e g e2) (ro.e g e3)
    · cases h
  · rename_i a _
    cases e : r.e S a with
    | none => rw [e] at h; cases h
    | some te => rw [e] at h; cases h; exact me_un ur_neg (ro.e g e)
  · rename_i a _
    cases e : r.e S a with
    | none => rw [e] at h; cases h
    | some te => rw [e] at h; cases h; exact me_not g.K (ro.e g e)
  · split at h
    · rename_i hb
      split at h
      · rename_i e1 e2; cases h; exact me_cmp (cmpOp_ok g) (ro.e g e1) (ro.e g e2) (mark_no hb)
      · cases h
    · cases h
  · split at h
    · rename_i hb
      split at h
      · rename_i e1 e2 e3; cases h; exact me_chain (cmpOp_ok g) (cmpOp_ok g) (ro.e g e1) (ro.e g e2) (ro.e g e3) (by show behindInMarks _ _ = false; exact mark_no hb)
      · cases h
    · cases h
  · exact cBoolV_ok ro g h
  · split at h
    · rename_i e1 e2 e3; cases h; exact me_ifExp (ro.c g e1) (ro.e g e2) (ro.e g e3)
    · cases h
  · rename_i es _ _
    cases e : cArgs r S es with
    | none => rw [e] at h; cases h
    | some tt => rw [e] at h; cases h; exact me_tup (cArgs_ok ro g e).1
  · rename_i es _
    cases e : cArgs r S es with
    | none => rw [e] at h; cases h
    | some tt => rw [e] at h; cases h; exact me_lst (cArgs_ok ro g e).1
  · split at h
    · rename_i e1; cases h; exact me_rev g.K (ro.e g e1)
    · cases h
  · split at h
    · rename_i e1 e2 e3; cases h; exact me_slice g.K (ro.e g e1) (cPart_ok ro g e2) (cPart_ok ro g e3)
    · cases h
  · split at h
    · rename_i hb
      split at h
      · rename_i e1 e2; cases h; exact me_ix (xr_ix g.K) (ro.e g e1) (ro.e g e2) (ix_plain hb)
      · cases h
    · cases h
  · exact cCallN_ok ro g h
  · exact cCallM_ok ro g h
  · exact cLc_ok ro g h
  · rename_i n q f q2
    split at h
    · rename_i hf
      cases e : excVar S n with
      | none => rw [e] at h; cases h
      | some x =>
        rw [e] at h; cases h
        obtain ⟨m, h1, rfl, h3, h4, h5⟩ := excVar_ok g e
        exact me_fld g.su h1 g.K h3 h4 (okNm1 h5) (okNm2 h5) (fun C hC => g.xf _ C hC) (by simpa using hf)
    · cases h
  · cases h

/-! ### tests -/
def cBoolT (r : Rec) (S : SEnv) (op : BoolOp) : List Expr → Option SC
  | [] => none
  | [a] => r.c S a
  | a :: b :: rest => match r.c S a, cBoolT r S op (b :: rest) with
    | some ta, some tb => match op with | .And => some (cAnd ta tb) | .Or => some (cOr ta tb)
    | _, _ => none
theorem cBoolT_ok {op : BoolOp} {pos : Pos} (ro : RecOk r) (g : Good X G S) : ∀ {es : List Expr} {t : SC}, cBoolT r S op es = some t → MW X G (.BoolOp op es pos) t
  | [], t, h => by cases h
  | [a], t, h => by
    cases op with
    | And => exact mw_and1 (ro.c g h)
    | Or => exact mw_or1 (ro.c g h)
  | a :: b :: rest, t, h => by
    unfold cBoolT at h
    cases e1 : r.c S a with
    | none => simp [e1] at h
    | some ta =>
      cases e2 : cBoolT r S op (b :: rest) with
      | none => simp [e1, e2] at h
      | some tb =>
        simp only [e1, e2] at h
        cases op with
        | And => cases h; exact mw_and (ro.c g e1) (cBoolT_ok ro g e2)
        | Or => cases h; exact mw_or (ro.c g e1) (cBoolT_ok ro g e2)
def stepC (r : Rec) (S : SEnv) : Expr → Option SC
  | .UnaryOp .Not a _ => (r.c S a).map cNot
  | .BoolOp op es _ => cBoolT r S op es
  | .Compare a [op] [b] _ => if notSet b then match r.e S a, r.e S b with | some ta, some tb => some (cB (eBin (cmpOp op) ta tb)) | _, _ => none else none
  | .Compare a [op, op'] [b, c] _ => if notSet c then match r.e S a, r.e S b, r.e S c with | some ta, some tb, some tc => some (cB (eChain (cmpOp op) (cmpOp op') ta tb tc)) | _, _, _ => none else none
  | e => if notTest e then (r.e S e).map cT else none
theorem stepC_ok {e : Expr} {t : SC} (ro : RecOk r) (g : Good X G S) (h : stepC r S e = some t) : MC X G e t := by
  unfold stepC at h
  split at h
  · rename_i a _
    cases e : r.c S a with
    | none => rw [e] at h; cases h
    | some te => rw [e] at h; cases h; exact mc_not (ro.c g e)
  · exact (cBoolT_ok ro g h).mc
  · split at h
    · rename_i hb
      split at h
      · rename_i e1 e2; cases h; exact mc_cmp (cmpOp_ok g) (ro.e g e1) (ro.e g e2) (mark_no hb)
      · cases h
    · cases h
  · split at h
    · rename_i hb
      split at h
      · rename_i e1 e2 e3; cases h; exact mc_chain (cmpOp_ok g) (cmpOp_ok g) (ro.e g e1) (ro.e g e2) (ro.e g e3) (by show behindInMarks _ _ = false; exact mark_no hb)
      · cases h
    · cases h
  · split at h
    · rename_i hb
      cases e1 : r.e S e with
      | none => rw [e1] at h; cases h
      | some te => rw [e1] at h; cases h; exact mc_tru g.K (ro.e g e1) (true_plain hb)
    · cases h

/-! ### statements -/
def cSs (r : Rec) (S : SEnv) : List Stmt → Option SS
  | [] => some sNop
  | [st] => r.s S st
  | st :: rest => match r.s S st, cSs r S rest with | some t, some u => some (sSeq t u) | _, _ => none
theorem cSs_ok (ro : RecOk r) (g : Good X G S) (hp : PassesOwn (model X.prog X.w) X.A X.env X.xe) : ∀ {sts : List Stmt} {t : SS}, cSs r S sts = some t → MSs X G sts t
  | [], t, h => by cases h; exact mss_nil
  | [st], t, h => mss_one (ro.s g hp h)
  | st :: st2 :: rest, t, h => by
    unfold cSs at h
    · cases e1 : r.s S st with
      | none => simp [e1] at h
      | some t1 =>
        cases e2 : cSs r S (st2 :: rest) with
        | none => simp [e1, e2] at h
        | some u =>
          simp only [e1, e2, Option.some.injEq] at h
          subst h
          exact mss_cons (ro.s g hp e1) (cSs_ok ro g hp e2)
def lcSw (S : SEnv) (y : Str) (py pos : Pos) (scope : Scope) : Bool := (match S.names.lookup y with | some .local => true | _ => false) && (py.line == pos.line) && !(scope.names.any fun (n, k) => n == y && (k == .local || k == .cell))
/-- a name that a comprehension reads, too -/
def cellK (S : SEnv) (y : Str) : Bool := match S.names.lookup y with | some .cell => true | _ => false
theorem sw_cell {elt : Expr} {gs : List Comprehension} {scope : Scope} {pos py : Pos} {y : Str} {l : Nat} {env : PySem.Env} (hy : env.scope.names.lookup y = some .cell) : swapsWith (.ListComp elt gs scope pos) (some (.Name y py)) l env = pure false := by
  have ky : env.kindOf y = some .cell := hy
  unfold swapsWith
  simp only [ky]
  rw [show (some NameKind.cell == some NameKind.local) = false from rfl, Bool.and_false, Bool.false_and, Bool.false_and]
def cAsg (r : Rec) (S : SEnv) (tg value : Expr) : Option SS := match tg, value with
  | .Name y py, .ListComp elt [⟨ctg, iter, ifs, 0⟩] scope pos => if lcSw S y py pos scope || cellK S y then match cTgN S y, cLc r S elt ctg iter ifs scope with | some t, some te => some (sAsg te t) | _, _ => none else none
  | .Name y _, value => if notComp value then match cTgN S y, r.e S value with | some t, some te => some (sAsg te t) | _, _ => none else none
  | .Tuple es k p, value => if notComp value && notTup value then match cTg S (.Tuple es k p), r.e S value with | some t, some te => some (sAsg te t) | _, _ => none else none
  | .Subscript o i _, value => if notComp value && notSlice i then match r.e S o, r.e S i, r.e S value with | some to, some ti, some tv => some (sSet to ti tv) | _, _, _ => none else none
  | _, _ => none
theorem cTgN_nm {x : Str} {t : Tg} (g : Good X G S) (h : cTgN S x = some t) : ∃ i, t = .nm i ∧ S.N[i]? = some x ∧ L2.Loc X.env.scope x ∧ (X.fn x = true ∨ X.env.scope.names.lookup x = some .local) ∧ NoX G [i] := by
  unfold cTgN at h
  by_cases hb : (locK S x && stoK S x) = true
  · rw [if_pos hb] at h
    rw [Bool.and_eq_true] at hb
    cases e : idx S x with
    | none => rw [e] at h; cases h
    | some i =>
      simp only [e] at h
      by_cases hx : noxB S [i] = true
      · rw [if_pos hx] at h; cases h
        exact ⟨i, rfl, idx_get e, g.loc hb.1, g.sto hb.2, g.nox hx⟩
      · rw [if_neg hx] at h; cases h
  · rw [if_neg hb] at h; cases h
theorem cAsg_ok {tg value : Expr} {pos : Pos} {t : SS} (ro : RecOk r) (g : Good X G S) (h : cAsg r S tg value = some t) : MS X G (.Assign [tg] value pos) t := by
  unfold cAsg at h
  split at h
  · rename_i y py elt ctg iter ifs scope vpos
    split at h
    · rename_i hb
      split at h
      · rename_i t1 te e1 e2
        cases h
        rw [Bool.or_eq_true] at hb
        rcases hb with hb | hb
        · unfold lcSw at hb
          simp only [Bool.and_eq_true, Bool.not_eq_true'] at hb
          obtain ⟨⟨b1, b2⟩, b3⟩ := hb
          obtain ⟨i, rfl, hi, hl, hs, hx⟩ := cTgN_nm g e1
          obtain ⟨ti, tt, te', tgt, rfl, L⟩ := cLc_parts ro g e2
          have hy : X.env.scope.names.lookup y = some .local := by
            rw [g.names]
            cases e : S.names.lookup y with
            | none => rw [e] at b1; cases b1
            | some k => rw [e] at b1; cases k <;> first | contradiction | rfl
          exact ms_setLc L.calm (by rw [g.N]; exact g.nd) (by rw [g.N]; exact hi) hy (sw_true g.kind hy b2 b3) L.hi L.ok L.hg L.ht L.he L.hs L.hsl L.hx hx
        · unfold cellK at hb
          obtain ⟨i, rfl, hi, hl, hs, hx⟩ := cTgN_nm g e1
          have hy : X.env.scope.names.lookup y = some .cell := by
            rw [g.names]
            cases e : S.names.lookup y with
            | none => rw [e] at hb; cases hb
            | some k => rw [e] at hb; cases k <;> first | contradiction | rfl
          exact ms_set (by rw [g.N]; exact g.nd) (by rw [g.N]; exact hi) hl (cLc_ok ro g e2) (sw_cell hy) hs hx
      · cases h
    · cases h
  · rename_i y py _
    split at h
    · rename_i hb
      split at h
      · rename_i t1 te e1 e2
        cases h
        obtain ⟨i, rfl, hi, hl, hs, hx⟩ := cTgN_nm g e1
        exact ms_set (by rw [g.N]; exact g.nd) (by rw [g.N]; exact hi) hl (ro.e g e2) (sw_plain hb) hs hx
      · cases h
    · cases h
  · split at h
    · rename_i hb
      rw [Bool.and_eq_true] at hb
      split at h
      · rename_i t1 te e1 e2
        cases h
        exact ms_asg (ro.e g e2) (cTg_ok g e1) (by unfold swapsWithSole; exact sw_plain hb.1) (stores_plain hb.2) rfl
      · cases h
    · cases h
  · rename_i o i p
    split at h
    · rename_i hb
      rw [Bool.and_eq_true] at hb
      split at h
      · rename_i to ti tv e1 e2 e3
        cases h
        refine ms_sub (ro.e g e3) (ro.e g e1) (ro.e g e2) (fun v => ?_) (by unfold swapsWithSole; exact sw_plain hb.1) ?_ rfl
        · have hi := hb.2
          cases i <;> first | rfl | contradiction
        · unfold swappedStores
          rfl
      · cases h
    · cases h
  · cases h
def cRaise (r : Rec) (S : SEnv) (c : Str) (args : List Expr) : Option SS := match args, S.Γ.lookup c with
  | a :: es, some (.exc fl k _) => if okNm c && glbK S c && !S.hot && decide (k + 1 ≤ S.lv) && decide ((a :: es).length = fl.length) then (cArgs r S (a :: es)).map (sRaise c fl) else none
  | [], some (.exc0 _) => if okNm c && glbK S c && !S.hot then some (sRaise c [] aNil) else none
  | _, _ => none
theorem cRaise_ok {c : Str} {args : List Expr} {p pos pos' : Pos} {t : SS} (ro : RecOk r) (g : Good X G S) (h : cRaise r S c args = some t) : MS X G (.Raise (some (.Call (.Name c p) args [] pos)) none pos') t := by
  unfold cRaise at h
  split at h
  · rename_i a es fl k tab e
    split at h
    · rename_i hb
      simp only [Bool.and_eq_true, Bool.not_eq_true', decide_eq_true_eq] at hb
      obtain ⟨⟨⟨⟨b1, b2⟩, b3⟩, b4⟩, b5⟩ := hb
      cases ea : cArgs r S (a :: es) with
      | none => rw [ea] at h; cases h
      | some tt =>
        rw [ea] at h; cases h
        obtain ⟨h1, h2⟩ := cArgs_ok ro g ea
        simp only [List.all_cons, Bool.and_eq_true] at h2
        obtain ⟨ek, _⟩ := g.g c _ e
        exact ms_raise g.P g.w g.K g.mg g.base ek (g.calm b3) ((g.room b3).mono b4) (g.gl b2) h1 b5 (okNm1 b1) (star_cons h2.1) (star_any h2.2)
    · cases h
  · rename_i tab e
    split at h
    · rename_i hb
      simp only [Bool.and_eq_true, Bool.not_eq_true'] at hb
      obtain ⟨⟨b1, b2⟩, b3⟩ := hb
      cases h
      obtain ⟨ek, _⟩ := g.g c _ e
      exact ms_raise0 g.K g.mg ek (g.calm b3) (g.gl b2) (okNm1 b1)
    · cases h
  · cases h
def suiteS (S : SEnv) (i : Nat) (x : Exn) : SEnv := { S with xi := some i, hot := true, top := false, xx := some x, Γ := S.Γ.filter fun p => match p.2 with | .fn _ _ _ => false | _ => true }
def suite0 (S : SEnv) : SEnv := { S with hot := true, top := false, xx := none, Γ := S.Γ.filter fun p => match p.2 with | .fn _ _ _ => false | _ => true }
def badS : SS := fun _ _ _ => False
theorem mss_bad {sts : List Stmt} : MSs X G sts badS := fun W tk => ⟨fun pins s σ H D I h => by obtain ⟨_, _, _, _, _, h, _⟩ := h; exact (h : False).elim⟩
theorem hot_of {a : Addr} {oe : Obj} {cls : Value} {d : Option Addr} {pn : List (Addr × Obj)} (hz : L2N.Zn cls d oe) (hv : ∃ vs, oe.data = .fields vs) : L2H.HotC (X.suite a ((a, oe) :: pn)) := by
  obtain ⟨vs, e⟩ := hv
  exact ⟨(a, oe), ⟨rfl, vs, e, hz.2.2 vs e⟩, List.mem_cons_self⟩
theorem lsp_in {x : Exn} {a : Addr} {cls : Value} {d : Option Addr} {i : Nat} {F : Fn} {n : Nat} {vs : List V} {H : Hp} {Q : VK} {E : XK} (h : LSp (G.inX x a cls d i) F n vs H Q E) : LSp G F n vs H Q E := by
  obtain ⟨al, M, ds, R, Ex, hl, m, r, hF, c, xc⟩ := h
  refine ⟨al, M, ds, R, Ex, hl, RMem.re (G := G.inX x a cls d i) (G0 := G) rfl rfl m, r, hF, fun H' al' M' v d' n1 r1 h1 => c _ _ _ _ _ (Nxt.re (G := G) (G0 := G.inX x a cls d i) rfl rfl n1) r1 h1, fun H' al' M' x' cls' dd n1 r1 h1 => xc _ _ _ _ _ _ (Nxt.re (G := G) (G0 := G.inX x a cls d i) rfl rfl n1) r1 h1⟩
theorem fnH_imp {P : Program} {w : World} {K : PySem.W.Frag} {mg : Str → Option Value} {base : Heap} {CX : CXT} {k : Nat} {f : Addr} {fd : FuncData} {ps : List Str} {sp sp' : Sp} (F : L2H.FnH P w K mg base CX k f fd ps sp)
    (h : ∀ vs H Q E, sp' vs H Q E → sp vs H Q E) : L2H.FnH P w K mg base CX k f fd ps sp' :=
  ⟨fun vs H Q E q => F.len vs H Q E (h _ _ _ _ q), fun A outer s H args us vs Q E p hr ho hp he hb hv hs => F.run A outer s H args us vs Q E p hr ho hp he hb hv (h _ _ _ _ hs)⟩
theorem suite_good (g : Good X G S) (hc : S.hot = false) {i : Nat} {a : Addr} {oe : Obj} {cls : Value} {d : Option Addr} {pn : List (Addr × Obj)} {x : Exn} (hz : L2N.Zn cls d oe) (hv : ∃ vs, oe.data = .fields vs) : Good (X.suite a ((a, oe) :: pn)) (G.inX x a cls d i) (suiteS S i x) where
  P := g.P
  w := g.w
  K := g.K
  mg := g.mg
  base := g.base
  kind := g.kind
  names := g.names
  N := g.N
  nd := g.nd
  calm := fun h => (by cases h)
  room := fun h => (by cases h)
  hotc := fun _ => hot_of hz hv
  roomH := fun _ => ⟨(g.room hc).dp, (g.room hc).un⟩
  un := g.un
  fn := g.fn
  xn := fun n e => (by cases e; rfl)
  all := fun y ge e => (by
    obtain ⟨h1, h2⟩ := List.mem_filter.mp e
    have ok := g.all y ge h1
    cases ge with
    | fn k np F => cases h2
    | fnH k np F =>
      obtain ⟨f, fd, ps, q1, q2, q3, q4, q5, q6⟩ := ok
      exact ⟨f, fd, ps, q1, q2, q3, FnOk.imp q4 fun vs H Q E h => lsp_in h, fnH_imp q5 fun vs H Q E h => lsp_in h, q6⟩
    | const d => exact ok
    | blt => exact ok
    | exc fl k tab => exact ok
    | exc0 tab => exact ok
    | cls tab => exact ok
    | clsB T tab => exact ok)
  cold := fun h => (by cases h)
  xx := fun y h => (by cases h; exact ⟨_, rfl, rfl, rfl⟩)
  su := fun n e => (by cases e; exact ⟨X, oe, pn, rfl, hz.zc, hv⟩)
  xf := g.xf
  st := fun h => (by cases h)
theorem suite0_good (g : Good X G S) (hc : S.hot = false) {a : Addr} {oe : Obj} {cls : Value} {d : Option Addr} {pn : List (Addr × Obj)} (hz : L2N.Zn cls d oe) (hv : ∃ vs, oe.data = .fields vs) : Good (X.suite a ((a, oe) :: pn)) G (suite0 S) where
  P := g.P
  w := g.w
  K := g.K
  mg := g.mg
  base := g.base
  kind := g.kind
  names := g.names
  N := g.N
  nd := g.nd
  calm := fun h => (by cases h)
  room := fun h => (by cases h)
  hotc := fun _ => hot_of hz hv
  roomH := fun _ => ⟨(g.room hc).dp, (g.room hc).un⟩
  un := g.un
  fn := g.fn
  xn := g.xn
  all := fun y ge e => g.all y ge (List.mem_filter.mp e).1
  cold := fun h => (by cases h)
  xx := fun y h => (by cases h)
  su := fun n e => (by rw [g.cold hc] at e; cases e)
  xf := g.xf
  st := fun h => (by cases h)
theorem tr_good (g : Good X G S) (pn : List (Addr × Obj)) (xe : Value → Shared → Prop) (hh : S.hot = false) : Good (X.tr pn xe) G S :=
  { g with su := fun n e => (by rw [g.cold hh] at e; cases e), hotc := fun h => (by rw [hh] at h; cases h) }
def locB (S : SEnv) (n : Str) : Bool := match S.names.lookup n with | some .local => true | _ => false
/-- the clauses of a try -/
def cHd (r : Rec) (S : SEnv) : ExceptHandler → Option Hdl
  | .ExceptHandler (some (.Name c _)) none (b0 :: su) _ => if okNm c && glbK S c then (tabOf S c).map fun tab => ⟨none, tab, fun _ => (cSs r (suite0 S) (b0 :: su)).getD badS⟩ else none
  | .ExceptHandler (some (.Name c _)) (some n) (b0 :: su) _ => if okNm c && glbK S c && locB S n then match tabOf S c, idx S n with
    | some tab, some i => some ⟨some i, tab, fun x => (cSs r (suiteS S i x) (b0 :: su)).getD badS⟩
    | _, _ => none else none
  | _ => none
def cHds (r : Rec) (S : SEnv) : List ExceptHandler → Option (List Hdl)
  | [] => some []
  | h :: hs => match cHd r S h, cHds r S hs with | some k, some l => some (k :: l) | _, _ => none
theorem cHds_ok (ro : RecOk r) (g : Good X G S) (hc : S.hot = false) : ∀ {hds : List ExceptHandler} {l : List Hdl}, cHds r S hds = some l → HdK X G hds l
  | [], l, h => by cases h; exact .nil
  | hd :: hds, l, h => by
    unfold cHds at h
    cases e1 : cHd r S hd with
    | none => simp [e1] at h
    | some k =>
      cases e2 : cHds r S hds with
      | none => simp [e1, e2] at h
      | some l2 =>
        simp only [e1, e2, Option.some.injEq] at h
        subst h
        have ih := cHds_ok ro g hc e2
        unfold cHd at e1
        split at e1
        · rename_i c np b0 su pos'
          split at e1
          · rename_i hb
            rw [Bool.and_eq_true] at hb
            cases et : tabOf S c with
            | none => rw [et] at e1; cases e1
            | some tab =>
              rw [et] at e1; cases e1
              obtain ⟨cw, cv, _, _, c3, c4⟩ := tabOf_ok (p := np) g hb.2 hb.1 et
              refine .plain rfl c4 c3 (fun x a oe cls d pn hz hv => ?_) ih
              show MSs _ _ _ ((cSs r (suite0 S) (b0 :: su)).getD badS)
              cases e : cSs r (suite0 S) (b0 :: su) with
              | none => exact mss_bad
              | some t' => exact cSs_ok ro (suite0_good g hc hz hv) PassesOwn.never e
          · cases e1
        · rename_i c np n b0 su pos'
          split at e1
          · rename_i hb
            rw [Bool.and_eq_true, Bool.and_eq_true] at hb
            obtain ⟨⟨b3, b4⟩, b5⟩ := hb
            split at e1
            · rename_i tab i et ei
              cases e1
              obtain ⟨cw, cv, _, _, c3, c4⟩ := tabOf_ok (p := np) g b4 b3 et
              refine .as rfl (by rw [g.N]; exact g.nd) (by rw [g.N]; exact idx_get ei) ?_ c4 c3 (fun x a oe cls d pn hz hv => ?_) ih
              · show X.env.scope.names.lookup n = some .local
                rw [g.names]
                unfold locB at b5
                cases e : S.names.lookup n with
                | none => rw [e] at b5; cases b5
                | some k => rw [e] at b5; cases k <;> first | contradiction | rfl
              · show MSs _ _ _ ((cSs r (suiteS S i x) (b0 :: su)).getD badS)
                cases e : cSs r (suiteS S i x) (b0 :: su) with
                | none => exact mss_bad
                | some t' => exact cSs_ok ro (suite_good g hc hz hv) PassesOwn.never e
            · cases e1
          · cases e1
        · cases e1
def cTry (r : Rec) (S : SEnv) (body : List Stmt) (hds : List ExceptHandler) : Option SS :=
  if S.top && !S.hot then match cSs r S body, cHds r S hds with
    | some tb, some l => some (sTryG l tb)
    | _, _ => none
  else none
theorem cTry_ok {body : List Stmt} {h0 : ExceptHandler} {hds : List ExceptHandler} {pos : Pos} {t : SS} (ro : RecOk r) (g : Good X G S) (h : cTry r S body (h0 :: hds) = some t) : MS X G (.Try body (h0 :: hds) [] [] pos) t := by
  unfold cTry at h
  split at h
  · rename_i hb
    simp only [Bool.and_eq_true, Bool.not_eq_true'] at hb
    obtain ⟨b1, b2⟩ := hb
    split at h
    · rename_i tb l e1 e2
      cases h
      obtain ⟨hs, hf⟩ := g.st b1
      exact ms_tryG (g.cold b2) g.K hs hf (fun pn xe hp => cSs_ok ro (tr_good g pn xe b2) hp e1) (cHds_ok ro g b2 e2)
    · cases h
  · cases h
def stepS (r : Rec) (S : SEnv) : Stmt → Option SS
  | .Expr e _ => if notComp e then (r.e S e).map sEx else none
  | .Return none _ => some sRetN
  | .Return (some e) _ => (r.e S e).map sRet
  | .If c a b _ => match r.c S c, cSs r S a, cSs r S b with | some tc, some ta, some tb => some (sIf tc ta tb) | _, _, _ => none
  | .Assign [tg] value _ => cAsg r S tg value
  | .For tg iter body [] _ => if notSet iter then match (if S.hot = true then cItH r S iter else cIt r S tg iter), cTg S tg, cSs r S body with | some ti, some g, some tb => some (sFor ti g tb) | _, _, _ => none else none
  | .While c body [] _ => match r.c S c, cSs r S body with | some tc, some tb => some (sWhile tc tb) | _, _ => none
  | .Pass _ => some sNop
  | .Break _ => some sBreak
  | .Continue _ => some sCont
  | .Raise (some (.Call (.Name c _) args [] _)) none _ => cRaise r S c args
  | .Try body (h0 :: hds) [] [] _ => cTry r S body (h0 :: hds)
  | _ => none
theorem stepS_ok {st : Stmt} {t : SS} (ro : RecOk r) (g : Good X G S) (hp : PassesOwn (model X.prog X.w) X.A X.env X.xe) (h : stepS r S st = some t) : MS X G st t := by
  unfold stepS at h
  split at h
  · rename_i e _
    split at h
    · rename_i hb
      cases e1 : r.e S e with
      | none => rw [e1] at h; cases h
      | some te => rw [e1] at h; cases h; exact ms_expr (ro.e g e1) (sw_plain hb)
    · cases h
  · cases h; exact ms_retN
  · rename_i e _
    cases e1 : r.e S e with
    | none => rw [e1] at h; cases h
    | some te => rw [e1] at h; cases h; exact ms_ret (ro.e g e1)
  · split at h
    · rename_i e1 e2 e3; cases h; exact ms_if (ro.c g e1) (cSs_ok ro g hp e2) (cSs_ok ro g hp e3)
    · cases h
  · exact cAsg_ok ro g h
  · split at h
    · rename_i hb
      split at h
      · rename_i e1 e2 e3
        cases h
        cases hh : S.hot with
        | true => rw [hh, if_pos rfl] at e1; exact ms_forH hp (g.hotc hh) (cItH_ok ro g e1) (cTg_ok g e2) (cSs_ok ro g hp e3) (fold_plain hb)
        | false => rw [hh, if_neg Bool.false_ne_true] at e1; exact ms_for hp (g.calm hh) (cIt_ok ro g e1) (cTg_ok g e2) (cSs_ok ro g hp e3) (fold_plain hb)
      · cases h
    · cases h
  · split at h
    · rename_i e1 e2; cases h; exact ms_while hp (ro.c g e1) (cSs_ok ro g hp e2)
    · cases h
  · cases h; exact ms_pass
  · cases h; exact ms_break
  · cases h; exact ms_cont
  · exact cRaise_ok ro g h
  · exact cTry_ok ro g h
  · cases h
end
def recN : Nat → Rec
  | 0 => ⟨fun _ _ => none, fun _ _ => none, fun _ _ => none⟩
  | n + 1 => ⟨stepE (recN n), stepC (recN n), stepS (recN n)⟩
theorem recN_ok : ∀ n, RecOk (recN n)
  | 0 => { e := fun _ h => (by cases h), c := fun _ h => (by cases h), s := fun _ _ h => (by cases h) }
  | n + 1 => ⟨fun g h => stepE_ok (recN_ok n) g h, fun g h => stepC_ok (recN_ok n) g h, fun g hp h => stepS_ok (recN_ok n) g hp h⟩
theorem room_un {k : Nat} {A : Around} (r : Room k A) : A.units + 65 < cLine := by have := r.un; omega
/-! ### defs -/
def senv (Γ : List (Str × GE)) (lv : Nat) (N : List Str) (sc : Scope) (flds : List Str) : SEnv := { names := sc.names, N := N, fnall := true, fnl := [], lv := lv, Γ := Γ, xi := none, top := true, flds := flds }
/-- the reading of a def: its names N (the parameters first), the level of the defs that it calls -/
def cDef (Γ : List (Str × GE)) (lv : Nat) (N : List Str) (st : Stmt) (flds : List Str := []) : Option SS := cSs (recN 40) (senv Γ lv N (defScope st) flds) (defBody st)
theorem cDef_ok {G : GC} {Γ : List (Str × GE)} {flds : List Str} {lv : Nat} {x qual : Str} {st : Stmt} {f : Addr} {fd : FuncData} {N ps : List Str} {t : SS} (hx : G.xn = none) (hxf : ∀ n C, G.cm n = some C → XfK G.K C flds) (hΓ : GAll G Γ) (F : Fun G.K x qual st f fd) (Sc : FnScope N ps (defScope st)) (h : cDef Γ lv N st flds = some t) :
    FnOk G.P G.w G.K G.mg G.base (CX G.P G.w) (lv + 1) f fd ps (LSp G (bodyF N.length t) ps.length) := by
  refine fn_body hx F Sc fun cdv A outer s H E hr => ?_
  refine cSs_ok (recN_ok 40) (S := senv Γ lv N (defScope st) flds) ?_ (passes_of rfl) h
  exact { P := rfl, w := rfl, K := rfl, mg := rfl, base := rfl, kind := Sc.kind, names := rfl, N := rfl, nd := Sc.nd, calm := fun _ => rfl, room := fun _ => hr, hotc := fun h => (by cases h), roomH := fun h => (by cases h), un := room_un hr, fn := fun _ _ => rfl, xn := fun n e => (by rw [hx] at e; cases e), all := hΓ, cold := fun _ => hx, xx := fun x e => (by cases e), su := fun n e => (by rw [hx] at e; cases e), xf := hxf, st := fun _ => ⟨rfl, rfl⟩ }
/-- the same reading, of a def that is called where an exception is handled -/
def cDefH (Γ : List (Str × GE)) (lv : Nat) (N : List Str) (st : Stmt) (flds : List Str := []) : Option SS := cSs (recN 40) { senv Γ lv N (defScope st) flds with hot := true, top := false } (defBody st)
theorem roomH_un {k : Nat} {A : Around} (r : L2H.RoomH k A) : A.units + 65 < cLine := by have := r.un; omega
theorem cDefH_ok {G : GC} {Γ : List (Str × GE)} {flds : List Str} {lv : Nat} {x qual : Str} {st : Stmt} {f : Addr} {fd : FuncData} {N ps : List Str} {t : SS} (hx : G.xn = none) (hxf : ∀ n C, G.cm n = some C → XfK G.K C flds) (hΓ : GAll G Γ) (F : Fun G.K x qual st f fd) (Sc : FnScope N ps (defScope st)) (h : cDefH Γ lv N st flds = some t) :
    L2H.FnH G.P G.w G.K G.mg G.base (CX G.P G.w) (lv + 1) f fd ps (LSp G (bodyF N.length t) ps.length) := by
  refine fn_bodyH hx F Sc fun cdv A outer s H E p hot hr => ?_
  refine cSs_ok (recN_ok 40) (S := { senv Γ lv N (defScope st) flds with hot := true, top := false }) ?_ (passes_of rfl) h
  exact { P := rfl, w := rfl, K := rfl, mg := rfl, base := rfl, kind := Sc.kind, names := rfl, N := rfl, nd := Sc.nd, calm := fun h => (by cases h), room := fun h => (by cases h), hotc := fun _ => ⟨p, hot, List.mem_cons_self⟩, roomH := fun _ => hr, un := roomH_un hr, fn := fun _ _ => rfl, xn := fun n e => (by rw [hx] at e; cases e), all := hΓ, cold := fun h => (by cases h), xx := fun x e => (by cases e), su := fun n e => (by rw [hx] at e; cases e), xf := hxf, st := fun h => (by cases h) }
end DN

set_option maxHeartbeats 4000000
/-! the ends: the law's promise over the script -/
namespace DN
open PySem PySem.Spec L2
theorem gok_nil {G : GC} : GAll G [] := fun x ge h => by cases h
theorem gok_cons {G : GC} {x : Str} {ge : GE} {Γ : List (Str × GE)} (h : GEok G x ge) (t : GAll G Γ) : GAll G ((x, ge) :: Γ) := fun y ge' e => by
  rcases List.mem_cons.mp e with e | e
  · cases e; exact h
  · exact t y ge' e
theorem fn_bot {G : GC} {k n : Nat} {f : Addr} {fd : FuncData} {ps : List Str} : FnOk G.P G.w G.K G.mg G.base (CX G.P G.w) k f fd ps (LSp G (fun _ _ _ _ => False) n) :=
  ⟨fun vs H Q E h => by obtain ⟨_, _, _, _, _, _, _, _, h, _⟩ := h; exact h.elim, fun _ _ _ _ _ _ _ _ _ _ _ _ _ h => by obtain ⟨_, _, _, _, _, _, _, _, h, _⟩ := h; exact h.elim⟩
theorem fnH_bot {G : GC} {k n : Nat} {f : Addr} {fd : FuncData} {ps : List Str} : L2H.FnH G.P G.w G.K G.mg G.base (CX G.P G.w) k f fd ps (LSp G (fun _ _ _ _ => False) n) :=
  ⟨fun vs H Q E h => by obtain ⟨_, _, _, _, _, _, _, _, h, _⟩ := h; exact h.elim, fun _ _ _ _ _ _ _ _ _ _ _ _ _ _ _ _ h => by obtain ⟨_, _, _, _, _, _, _, _, h, _⟩ := h; exact h.elim⟩
section
variable {G G0 : GC}
theorem lsp_re (hK : G.K = G0.K) (hc : G.cm = G0.cm) {F : Fn} {n : Nat} {vs : List V} {H : Hp} {Q : VK} {E : XK} (h : LSp G0 F n vs H Q E) : LSp G F n vs H Q E := by
  obtain ⟨al, M, ds, R, Ex, hl, m, r, hF, c, xc⟩ := h
  refine ⟨al, M, ds, R, Ex, hl, RMem.re (G := G0) (G0 := G) hK.symm hc.symm m, by rw [hK]; exact r, hF, fun H' al' M' v d n1 r1 h1 => c _ _ _ _ _ (Nxt.re (G := G) (G0 := G0) hK hc n1) (by rw [← hK]; exact r1) h1, fun H' al' M' x cls dd n1 r1 h1 => xc _ _ _ _ _ _ (Nxt.re (G := G) (G0 := G0) hK hc n1) (by rw [← hK, ← hc]; exact r1) h1⟩
end
theorem rmem_nil {G : GC} {H : Hp} : RMem G H [] [] := ⟨by simp, rfl, fun n o e => by simp at e⟩
theorem rints {K : PySem.W.Frag} {H : Hp} {al : List Addr} : ∀ ns : List Int, RDats K H al (ns.map D.int) (ns.map V.int)
  | [] => RDats.nil
  | n :: ns => RDats.cons (by rw [RDat]) (rints ns)
/-- the law's promise -/
abbrev lawG (P : Program) (w : World) (K : PySem.W.Frag) (cm : Str → Option Addr) : GC := ⟨P, w, K, fun _ => none, ({} : Heap), cm, none⟩
theorem sp_law {G : GC} {F : Fn} {n : Nat} (hF : ∀ ns : List Int, ns.length ≤ n → F [.con (ns.map D.int)] [] (fun d _ => d = .bl true) fun _ _ => False) {H : Hp} {a : Addr} {ns : List Int} (hl : ns.length ≤ n) (o : L2.Only H) (s : SqL G.K H a (ns.map V.int)) :
    LSp G F 1 [.ref a] H (fun v _ => v = .bl true) fun _ _ _ => False := by
  refine ⟨[], [], [.con (ns.map D.int)], fun d _ => d = .bl true, fun _ _ => False, rfl, rmem_nil, ?_, hF ns hl, fun H' al' M' v d n r e => ?_, fun _ _ _ _ _ _ _ _ h => h⟩
  · exact RDats.cons (by rw [RDat]; exact ⟨a, _, rfl, SqF.of o s, rints ns⟩) RDats.nil
  · subst e
    rw [RDat] at r
    exact r
theorem cx_end {P : Program} {w : World} {H : Hp} {s : Shared} {e : Value} {s' : Shared} (h : CX P w [] H s (fun _ _ _ => False) e s') : False := by
  obtain ⟨_, _, _, _, _, _, _, _, _, _, _, _, h⟩ := h
  exact h
/-- the script, for walk_of -/
def spS (K : PySem.W.Frag) (n : Nat) : Sp := fun vs H Q _ => ∃ (a : Addr) (ns : List Int), vs = [.ref a] ∧ ns.length ≤ n ∧ SqL K H a (ns.map V.int) ∧ L2.Only H ∧ ∀ H', Q (.bl true) H'
theorem lsp_script {G : GC} {F : Fn} {n : Nat} (hF : ∀ ns : List Int, ns.length ≤ n → F [.con (ns.map D.int)] [] (fun d _ => d = .bl true) fun _ _ => False) {vs : List V} {H : Hp} {Q : VK} {E : XK} (h : spS G.K n vs H Q E) : LSp G F 1 vs H Q E := by
  obtain ⟨a, ns, rfl, hl, s, o, hq⟩ := h
  refine ⟨[], [], [.con (ns.map D.int)], fun d _ => d = .bl true, fun _ _ => False, rfl, rmem_nil, ?_, hF ns hl, fun H' al' M' v d n r e => ?_, fun _ _ _ _ _ _ _ _ h => h.elim⟩
  · exact RDats.cons (by rw [RDat]; exact ⟨a, _, rfl, SqF.of o s, rints ns⟩) RDats.nil
  · subst e
    rw [RDat] at r
    subst r
    exact hq _
theorem const_str {G : GC} {x y : Str} {t : Tok} (h : G.mg x = some (.str y t)) : GEok G x (.const (.str y)) := ⟨_, .str y, h, ⟨t, rfl⟩, fun H al => by rw [RDat]⟩
theorem const_int {G : GC} {x : Str} {i : Int} {t : Tok} (h : G.mg x = some (.int i t)) : GEok G x (.const (.int i)) := ⟨_, .int i, h, ⟨t, rfl⟩, fun H al => by rw [RDat]⟩
end DN

set_option maxHeartbeats 4000000
/-! the facts of own exception classes, by one look at the written part -/
namespace DN
open PySem PySem.Spec L2 NdefX
def isAt (K : PySem.W.Frag) (v : Value) (n : Str) (r : Option (Option Value)) : Bool := decide (PySem.W.findIn K v n = r)
def codeB (K : PySem.W.Frag) (P : Program) (c : Addr) : Bool := match K.lookup c with
  | some ⟨_, _, .fields vs, _⟩ => (match (vs[2]? : Option Value) with | some (Value.str file _) => (P.main.file : Str) == file | _ => false)
  | _ => false
def cellB (K : PySem.W.Frag) (cc C : Addr) : Bool := match K.lookup cc with
  | some ⟨_, _, .cell (some (.ref D)), _⟩ => D == C
  | _ => false
/-- what reading its fields and asking for its class needs -/
def xfkB (K : PySem.W.Frag) (C : Addr) (flds : List Str) : Bool :=
  xfB K C && (PySem.W.clsIn K C).isSome && isAt K (.ref C) "__class__" (some (some (.builtin "object.__class__"))) && decide (PySem.W.specialIn K (.builtin "object.__class__") "__get__" = some (some (.builtin "getset_descriptor.__get__"))) &&
    decide (PySem.W.takesIn K (.builtin "object.__class__") = some true) && decide (PySem.W.mroIn K C (.type "object") = some true) && flds.all fun f => isAt K (.ref C) f (some none)
theorem xfkB_ok {K : PySem.W.Frag} {C : Addr} {flds : List Str} (h : xfkB K C flds = true) : XfK K C flds := by
  unfold xfkB isAt at h
  simp only [Bool.and_eq_true, decide_eq_true_eq, List.all_eq_true] at h
  obtain ⟨⟨⟨⟨⟨⟨h1, h2⟩, h3⟩, h4⟩, h5⟩, h6⟩, h7⟩ := h
  exact ⟨xfB_ok h1, h2, h3, h4, h5, h6, h7⟩
def excB (K : PySem.W.Frag) (P : Program) (C fI cc c : Addr) (qual : Str) (fl : List Str) : Bool :=
  isAt K (.ref C) "__setattr__" (some (some (.builtin "object.__setattr__"))) && decide (PySem.W.subIn K (.ref C) (.type "BaseException") = some true) && decide (PySem.W.typeIn K (.ref C) = some (.type "type")) && PySem.W.keepIn K (.ref C) &&
    isAt K (.ref C) "__init__" (some (some (.ref fI))) && decide (PySem.W.typeIn K (.ref fI) = some (.type "function")) && PySem.W.codeIn K (.ref c) qual && codeB K P c && cellB K cc C && decide (PySem.W.mroIn K C (.ref C) = some true) &&
    decide (PySem.W.ks_superIn K C C "__init__" = some (some (.builtin "ValueError.__init__"))) && decide (PySem.W.subIn K (.ref C) (.type "ValueError") = some true) && decide (PySem.W.nsIn K cStatics "thirdparty.any" = some none) && fl.all fun f => isAt K (.ref C) f (some none)
/-- the __init__ of a class statement -/
def initS (st : Stmt) : Stmt := match st with
  | .ClassDef _ _ _ b _ _ _ _ _ _ _ => (b.find? fun s => match s with | .FunctionDef n _ _ _ _ _ _ _ _ _ => n == ("__init__" : Str) | _ => false).getD (.Pass ⟨0, 0, 0, 0⟩)
  | s => s
def initF (st : Stmt) (qual : Str) (cc c : Addr) : NF := ⟨"__init__", qual, defArgs (initS st), defBody (initS st), defScope (initS st), [(("__class__" : Str), cc)], c⟩
/-- what the text of an __init__ must be: computed once for each class -/
structure InitT (st : Stmt) (sf : Str) (fl : List Str) : Prop where
  sc : nscB (sf :: (fl ++ [("__class__" : Str)])) (sf :: fl) [("__class__" : Str)] (defScope (initS st)) = true
  ks : (defScope (initS st)).names.lookup ("super" : Str) = some .globalImplicit
  kc : (defScope (initS st)).names.lookup ("__class__" : Str) = some .free
  ka : (defScope (initS st)).names.lookup sf = some .local
  ar : ((defArgs (initS st)).posonlyargs ++ (defArgs (initS st)).args).head?.map (·.arg) = some sf
  d1 : (sf == ("__debug__" : Str)) = false
  d2 : (sf == ("__classdict__" : Str)) = false
  df : fl.all (fun f => !(f == ("__debug__" : Str)) && !(f == ("__classdict__" : Str))) = true
  nd : fl.Nodup
  ne : fl ≠ []
  len : fl.length ≤ 900
  body : ∃ (sts : List Stmt) (p0 p1 p2 p3 p4 p5 : Pos) (kk : Nat) (txt : Str) (pl : Sem Bool), Stores sf sts fl ∧ defBody (initS st) = sts ++ [.Expr (superE p0 p1 p2 p3 p4 kk txt) p5] ∧
    ∀ (qual : Str) (cc c f : Addr) (L : Addr), eval (superE p0 p1 p2 p3 p4 kk txt) (envF (initF st qual cc c) f L) = (do
      let ov ← attributeBase (.Call (.Name "super" p0) [] [] p1) "__init__" (envF (initF st qual cc c) f L) (eval (.Call (.Name "super" p0) [] [] p1) (envF (initF st qual cc c) f L))
      standAt p2.atName
      let (fx, first) ← holding [ov] (getMethod ov "__init__" pl)
      callWith p4 fx first (backTo p4 (starEach [.Constant (.str txt) kk p3] (envF (initF st qual cc c) f L))) [])
  bd : ∀ (qual : Str) (doc pm ctv : Value) (cc c : Addr) (us : List Value), us.length = (sf :: fl).length → bindArgs ((initF st qual cc c).fd doc pm ctv) ⟨us, []⟩ = pure ((sf :: fl).zip us)
theorem exc_mk {G : GC} {x qual sf : Str} {st : Stmt} {fl : List Str} {C fI cc c : Addr} (T : InitT st sf fl) {nm q : Str} {N : Addr} {bs bm : List Value} {sn : List Str} {sub : List Value} {ab : Bool} {col : Option Bool} {dd : Option Addr} {k0 k1 k2 k3 k5 : Option Value} {oc : Value} {od : Option Addr} {doc pm ctv : Value} {osl : Array (Option Value)}
    (hm : G.mg x = some (.ref C)) (hcm : G.cm x = some C) (lC : G.K.lookup C = some (excClassObj nm q C N bs bm true sn sub ab col dd k0 k1 k2 k3 k5 "ValueError.__new__")) (hbm : PySem.HandSPX.refsVE bm = true)
    (lf : G.K.lookup fI = some ⟨oc, od, .func ((initF st qual cc c).fd doc pm ctv), osl⟩) (b : excB G.K G.P C fI cc c qual fl = true) (hs : G.mg "super" = none) (htop : (G.P.main.scope.names.lookup ("super" : Str)).isSome = false) : ExcK G x fl 1 := by
  unfold excB isAt at b
  simp only [Bool.and_eq_true, decide_eq_true_eq, List.all_eq_true] at b
  obtain ⟨⟨⟨⟨⟨⟨⟨⟨⟨⟨⟨⟨⟨b1, b2⟩, b3⟩, b4⟩, b5⟩, b6⟩, b7⟩, b8⟩, b9⟩, b10⟩, b11⟩, b12⟩, b13⟩, b14⟩ := b
  have ox : OexC G.K C := ⟨⟨nm, q, N, bs, bm, sn, sub, ab, col, dd, k0, k1, k2, k3, k5, lC, hbm⟩, b1, b2, b3, b4⟩
  obtain ⟨sts, p0, p1, p2, p3, p4, p5, kk, txt, pl, t1, t2, t3⟩ := T.body
  have tdf : ∀ f ∈ fl, (f == ("__debug__" : Str)) = false ∧ (f == ("__classdict__" : Str)) = false := fun f hf => by
    have := List.all_eq_true.mp T.df f hf
    simpa using this
  have ic : InitC G.P G.K G.mg (initF st qual cc c) fI C cc sf := by
    refine ⟨ox, rfl, ?_, ?_, ?_, b10, b11, b12, b13, hs, htop, T.ks, T.kc, T.ka⟩
    · have ar := T.ar
      cases e : ((defArgs (initS st)).posonlyargs ++ (defArgs (initS st)).args).head? with
      | none => rw [e] at ar; cases ar
      | some a => rw [e] at ar; exact ⟨oc, od, osl, _, a, lf, e, by simpa using ar⟩
    · unfold codeB at b8
      split at b8
      · rename_i o1 o2 vs o3 e
        split at b8
        · rename_i file tf e2
          exact ⟨o1, o2, vs, o3, file, tf, e, e2, b8⟩
        · cases b8
      · cases b8
    · unfold cellB at b9
      split at b9
      · rename_i o1 o2 D o3 e
        have := beq_iff_eq.mp b9
        subst this
        exact ⟨o1, o2, o3, e⟩
      · cases b9
  refine ⟨C, fI, _, sf, hm, hcm, ox, b5, b6, fn_init (k := 0) (N := sf :: (fl ++ [("__class__" : Str)])) ic lf b7 (nscope_by T.sc) t1 T.ne t2 (fun f hf => ⟨b14 f hf, (tdf f hf).1, (tdf f hf).2⟩) T.len T.d1 T.d2 (t3 qual cc c fI), .all (T.bd qual doc pm ctv cc c), T.nd, T.len⟩
/-- the classes of a law: their names and where they lie -/
def cmOf (l : List (Str × Addr)) : Str → Option Addr := fun n => l.lookup n
def tabB (K : PySem.W.Frag) (l : List (Str × Addr)) (cv : Value) (tab : List (Str × Bool)) : Bool := tab.all fun p => match l.lookup p.1 with
  | some Cn => decide (PySem.W.exmOne K (.ref Cn) cv = some p.2) && decide (PySem.W.kitOne K (.ref Cn) cv = some p.2)
  | none => false
theorem tab_mk {G : GC} {l : List (Str × Addr)} {cv : Value} {tab : List (Str × Bool)} (hl : G.cm = cmOf l) (h : tabB G.K l cv tab = true) : ClsK G cv tab := fun n b e => by
  have mem : (n, b) ∈ tab := by
    clear h
    induction tab with
    | nil => simp at e
    | cons p r ih =>
      obtain ⟨y, v⟩ := p
      rw [List.lookup_cons] at e
      split at e
      · rename_i h1
        cases e
        rw [beq_iff_eq.mp h1]; simp
      · exact List.mem_cons_of_mem _ (ih e)
  have q := List.all_eq_true.mp h _ mem
  simp only at q
  split at q
  · rename_i Cn e2
    rw [Bool.and_eq_true, decide_eq_true_eq, decide_eq_true_eq] at q
    exact ⟨Cn, by rw [hl]; exact e2, q.1, q.2⟩
  · cases q
theorem xf_mk {G : GC} {l : List (Str × Addr)} {flds : List Str} (hl : G.cm = cmOf l) (h : (l.all fun p => xfkB G.K p.2 flds) = true) : ∀ n C, G.cm n = some C → XfK G.K C flds := fun n C e => by
  rw [hl] at e
  replace e : l.lookup n = some C := e
  have mem : (n, C) ∈ l := by
    clear h hl
    induction l with
    | nil => simp at e
    | cons p r ih =>
      obtain ⟨y, v⟩ := p
      rw [List.lookup_cons] at e
      split at e
      · rename_i h1
        cases e
        rw [beq_iff_eq.mp h1]; simp
      · exact List.mem_cons_of_mem _ (ih e)
  exact xfkB_ok (List.all_eq_true.mp h _ mem)
theorem xf_none {G : GC} {flds : List Str} (hl : G.cm = fun _ => none) : ∀ n C, G.cm n = some C → XfK G.K C flds := fun n C e => by rw [hl] at e; cases e
end DN

set_option maxHeartbeats 4000000
/-! laws over readings: frames of the memory, loops, comprehensions, equality -/
namespace DN
open PySem PySem.Spec L2
/-- nothing but the cells S has changed, something may have come behind -/
structure Fr (S : List Nat) (M M' : Mem) : Prop where
  le : M.length ≤ M'.length
  eq : ∀ i, i < M.length → i ∉ S → M'[i]? = M[i]?
section
variable {S T : List Nat} {M M1 M2 M' : Mem} {n k : Nat} {xs ys : List D} {o : O}
theorem Fr.refl : Fr S M M := ⟨Nat.le_refl _, fun _ _ _ => rfl⟩
theorem Fr.trans (a : Fr S M M1) (b : Fr T M1 M2) (h : ∀ i ∈ T, i < M.length → i ∈ S) : Fr S M M2 :=
  ⟨Nat.le_trans a.le b.le, fun i hi hs => (b.eq i (Nat.lt_of_lt_of_le hi a.le) fun z => hs (h i z hi)).trans (a.eq i hi hs)⟩
theorem Fr.tr (a : Fr S M M1) (b : Fr S M1 M2) : Fr S M M2 := a.trans b fun _ h _ => h
theorem Fr.tr0 (a : Fr S M M1) (b : Fr [] M1 M2) : Fr S M M2 := a.trans b fun _ h => by cases h
theorem Fr.app {L : Mem} : Fr S M (M ++ L) := ⟨by simp, fun i hi _ => List.getElem?_append_left hi⟩
theorem Fr.set (a : Fr S M M1) (h : n ∈ S ∨ M.length ≤ n) : Fr S M (M1.set n o) :=
  ⟨by simpa using a.le, fun i hi hs => by
    rw [List.getElem?_set_ne]
    · exact a.eq i hi hs
    · intro e; subst e; rcases h with h | h
      · exact hs h
      · omega⟩
theorem Fr.mono (a : Fr S M M') (h : ∀ i ∈ S, i < M.length → i ∈ T) : Fr T M M' := ⟨a.le, fun i hi hs => a.eq i hi fun z => hs (h i z hi)⟩
theorem Fr.new (a : Fr [n] M M') (h : M.length ≤ n) : Fr [] M M' := a.mono fun i hi hl => by simp at hi; omega
theorem Fr.up (a : Fr [] M M') : Fr S M M' := a.mono fun _ h => by cases h
theorem mlst_lt (h : mlst M n = some xs) : n < M.length := (List.getElem?_eq_some_iff.mp (mlst_lst h)).1
theorem mlst_of (h : M[n]? = some (.lst xs)) : mlst M n = some xs := by unfold mlst; rw [h]
theorem Fr.lst (a : Fr S M M') (h : mlst M n = some xs) (hn : n ∉ S := by simp) : mlst M' n = some xs :=
  mlst_of (by rw [a.eq n (mlst_lt h) hn]; exact mlst_lst h)
theorem mlst_set (h : n < M.length) : mlst (M.set n (.lst xs)) n = some xs := mlst_of (by rw [List.getElem?_set_self h])
theorem mlst_setne (h : mlst M n = some xs) (hn : k ≠ n) : mlst (M.set k o) n = some xs := mlst_of (by rw [List.getElem?_set_ne hn]; exact mlst_lst h)
theorem mlst_new : mlst (M ++ [.lst xs]) M.length = some xs := mlst_of (by rw [List.getElem?_append_right (Nat.le_refl _), Nat.sub_self]; rfl)
theorem lstAt_of (h : mlst M n = some xs) : lstAt M n = some xs := by unfold lstAt; rw [mlst_lst h]
end
/-! ### loops -/
section
variable {ok : Mem → Prop} {tg : Tg} {b : SS} {De : SD}
theorem forL_map {α : Type} (enc : α → D) (I : List α → Env → Mem → Prop) (hok : ∀ r ρ M, I r ρ M → ok M)
    (h1 : ∀ x r ρ M (Kn : Env → Mem → Prop), I (x :: r) ρ M → (∀ ρ M, I r ρ M → Kn ρ M) → ∃ ρ1, asgD tg (enc x) ρ = some ρ1 ∧ b (De.lp Kn) ρ1 M)
    (h0 : ∀ ρ M, I [] ρ M → De.nx ρ M) : ∀ (xs : List α) (ρ : Env) (M : Mem), I xs ρ M → forL ok tg b De (xs.map enc) ρ M
  | [], ρ, M, h => ⟨hok _ _ _ h, h0 ρ M h⟩
  | x :: r, ρ, M, h => by
    obtain ⟨ρ1, e, q⟩ := h1 x r ρ M (forL ok tg b De (r.map enc)) h (forL_map enc I hok h1 h0 r)
    rw [List.map_cons]
    refine ⟨hok _ _ _ h, ?_⟩
    rw [e]
    exact q
theorem forL_ix (I : Nat → Env → Mem → Prop) (ds : List D) (hok : ∀ i ρ M, I i ρ M → ok M)
    (h1 : ∀ i d ρ M (Kn : Env → Mem → Prop), ds[i]? = some d → I i ρ M → (∀ ρ M, I (i + 1) ρ M → Kn ρ M) → ∃ ρ1, asgD tg d ρ = some ρ1 ∧ b (De.lp Kn) ρ1 M)
    (h0 : ∀ ρ M, I ds.length ρ M → De.nx ρ M) (ρ : Env) (M : Mem) (h : I 0 ρ M) : forL ok tg b De ds ρ M := by
  have key : ∀ (r : List D) (i : Nat) (ρ : Env) (M : Mem), (∀ j, r[j]? = ds[i + j]?) → i + r.length = ds.length → I i ρ M → forL ok tg b De r ρ M := by
    intro r
    induction r with
    | nil => intro i ρ M _ hl h; exact ⟨hok _ _ _ h, h0 ρ M (by rw [← hl]; exact h)⟩
    | cons x r ih =>
      intro i ρ M hr hl h
      obtain ⟨ρ1, e, q⟩ := h1 i x ρ M (forL ok tg b De r) (by have := hr 0; simpa using this.symm) h (fun ρ M h => ih (i + 1) ρ M (fun j => by have := hr (j + 1); rw [show i + 1 + j = i + (j + 1) by omega, ← this]; simp) (by rw [← hl, List.length_cons]; omega) h)
      refine ⟨hok _ _ _ h, ?_⟩
      rw [e]
      exact q
  exact key ds 0 ρ M (fun j => by simp) (by simp) h
end
theorem rngD_len {lo : Int} {n : Nat} : (rngD lo n).length = n := by simp [rngD]
theorem enumD_len : ∀ {xs : List D} {k : Int}, (enumD k xs).length = xs.length
  | [], _ => rfl
  | x :: r, k => by simp [enumD, enumD_len (xs := r)]
/-! ### comprehensions -/
section
variable {ok : Mem → Prop} {tg : Tg} {tt : SC} {te : SE} {n : Nat} {ρ : Env} {Kn : Mem → Prop}
theorem lcL_inv (I : Nat → Mem → Prop) (ds : List D) (hok : ∀ i M, I i M → ok M)
    (h1 : ∀ i d M (Kc : Mem → Prop), ds[i]? = some d → I i M → (∀ M, I (i + 1) M → Kc M) → ∃ ρ1, asgD tg d ρ = some ρ1 ∧ tt noX ρ1 M fun b M2 => match b with
      | true => te noX ρ1 M2 fun y M3 => match mlst M3 n with
        | some acc => acc.length < sizeLine ∧ Kc (M3.set n (.lst (acc ++ [y])))
        | none => False
      | false => Kc M2)
    (h0 : ∀ M, I ds.length M → Kn M) (M : Mem) (h : I 0 M) : lcL ok tg tt te n ρ ds M Kn := by
  have key : ∀ (r : List D) (i : Nat) (M : Mem), (∀ j, r[j]? = ds[i + j]?) → i + r.length = ds.length → I i M → lcL ok tg tt te n ρ r M Kn := by
    intro r
    induction r with
    | nil => intro i M _ hl h; exact ⟨hok _ _ h, h0 M (by rw [← hl]; exact h)⟩
    | cons x r ih =>
      intro i M hr hl h
      obtain ⟨ρ1, e, q⟩ := h1 i x M (fun M => lcL ok tg tt te n ρ r M Kn) (by have := hr 0; simpa using this.symm) h (fun M h => ih (i + 1) M (fun j => by have := hr (j + 1); rw [show i + 1 + j = i + (j + 1) by omega, ← this]; simp) (by rw [← hl, List.length_cons]; omega) h)
      refine ⟨hok _ _ h, ?_⟩
      rw [e]
      exact q
  exact key ds 0 M (fun j => by simp) (by simp) h
/-- a comprehension that changes nothing -/
theorem lcL_pure {α : Type} (enc : α → D) (p : α → Bool) (g : α → D) {M0 : Mem} (hn : n < M0.length) (xs : List α) (hok : ∀ M, Fr [n] M0 M → ok M)
    (h : ∀ x M (Kt : KD) (Kf : Mem → Prop), x ∈ xs → Fr [n] M0 M → (p x = true → ∀ M3, Fr [] M M3 → Kt (g x) M3) → (p x = false → ∀ M2, Fr [] M M2 → Kf M2) →
      ∃ ρ1, asgD tg (enc x) ρ = some ρ1 ∧ tt noX ρ1 M fun b M2 => match b with | true => te noX ρ1 M2 Kt | false => Kf M2)
    {acc : List D} (ha : mlst M0 n = some acc) (hl : acc.length + xs.length ≤ sizeLine) (hK : ∀ M', Fr [n] M0 M' → mlst M' n = some (acc ++ (xs.filter p).map g) → Kn M') : lcL ok tg tt te n ρ (xs.map enc) M0 Kn := by
  have key : ∀ (r : List α) (acc : List D) (M : Mem), (∀ x ∈ r, x ∈ xs) → Fr [n] M0 M → mlst M n = some acc → acc.length + r.length ≤ sizeLine → (∀ M', Fr [n] M0 M' → mlst M' n = some (acc ++ (r.filter p).map g) → Kn M') → lcL ok tg tt te n ρ (r.map enc) M Kn := by
    intro r
    induction r with
    | nil => intro acc M _ fr hm _ k; exact ⟨hok M fr, k M fr (by simpa using hm)⟩
    | cons x r ih =>
      intro acc M hs fr hm hl k
      rw [List.length_cons] at hl
      obtain ⟨ρ1, e, q⟩ := h x M (fun y M3 => match mlst M3 n with
        | some acc => acc.length < sizeLine ∧ lcL ok tg tt te n ρ (r.map enc) (M3.set n (.lst (acc ++ [y]))) Kn
        | none => False) (fun M2 => lcL ok tg tt te n ρ (r.map enc) M2 Kn) (hs x (by simp)) fr
        (fun hp M3 f3 => by
          have m3 := f3.lst hm
          simp only [m3]
          refine ⟨by omega, ih (acc ++ [g x]) _ (fun y hy => hs y (by simp [hy])) ((fr.tr0 f3).set (.inl (by simp))) (mlst_set (mlst_lt m3)) (by simp; omega) fun M' f' m' => k M' f' ?_⟩
          rw [m']; simp [List.filter_cons, hp])
        (fun hp M2 f2 => ih acc M2 (fun y hy => hs y (by simp [hy])) (fr.tr0 f2) (f2.lst hm) (by omega) fun M' f' m' => k M' f' (by rw [m']; simp [List.filter_cons, hp]))
      rw [List.map_cons]
      refine ⟨hok M fr, ?_⟩
      rw [e]
      exact q
  exact key xs acc M0 (fun _ h => h) Fr.refl ha hl hK
end
/-! ### equality -/
theorem eqS {x y : Str} : eqD (.str x) (.str y) = decide (x = y) := by
  show (x == y) = _
  exact Bool.beq_eq_decide_eq x y
theorem eqI {i j : Int} : eqD (.int i) (.int j) = decide (i = j) := Bool.beq_eq_decide_eq i j
mutual
theorem eqD_refl : ∀ d : D, noref d = true → eqD d d = true
  | .non, _ => rfl
  | .bl b, _ => by simp [eqD]
  | .int i, _ => by simp [eqD]
  | .str x, _ => by simp [eqD]
  | .tup xs, h => by
    show eqL xs xs = true
    exact eqL_refl xs (by simpa [noref] using h)
  | .ref _, h => by simp [noref] at h
  | .con _, h => by simp [noref] at h
theorem eqL_refl : ∀ ds : List D, norefs ds = true → eqL ds ds = true
  | [], _ => rfl
  | d :: ds, h => by
    simp only [norefs, Bool.and_eq_true] at h
    simp [eqL, eqD_refl d h.1, eqL_refl ds h.2]
end
theorem eqM_tup {xs ys : List D} {M : Mem} {R : Bool → Prop} (h1 : norefs xs = true) (h2 : norefs ys = true) (h3 : (toPy (.tup xs)).depth ≤ 64) (k : R (eqL xs ys)) : eqM (.tup xs) (.tup ys) M R := by
  unfold eqM
  have e1 : pyM M (.tup xs) = some (toPy (.tup xs)) := by simp [pyM, noref, h1]
  have e2 : pyM M (.tup ys) = some (toPy (.tup ys)) := by simp [pyM, noref, h2]
  have e3 : PyData.eqv (toPy (.tup xs)) (toPy (.tup ys)) = eqL xs ys := eqv_toPy (.tup xs) (.tup ys) (by simpa [noref] using h1) (by simpa [noref] using h2)
  simp only [scalD, e1, e2]
  exact ⟨Nat.le_trans (Nat.min_le_left _ _) h3, by rw [e3]; exact k⟩
/-! texts in a row -/
def txs : List D → Bool
  | [] => true
  | .str _ :: r => txs r
  | _ => false
theorem txs_norefs : ∀ {ds : List D}, txs ds = true → norefs ds = true
  | [], _ => rfl
  | d :: r, h => by
    cases d <;> first
      | (simp only [txs] at h; simp [norefs, noref, txs_norefs h]; done)
      | (simp [txs] at h; done)
theorem txs_depth : ∀ {ds : List D}, txs ds = true → PyData.depthAll (toPys ds) = 0
  | [], _ => rfl
  | d :: r, h => by
    cases d <;> first
      | (simp only [txs] at h; simp [toPys, toPy, PyData.depthAll, PyData.depth, txs_depth h]; done)
      | (simp [txs] at h; done)
theorem txs_eq : ∀ {xs ys : List D}, txs xs = true → txs ys = true → (eqL xs ys = true ↔ xs = ys)
  | [], [], _, _ => by simp [eqL]
  | [], _ :: _, _, _ => by simp [eqL]
  | _ :: _, [], _, _ => by simp [eqL]
  | x :: xs, y :: ys, h1, h2 => by
    cases x <;> cases y <;> first
      | (simp only [txs] at h1 h2; simp [eqL, eqD, txs_eq h1 h2]; done)
      | (simp [txs] at h1; done)
      | (simp [txs] at h2; done)
theorem txs_app {xs ys : List D} (h1 : txs xs = true) (h2 : txs ys = true) : txs (xs ++ ys) = true := by
  induction xs with
  | nil => exact h2
  | cons d r ih => cases d <;> first | (simp only [txs] at h1; simp [txs, ih h1]; done) | (simp [txs] at h1; done)
theorem txs_iff {ds : List D} : txs ds = true ↔ ∀ d ∈ ds, ∃ x, d = .str x := by
  induction ds with
  | nil => simp [txs]
  | cons d r ih => cases d <;> simp [txs, ih]
theorem txs_drop {xs : List D} {n : Nat} (h : txs xs = true) : txs (xs.drop n) = true := txs_iff.mpr fun d hd => txs_iff.mp h d (List.mem_of_mem_drop hd)
theorem txs_take {xs : List D} {n : Nat} (h : txs xs = true) : txs (xs.take n) = true := txs_iff.mpr fun d hd => txs_iff.mp h d (List.mem_of_mem_take hd)
theorem eqM_txs {xs ys : List D} {M : Mem} {R : Bool → Prop} (h1 : txs xs = true) (h2 : txs ys = true) (k : ∀ b, (b = true ↔ xs = ys) → R b) : eqM (.tup xs) (.tup ys) M R :=
  eqM_tup (txs_norefs h1) (txs_norefs h2) (by simp [toPy, PyData.depth, txs_depth h1]) (k _ (txs_eq h1 h2))
/-! places -/
theorem ixN_nat {n j : Nat} {i : Int} (h : i = j) (hl : j < n) : ixN n i = some j := by
  subst h; unfold ixN; rw [if_pos (by omega), if_pos (by omega)]; simp
theorem atI_int {α : Type} {xs : List α} {i : Int} (h0 : 0 ≤ i) (h1 : i < xs.length) : ∃ d, atI xs i = some d ∧ xs[i.toNat]? = some d := by
  have hl : i.toNat < xs.length := by omega
  refine ⟨xs[i.toNat], ?_, List.getElem?_eq_getElem hl⟩
  unfold atI
  rw [ixN_nat (j := i.toNat) (by omega) hl]
  exact List.getElem?_eq_getElem hl
theorem atI_get {α : Type} {xs : List α} {i : Int} {j : Nat} {d : α} (h : i = j) (h1 : xs[j]? = some d) : atI xs i = some d := by
  unfold atI
  rw [ixN_nat h (List.getElem?_eq_some_iff.mp h1).1]
  exact h1
theorem atI_end {xs : List D} {d : D} : atI (xs ++ [d]) (-1) = some d := L2.atI_last _ _
theorem ixM_lst {M : Mem} {n : Nat} {xs : List D} {i : Int} {d : D} {R : D → Prop} (h : mlst M n = some xs) (e : atI xs i = some d) (k : R d) : ixM (.ref n) (.int i) M R := by
  unfold ixM; simp only [lstAt_of h, e]; exact k
theorem sIx_lo {n : Nat} {i : Int} (h : 0 ≤ i) : HT.sIx n 0 (some i) = min i.toNat n := by
  obtain ⟨j, rfl⟩ := Int.eq_ofNat_of_zero_le h
  simpa using HT.sIx_nat n 0 j
end DN
namespace DN
open PySem PySem.Spec L2
section
variable {M : Mem} {n : Nat} {xs : List D} {y : D} {R : KD}
theorem rcv_lst (h : mlst M n = some xs) : rcv "list" (.ref n) M := by unfold rcv; simp only [mlst_lst h]
theorem mAppend_ok (h : mlst M n = some xs) (hl : xs.length < sizeLine) (k : R .non (M.set n (.lst (xs ++ [y])))) : mAppend (.ref n) [y] M R := by
  unfold mAppend; simp only [h]; exact ⟨hl, k⟩
theorem cnTuple_ok (h : mlst M n = some xs) (k : R (.tup xs) M) : cnTuple [.ref n] M R := by
  unfold cnTuple; simp only [lstAt_of h]; exact k
theorem cnList_ok (h : mlst M n = some xs) (k : R (.ref M.length) (M ++ [.lst xs])) : cnList [.ref n] M R := by
  unfold cnList; simp only [lstAt_of h]; exact k
theorem cnLen_ok (h : mlst M n = some xs) (k : R (.int xs.length) M) : cnLen [.ref n] M R := by
  unfold cnLen; simp only [lstAt_of h]; exact k
theorem opIx_tup {i : Int} {d : D} (e : atI xs i = some d) (k : R d M) : opIx (.tup xs) (.int i) M R := by
  unfold opIx ixM; simp only [e]; exact k
theorem opIx_con {i : Int} {d : D} (e : atI xs i = some d) (k : R d M) : opIx (.con xs) (.int i) M R := by
  unfold opIx ixM; simp only [e]; exact k
theorem opIx_lst {i : Int} {d : D} (h : mlst M n = some xs) (e : atI xs i = some d) (k : R d M) : opIx (.ref n) (.int i) M R := ixM_lst h e k
theorem setM_of {i : Int} {j : Nat} {R : Mem → Prop} (h : mlst M n = some xs) (e : ixN xs.length i = some j) (k : R (M.set n (.lst (xs.set j y)))) : setM (.ref n) (.int i) y M R := by
  unfold setM; simp only [h, e]; exact k
theorem intsD_map : ∀ ns : List Int, intsD (ns.map D.int) = some ns
  | [] => rfl
  | n :: ns => by simp [intsD, intsD_map ns]
theorem cnSum_ok {ns : List Int} (h : mlst M n = some (ns.map D.int)) (k : R (.int ns.sum) M) : cnSum [.ref n] M R := by
  unfold cnSum; simp only [lstAt_of h, Option.bind_some, intsD_map]; exact k
end
end DN
namespace DN
open PySem PySem.Spec L2
section
variable {ok : Mem → Prop} {tg : Tg} {b : SS} {De : SD}
theorem forL_en {α : Type} (enc : α → D) (I : List α → List α → Env → Mem → Prop) (hok : ∀ p r ρ M, I p r ρ M → ok M)
    (h1 : ∀ p x r ρ M (Kn : Env → Mem → Prop), I p (x :: r) ρ M → (∀ ρ M, I (p ++ [x]) r ρ M → Kn ρ M) → ∃ ρ1, asgD tg (.tup [.int p.length, enc x]) ρ = some ρ1 ∧ b (De.lp Kn) ρ1 M)
    (h0 : ∀ p ρ M, I p [] ρ M → De.nx ρ M) (xs : List α) (ρ : Env) (M : Mem) (h : I [] xs ρ M) : forL ok tg b De (enumD 0 (xs.map enc)) ρ M := by
  have key : ∀ (r p : List α) (k : Int) (ρ : Env) (M : Mem), k = p.length → I p r ρ M → forL ok tg b De (enumD k (r.map enc)) ρ M := by
    intro r
    induction r with
    | nil => intro p k ρ M _ h; exact ⟨hok _ _ _ _ h, h0 p ρ M h⟩
    | cons x r ih =>
      intro p k ρ M hk h
      obtain ⟨ρ1, e, q⟩ := h1 p x r ρ M (forL ok tg b De (enumD (k + 1) (r.map enc))) h (fun ρ M h => ih (p ++ [x]) (k + 1) ρ M (by rw [hk]; simp) h)
      show ok M ∧ _
      refine ⟨hok _ _ _ _ h, ?_⟩
      rw [hk, e]
      rw [hk] at q
      exact q
  exact key xs [] 0 ρ M rfl h
end
section
variable {ok : Mem → Prop} {tg : Tg} {tt : SC} {te : SE} {n : Nat} {ρ : Env} {Kn : Mem → Prop}
/-- a comprehension over enumerate that changes nothing -/
theorem lcL_en {α : Type} (enc : α → D) (g : List α → α → D) {M0 : Mem} (hn : n < M0.length) (xs : List α) (hok : ∀ M, Fr [n] M0 M → ok M)
    (res : List α → List D) (hres : ∀ p x, res (p ++ [x]) = res p ++ [g p x])
    (h : ∀ p x r M (Kt : KD), xs = p ++ x :: r → Fr [n] M0 M → (∀ M3, Fr [] M M3 → Kt (g p x) M3) →
      ∃ ρ1, asgD tg (.tup [.int p.length, enc x]) ρ = some ρ1 ∧ tt noX ρ1 M fun b M2 => match b with | true => te noX ρ1 M2 Kt | false => False)
    {acc : List D} (ha : mlst M0 n = some (acc ++ res [])) (hl : (acc ++ res []).length + xs.length ≤ sizeLine) (hK : ∀ M', Fr [n] M0 M' → mlst M' n = some (acc ++ res xs) → Kn M')
    (mono : ∀ ρ M (f f' : Bool → Mem → Prop), (∀ b M2, f b M2 → f' b M2) → tt noX ρ M f → tt noX ρ M f') : lcL ok tg tt te n ρ (enumD 0 (xs.map enc)) M0 Kn := by
  have key : ∀ (r p : List α) (k : Int) (M : Mem), k = p.length → xs = p ++ r → Fr [n] M0 M → mlst M n = some (acc ++ res p) → (acc ++ res p).length + r.length ≤ sizeLine → lcL ok tg tt te n ρ (enumD k (r.map enc)) M Kn := by
    intro r
    induction r with
    | nil => intro p k M _ e fr hm _; exact ⟨hok M fr, hK M fr (by rw [e]; simpa using hm)⟩
    | cons x r ih =>
      intro p k M hk e fr hm hl
      rw [List.length_cons] at hl
      obtain ⟨ρ1, e1, q⟩ := h p x r M (fun y M3 => match mlst M3 n with
        | some acc => acc.length < sizeLine ∧ lcL ok tg tt te n ρ (enumD (k + 1) (r.map enc)) (M3.set n (.lst (acc ++ [y]))) Kn
        | none => False) e fr
        (fun M3 f3 => by
          have m3 := f3.lst hm
          simp only [m3]
          refine ⟨by omega, ih (p ++ [x]) (k + 1) _ (by rw [hk]; simp) (by rw [e]; simp) ((fr.tr0 f3).set (.inl (by simp))) (by rw [mlst_set (mlst_lt m3), hres, List.append_assoc]) (by rw [hres]; simp only [List.length_append, List.length_cons, List.length_nil] at hl ⊢; omega)⟩)
      show ok M ∧ _
      refine ⟨hok M fr, ?_⟩
      rw [hk, e1]
      rw [hk] at q
      refine mono ρ1 M _ _ (fun b M2 h => ?_) q
      cases b with
      | true => exact h
      | false => exact h.elim
  exact key xs [] 0 M0 rfl rfl Fr.refl ha hl
end
end DN
namespace DN
theorem bm {b : Bool} {A B : Prop} (h1 : b = true → A) (h2 : b = false → B) : (match (generalizing := false) b with | true => A | false => B) := by cases b <;> simp_all
theorem sz {n : Nat} (h : Nat.ble n 1000 = true) : n ≤ PySem.sizeLine := Nat.le_trans (Nat.le_of_ble_eq_true h) (by decide)
end DN
namespace DN
open PySem PySem.Spec L2
section
variable {M : Mem} {xs ys : List D}
theorem pyM_tup (h : norefs xs = true) : pyM M (.tup xs) = some (.tuple (toPys xs)) := by simp [pyM, noref, h, toPy]
theorem pyM_txs (h : txs xs = true) : pyM M (.tup xs) = some (.tuple (toPys xs)) := pyM_tup (txs_norefs h)
theorem dep_txs {p : PyData} (h : txs xs = true) : min (PyData.tuple (toPys xs)).depth p.depth ≤ 64 := Nat.le_trans (Nat.min_le_left _ _) (by simp [PyData.depth, txs_depth h])
theorem eqv_tup (h1 : norefs xs = true) (h2 : norefs ys = true) : PyData.eqv (.tuple (toPys xs)) (.tuple (toPys ys)) = eqL xs ys := eqv_toPy (.tup xs) (.tup ys) (by simpa [noref] using h1) (by simpa [noref] using h2)
theorem eqv_txs (h1 : txs xs = true) (h2 : txs ys = true) : ∃ b, PyData.eqv (.tuple (toPys xs)) (.tuple (toPys ys)) = b ∧ (b = true ↔ xs = ys) := ⟨_, eqv_tup (txs_norefs h1) (txs_norefs h2), txs_eq h1 h2⟩
end
end DN
namespace DN
theorem cm {b : Bool} {A B : Prop} (h1 : b = true → A) (h2 : b = false → B) : (match (generalizing := false) D.bl b with | .bl true => A | .bl false => B | _ => False) := by cases b <;> simp_all
end DN
namespace DN
/-- a def's reading, shut -/
theorem op (F : Fn) : ∃ F', F' = F := ⟨F, rfl⟩
end DN

set_option maxHeartbeats 4000000
/-! laws: what many of them share -/
namespace DN
open PySem PySem.Spec L2
def fit : Nat → D → Prop
  | 0, _ => False
  | r + 1, .tup xs => xs.length ≤ 16777216 ∧ ∀ x ∈ xs, fit r x
  | _ + 1, .ref _ => False
  | _ + 1, .con _ => False
  | _ + 1, _ => True
/-- a pool -/
def Pool (M : Mem) (n : Nat) : Prop := ∃ v, mlst M n = some [.int v]
theorem Pool.lt {M : Mem} {n : Nat} (h : Pool M n) : n < M.length := by obtain ⟨v, h⟩ := h; exact mlst_lt h
theorem Pool.fr {M M' : Mem} {n : Nat} {S : List Nat} (h : Pool M n) (f : Fr S M M') (hn : n ∉ S := by simp) : Pool M' n := by obtain ⟨v, h⟩ := h; exact ⟨v, f.lst h hn⟩
theorem bits64 {i : Int} (h : i.natAbs < 2 ^ 64) : Builtin.Int.intBits i ≤ 64 := by
  unfold Builtin.Int.intBits
  by_cases h0 : i = 0
  · simp [h0]
  · have hb : (i == 0) = false := by simpa using h0
    rw [hb]
    exact Nat.succ_le_of_lt ((Nat.log2_lt (by omega)).mpr h)
theorem mul_l {a b : Int} (h : a.natAbs < 2 ^ 64) : IntMulOk a b := .of_left (bits64 h)
theorem mul_r {a b : Int} (h : b.natAbs < 2 ^ 64) : IntMulOk a b := .of_right (bits64 h)
theorem ascii_ix {z : Str} {i : Int} (h0 : 0 ≤ i) (h1 : i < z.cps.toList.length) : ∃ c, atI z.cps.toList i = some c := by
  obtain ⟨c, e, _⟩ := atI_int h0 h1
  exact ⟨c, e⟩
def cut (xs : List D) (a b : Nat) : List D := (xs.drop a).take (b - a)
theorem cutL_int {xs : List D} {a b : Int} (h0 : 0 ≤ a) (h1 : 0 ≤ b) (h2 : b ≤ xs.length) : cutL xs (some a) (some b) = cut xs a.toNat b.toNat := by
  unfold cutL cut
  rw [sIx_lo h0]
  have hb : HT.sIx xs.length xs.length (some b) = b.toNat := by
    obtain ⟨j, rfl⟩ := Int.eq_ofNat_of_zero_le h1
    rw [HT.sIx_nat]; simp; omega
  rw [hb]
  by_cases h : a.toNat ≤ xs.length
  · rw [Nat.min_eq_left h]
  · have e1 : b.toNat - min a.toNat xs.length = 0 := by omega
    have e2 : b.toNat - a.toNat = 0 := by omega
    rw [e1, e2]; simp
theorem cut_len {t : List D} {a b : Nat} (h : b ≤ t.length) : (cut t a b).length = b - a := by
  unfold cut
  rw [List.length_take, List.length_drop]
  omega
theorem pick_D {xs : List D} {x : Int} (h0 : 0 ≤ x) (h1 : x < xs.length) : ∃ d ∈ xs, atI xs x = some d := by
  obtain ⟨d, a1, a2⟩ := atI_int h0 h1
  exact ⟨d, List.mem_of_getElem? a2, a1⟩
end DN
namespace DN
open PySem PySem.Spec L2
/-! ### lines of good signs -/
def okc (n : Nat) : Bool := decide (32 ≤ n) && decide (n ≤ 126) && !(n == 37)
def okl (x : Str) : Bool := decide (x.length ≤ 40) && x.cps.toList.all okc
/-- a row of good lines -/
def okt : List D → Bool
  | [] => true
  | .str x :: r => okl x && okt r
  | _ => false
theorem okt_iff {ds : List D} : okt ds = true ↔ ∀ d ∈ ds, ∃ x, d = .str x ∧ okl x = true := by
  induction ds with
  | nil => simp [okt]
  | cons d r ih => cases d <;> simp [okt, ih]
theorem okt_txs {ds : List D} (h : okt ds = true) : txs ds = true := txs_iff.mpr fun d hd => by
  obtain ⟨x, e, _⟩ := okt_iff.mp h d hd
  exact ⟨x, e⟩
theorem okt_app {xs ys : List D} (h1 : okt xs = true) (h2 : okt ys = true) : okt (xs ++ ys) = true := okt_iff.mpr fun d hd => by
  rcases List.mem_append.mp hd with hd | hd
  · exact okt_iff.mp h1 d hd
  · exact okt_iff.mp h2 d hd
theorem okt_cut {xs : List D} {a b : Nat} (h : okt xs = true) : okt (cut xs a b) = true := okt_iff.mpr fun d hd => okt_iff.mp h d (List.mem_of_mem_drop (List.mem_of_mem_take hd))
theorem okt_get {xs : List D} {i : Nat} {d : D} (h : okt xs = true) (e : xs[i]? = some d) : ∃ x, d = .str x ∧ okl x = true := okt_iff.mp h d (List.mem_of_getElem? e)
theorem okl_rep {c n : Nat} (h : okc c = true) (hn : n ≤ 40) : okl (repS ⟨#[c]⟩ n) = true := by
  have e : (repS ⟨#[c]⟩ n).cps.toList = List.replicate n c := by
    unfold repS
    simp
  unfold okl
  rw [Bool.and_eq_true, decide_eq_true_eq, List.all_eq_true]
  refine ⟨?_, fun x hx => ?_⟩
  · show (repS ⟨#[c]⟩ n).cps.size ≤ 40
    rw [← Array.length_toList, e, List.length_replicate]; exact hn
  · rw [e] at hx
    rw [List.eq_of_mem_replicate hx]; exact h
end DN
namespace DN
open PySem PySem.Spec L2
theorem toL_app (x y : Str) : (x ++ y).cps.toList = x.cps.toList ++ y.cps.toList := by
  show (x.cps ++ y.cps).toList = _
  simp
theorem join_toL : ∀ ys : List Str, (Txt.join (Str.ofString "") ys).cps.toList = (ys.map (·.cps.toList)).flatten := by
  intro ys
  have e : Txt.join (Str.ofString "") ys = Str.join (Str.ofString "") ys := by
    unfold Txt.join
    cases ys with
    | nil => rfl
    | cons x r => exact StrLaws.glued_cons _ r x
  rw [e]
  clear e
  have e0 : (Str.ofString "").cps.toList = [] := by decide
  induction ys with
  | nil => rfl
  | cons x r ih =>
    cases r with
    | nil => simp [Str.join]
    | cons y t =>
      show (x ++ Str.ofString "" ++ Str.join (Str.ofString "") (y :: t)).cps.toList = _
      rw [toL_app, toL_app, e0, ih]
      simp
/-- single good signs, joined -/
theorem okl_join {ys : List Str} (h : ∀ y ∈ ys, ∃ c, y = ⟨#[c]⟩ ∧ okc c = true) (hn : ys.length ≤ 40) : okl (Txt.join (Str.ofString "") ys) = true := by
  have e := join_toL ys
  have len : ∀ zs : List Str, (∀ y ∈ zs, ∃ c, y = (⟨#[c]⟩ : Str) ∧ okc c = true) → ((zs.map (·.cps.toList)).flatten).length = zs.length ∧ ∀ c ∈ (zs.map (·.cps.toList)).flatten, okc c = true := by
    intro zs
    induction zs with
    | nil => intro _; exact ⟨rfl, fun c hc => by simp at hc⟩
    | cons z r ih =>
      intro hz
      obtain ⟨i1, i2⟩ := ih fun y hy => hz y (by simp [hy])
      obtain ⟨c, rfl, hc⟩ := hz z (by simp)
      refine ⟨by simp [i1], fun d hd => ?_⟩
      simp only [List.map_cons, List.flatten_cons, List.mem_append] at hd
      rcases hd with hd | hd
      · have : d = c := by simpa using hd
        rw [this]; exact hc
      · exact i2 d hd
  obtain ⟨l1, l2⟩ := len ys h
  unfold okl
  rw [Bool.and_eq_true, decide_eq_true_eq, List.all_eq_true, e]
  refine ⟨?_, l2⟩
  show (Txt.join (Str.ofString "") ys).cps.size ≤ 40
  rw [← Array.length_toList, e, l1]; exact hn
end DN
namespace DN
open PySem PySem.Spec L2
/-! ### hunks -/
structure Hk where
  s : Int
  o : List D
  n : List D
def Hk.d (h : Hk) : D := .tup [.int h.s, .tup h.o, .tup h.n]
def Hk.e (h : Hk) : Int := h.s + h.o.length
def Hk.g (h : Hk) : Int := h.n.length - h.o.length
theorem Hk.se (h : Hk) : h.s ≤ h.e := by unfold Hk.e; omega
/-- the text with the hunks put in, from d on -/
def ap (t : List D) : Int → List Hk → List D
  | d, [] => t.drop d.toNat
  | d, h :: r => cut t d.toNat h.s.toNat ++ h.n ++ ap t h.e r
/-- the hunks lie in order from low, in the text -/
def Valid (t : List D) : Int → List Hk → Prop
  | _, [] => True
  | low, h :: r => low ≤ h.s ∧ h.e ≤ t.length ∧ h.o = cut t h.s.toNat h.e.toNat ∧ txs h.n = true ∧ Valid t (h.e + 1) r
theorem Valid.mono {t : List D} : ∀ {hs : List Hk} {a b : Int}, Valid t b hs → a ≤ b → Valid t a hs
  | [], _, _, _, _ => trivial
  | h :: r, a, b, v, l => ⟨by have := v.1; omega, v.2⟩
theorem Valid.snoc {t : List D} {h : Hk} : ∀ {hs : List Hk} {low : Int}, Valid t low hs → (∀ x ∈ hs, x.e + 1 ≤ h.s) → low ≤ h.s → h.e ≤ t.length → h.o = cut t h.s.toNat h.e.toNat → txs h.n = true → Valid t low (hs ++ [h])
  | [], low, _, _, h1, h2, h3, h4 => ⟨h1, h2, h3, h4, trivial⟩
  | x :: r, low, v, hx, h1, h2, h3, h4 => by
    obtain ⟨v1, v2, v3, v4, v6⟩ := v
    exact ⟨v1, v2, v3, v4, Valid.snoc v6 (fun y hy => hx y (by simp [hy])) (hx x (by simp)) h2 h3 h4⟩
theorem Valid.filter {t : List D} {p : Hk → Bool} : ∀ {hs : List Hk} {low : Int}, Valid t low hs → Valid t low (hs.filter p)
  | [], _, _ => trivial
  | h :: r, low, v => by
    obtain ⟨v1, v2, v3, v4, v5⟩ := v
    rw [List.filter_cons]
    split
    · exact ⟨v1, v2, v3, v4, v5.filter⟩
    · exact v5.filter.mono (by have := h.se; omega)
theorem Valid.mem {t : List D} : ∀ {hs : List Hk} {low : Int}, Valid t low hs → ∀ h ∈ hs, low ≤ h.s ∧ h.e ≤ t.length ∧ h.o = cut t h.s.toNat h.e.toNat ∧ txs h.n = true
  | x :: r, low, v, h, hm => by
    obtain ⟨v1, v2, v3, v4, v5⟩ := v
    rcases List.mem_cons.mp hm with rfl | hm
    · exact ⟨v1, v2, v3, v4⟩
    · obtain ⟨a, b⟩ := v5.mem h hm
      exact ⟨by have := x.se; omega, b⟩
theorem cut_cut {t : List D} {a b c : Nat} (h1 : a ≤ b) (h2 : b ≤ c) : cut t a b ++ cut t b c = cut t a c := by
  unfold cut
  have e : t.drop b = (t.drop a).drop (b - a) := by rw [List.drop_drop]; congr 1; omega
  rw [e, show c - a = (b - a) + (c - b) by omega, List.take_add]
theorem cut_drop {t : List D} {a b : Nat} (h1 : a ≤ b) : cut t a b ++ t.drop b = t.drop a := by
  unfold cut
  have e : t.drop b = (t.drop a).drop (b - a) := by rw [List.drop_drop]; congr 1; omega
  rw [e, List.take_append_drop]
theorem ap_cut {t : List D} : ∀ {r : List Hk} {d e : Int}, 0 ≤ d → d ≤ e → (∀ h ∈ r.head?, e ≤ h.s) → ap t d r = cut t d.toNat e.toNat ++ ap t e r
  | [], d, e, h0, h1, _ => by simp only [ap]; rw [cut_drop (by omega)]
  | h :: r, d, e, h0, h1, h2 => by
    have := h2 h (by simp)
    simp only [ap, ← List.append_assoc]
    rw [cut_cut (by omega) (by omega)]
/-- what changes nothing may go -/
theorem ap_filter {t : List D} {p : Hk → Bool} (hp : ∀ h, p h = false → h.o = h.n) : ∀ {hs : List Hk} {low d : Int}, Valid t low hs → 0 ≤ d → d ≤ low → ap t d (hs.filter p) = ap t d hs
  | [], _, _, _, _, _ => rfl
  | h :: r, low, d, v, h0, h1 => by
    obtain ⟨v1, v2, v3, v4, v5⟩ := v
    have se := h.se
    rw [List.filter_cons]
    split
    · simp only [ap]
      rw [ap_filter hp v5 (by omega) (by omega)]
    · rename_i hn
      have e := hp h (by simpa using hn)
      simp only [ap]
      rw [ap_filter hp v5 h0 (by omega), ← e]
      rw [show cut t d.toNat h.s.toNat ++ h.o = cut t d.toNat h.e.toNat by rw [v3, cut_cut (by omega) (by omega)]]
      refine ap_cut h0 (by omega) fun x hx => ?_
      cases r with
      | nil => simp at hx
      | cons y r' => simp at hx; subst hx; have := v5.1; omega
end DN
namespace DN
open PySem PySem.Spec L2
theorem tru_lst {M : Mem} {n : Nat} {xs : List D} (h : mlst M n = some xs) : tru (.ref n) M = some (!xs.isEmpty) := by unfold tru; simp only [mlst_lst h]
end DN
namespace DN
open PySem PySem.Spec L2
theorem while_ok {c : SC} {b : SS} {D : SD} (I : Nat → Env → Mem → Prop) (h0 : ∀ ρ M, ¬ I 0 ρ M)
    (h : ∀ n ρ M (Kn : Env → Mem → Prop), I (n + 1) ρ M → (∀ ρ M, I n ρ M → Kn ρ M) → c (fun x M1 => D.ex x ρ M1) ρ M fun k M1 => match k with | true => b (D.lp Kn) ρ M1 | false => D.nx ρ M1) : ∀ (n : Nat) (ρ : Env) (M : Mem), I n ρ M → whileN c b D n ρ M
  | 0, ρ, M, i => absurd i (h0 ρ M)
  | n + 1, ρ, M, i => h n ρ M (whileN c b D n) i (while_ok I h0 h n)
end DN

set_option maxHeartbeats 0
namespace SG
open PySem PySem.Spec L2 DN
def FL : List Str := ["check"]
def Tb_Misfit : List (Str × Bool) := [("Misfit", true), ("NotGreen", false), ("NotRed", false)]
def Tb_NotGreen : List (Str × Bool) := [("Misfit", false), ("NotGreen", true), ("NotRed", false)]
def Tb_NotRed : List (Str × Bool) := [("Misfit", false), ("NotGreen", false), ("NotRed", true)]
def Tb_ReviewError : List (Str × Bool) := [("Misfit", true), ("NotGreen", true), ("NotRed", true)]
/-- _law_bag: 0 script, 1 seed, 2 cell, 3 cells -/
def b_law_bag_1 : SS := (sAsg (eBin opMod (eCallB cnInt (aCons (eBin opAdd (eBin opAdd (eBin opMul (eVar 1) (eC (.int 48271))) (eBin opMod (eCallB cnInt (aCons (eVar 2) aNil)) (eC (.int 1000003)))) (eC (.int 1))) aNil)) (eC (.int 2147483647))) (.nm 1))
def r_law_bag_2 : SS := (sRet (eLst (aCons (eVar 1) (aCons (eC (.int 0)) (aCons (eVar 3) aNil)))))
def t_law_bag : SS := (sSeq (sAsg (eC (.int 17)) (.nm 1))
  (sSeq (sFor (iSeq (eSl (eVar 0) oNo (oSome (eC (.int 63))))) (.nm 2) (b_law_bag_1))
  (sSeq (sAsg (eLst aNil) (.nm 3))
  (sSeq (sIf (cAnd (cB (eBin opGt (eCallB cnLen (aCons (eVar 0) aNil)) (eC (.int 0)))) (cB (eBin opGe (eCallB cnAbs (aCons (eBin opIx (eVar 0) (eC (.int 0))) aNil)) (eBin opPow (eC (.int 10)) (eC (.int 18)))))) (sAsg (eLc (iSeq (eSl (eVar 0) oNo (oSome (eC (.int 63))))) (.nm 2) cYes (eCallB cnAbs (aCons (eVar 2) aNil)) [2]) (.nm 3)) sNop)
  (r_law_bag_2)))))
/-- _law_take: 0 bag, 1 limit, 2 digit -/
def r_law_take_1 : SS := (sSeq (sAsg (eBin opMod (eCallB cnInt (aCons (eBin opIx (eVar 0) (eC (.int 1))) aNil)) (eVar 1)) (.nm 2))
  (sSeq (sSet (eVar 0) (eC (.int 1)) (eBin opDiv (eBin opIx (eVar 0) (eC (.int 1))) (eVar 1)))
  (sRet (eVar 2))))
def t_law_take : SS := (sSeq (sIf (cAnd (cB (eBin opEq (eBin opIx (eVar 0) (eC (.int 1))) (eC (.int 0)))) (cB (eBin opEq (eCallB cnLen (aCons (eBin opIx (eVar 0) (eC (.int 2))) aNil)) (eC (.int 0))))) (sSeq (sSet (eVar 0) (eC (.int 0)) (eBin opMod (eCallB cnInt (aCons (eBin opAdd (eBin opMul (eBin opIx (eVar 0) (eC (.int 0))) (eC (.int 48271))) (eC (.int 11))) aNil)) (eC (.int 2147483647))))
  (sRet (eBin opMod (eCallB cnInt (aCons (eBin opDiv (eBin opIx (eVar 0) (eC (.int 0))) (eC (.int 97))) aNil)) (eVar 1)))) sNop)
  (sSeq (sIf (cB (eBin opEq (eBin opIx (eVar 0) (eC (.int 1))) (eC (.int 0)))) (sSet (eVar 0) (eC (.int 1)) (eBm "list" mPop (eBin opIx (eVar 0) (eC (.int 2))) (aCons (eC (.int 0)) aNil))) sNop)
  (r_law_take_1)))
/-- _law_paths: 0 bag, 1 many, 2 heads, 3 k -/
def t_law_paths (F_law_take : Fn) : SS := (sSeq (sAsg (eLst (aCons (eC (.str "")) (aCons (eC (.str "src/")) (aCons (eC (.str "doc/")) (aCons (eC (.str "src/lib/")) aNil))))) (.nm 2))
  (sRet (eCallB cnSorted (aCons (eLc (iRange1 (aCons (eVar 1) aNil)) (.nm 3) cYes (eBin opAdd (eBin opAdd (eBin opIx (eVar 2) (eCall F_law_take (aCons (eVar 0) (aCons (eC (.int 4)) aNil)))) (eBin opIx (eC (.str "abcdefgh")) (eVar 3))) (eBin opIx (eLst (aCons (eC (.str "")) (aCons (eC (.str "0")) (aCons (eC (.str ".c")) (aCons (eC (.str "_-x")) aNil))))) (eCall F_law_take (aCons (eVar 0) (aCons (eC (.int 4)) aNil))))) [3]) aNil))))
/-- _law_line: 0 bag, 1 wide, 2 signs, 3 size, 4 k -/
def r_law_line_1 (F_law_take : Fn) : SS := (sRet (eBm "str" mJoin (eC (.str "")) (aCons (eLc (iRange1 (aCons (eVar 3) aNil)) (.nm 4) cYes (eBin opIx (eVar 2) (eCall F_law_take (aCons (eVar 0) (aCons (eC (.int 94)) aNil)))) [4]) aNil)))
def t_law_line (F_law_take : Fn) : SS := (sSeq (sIf (cB (eBin opEq (eVar 1) (eC (.int 0)))) (sRet (eBin opIx (eLst (aCons (eC (.str "a")) (aCons (eC (.str "b")) (aCons (eC (.str "")) (aCons (eC (.str "ab")) (aCons (eC (.str "c")) aNil)))))) (eCall F_law_take (aCons (eVar 0) (aCons (eC (.int 5)) aNil))))) sNop)
  (sSeq (sAsg (eC (.str " !\"#$&'()*+,-./0123456789:;<=>?@ABCDEFGHIJKLMNOPQRSTUVWXYZ[\\]^_`abcdefghijklmnopqrstuvwxyz{|}~")) (.nm 2))
  (sSeq (sAsg (eCall F_law_take (aCons (eVar 0) (aCons (eC (.int 4)) aNil))) (.nm 3))
  (sSeq (sIf (cB (eBin opEq (eCall F_law_take (aCons (eVar 0) (aCons (eC (.int 16)) aNil))) (eC (.int 7)))) (sAsg (eCall F_law_take (aCons (eVar 0) (aCons (eC (.int 41)) aNil))) (.nm 3)) sNop)
  (r_law_line_1 F_law_take)))))
/-- _law_base: 0 bag, 1 paths, 2 wide, 3 rows, 4 path, 5 text, 6 k -/
def b_law_base_1 (F_law_take F_law_line : Fn) : SS := (sSeq (sAsg (eCallB cnTuple (aCons (eLc (iRange1 (aCons (eCall F_law_take (aCons (eVar 0) (aCons (eC (.int 6)) aNil))) aNil)) (.nm 6) cYes (eCall F_law_line (aCons (eVar 0) (aCons (eVar 2) aNil))) [6]) aNil)) (.nm 5))
  (sIf (cB (eBin opNe (eVar 5) (eTup aNil))) (sEx (eBm "list" mAppend (eVar 3) (aCons (eTup (aCons (eVar 4) (aCons (eVar 5) aNil))) aNil))) sNop))
def t_law_base (F_law_take F_law_line : Fn) : SS := (sSeq (sAsg (eLst aNil) (.nm 3))
  (sSeq (sFor (iSeq (eVar 1)) (.nm 4) (b_law_base_1 F_law_take F_law_line))
  (sRet (eCallB cnTuple (aCons (eVar 3) aNil)))))
/-- _law_names: 0 bag, 1 many, 2 signs, 3 head, 4 k, 5 tail, 6 first -/
def t_law_names (F_law_take : Fn) : SS := (sSeq (sAsg (eC (.str "abcdefghijklmnopqrstuvwxyz0123456789")) (.nm 2))
  (sSeq (sAsg (eBm "str" mJoin (eC (.str "")) (aCons (eLc (iRange1 (aCons (eCall F_law_take (aCons (eVar 0) (aCons (eC (.int 4)) aNil))) aNil)) (.nm 4) cYes (eBin opIx (eVar 2) (eCall F_law_take (aCons (eVar 0) (aCons (eC (.int 26)) aNil)))) [4]) aNil)) (.nm 3))
  (sSeq (sAsg (eBm "str" mJoin (eC (.str "")) (aCons (eLc (iRange1 (aCons (eCall F_law_take (aCons (eVar 0) (aCons (eC (.int 4)) aNil))) aNil)) (.nm 4) cYes (eBin opIx (eVar 2) (eCall F_law_take (aCons (eVar 0) (aCons (eC (.int 36)) aNil)))) [4]) aNil)) (.nm 5))
  (sSeq (sAsg (eCall F_law_take (aCons (eVar 0) (aCons (eBin opSub (eC (.int 27)) (eVar 1)) aNil))) (.nm 6))
  (sRet (eLc (iRange1 (aCons (eVar 1) aNil)) (.nm 4) cYes (eBin opAdd (eBin opAdd (eVar 3) (eBin opIx (eVar 2) (eBin opAdd (eVar 6) (eVar 4)))) (eSl (eVar 5) oNo (oSome (eBin opMod (eCallB cnInt (aCons (eBin opAdd (eBin opMul (eC (.int 2)) (eVar 4)) (eC (.int 3))) aNil)) (eC (.int 4)))))) [4]))))))
/-- _law_edit: 0 bag, 1 text, 2 wide, 3 most, 4 hunks, 5 start, 6 k, 7 at, 8 size, 9 lines, 10 j -/
def r_law_edit_1 (F_law_take F_law_line : Fn) : SS := (sSeq (sEx (eBm "list" mAppend (eVar 4) (aCons (eTup (aCons (eVar 7) (aCons (eSl (eVar 1) (oSome (eVar 7)) (oSome (eBin opAdd (eVar 7) (eVar 8)))) (aCons (eVar 9) aNil)))) aNil)))
  (sAsg (eBin opAdd (eBin opAdd (eVar 7) (eVar 8)) (eC (.int 1))) (.nm 5)))
def r_law_edit_2 (F_law_take F_law_line : Fn) : SS := (sSeq (sIf (cB (eBin opGt (eVar 7) (eCallB cnLen (aCons (eVar 1) aNil)))) sBreak sNop)
  (sSeq (sAsg (eCallB cnMin (aCons (eCall F_law_take (aCons (eVar 0) (aCons (eC (.int 3)) aNil))) (aCons (eBin opSub (eCallB cnLen (aCons (eVar 1) aNil)) (eVar 7)) aNil))) (.nm 8))
  (sSeq (sAsg (eCallB cnTuple (aCons (eLc (iRange1 (aCons (eCall F_law_take (aCons (eVar 0) (aCons (eC (.int 3)) aNil))) aNil)) (.nm 10) cYes (eCall F_law_line (aCons (eVar 0) (aCons (eVar 2) aNil))) [10]) aNil)) (.nm 9))
  (sSeq (sIf (cB (eBin opEq (eVar 9) (eSl (eVar 1) (oSome (eVar 7)) (oSome (eBin opAdd (eVar 7) (eVar 8)))))) (sAsg (eBin opAdd (eVar 9) (eTup (aCons (eC (.str "new")) aNil))) (.nm 9)) sNop)
  (r_law_edit_1 F_law_take F_law_line)))))
def b_law_edit_3 (F_law_take F_law_line : Fn) : SS := (sSeq (sAsg (eBin opAdd (eVar 5) (eCall F_law_take (aCons (eVar 0) (aCons (eC (.int 3)) aNil)))) (.nm 7))
  (sSeq (sIf (cB (eBin opEq (eVar 6) (eC (.int 0)))) (sAsg (eCallB cnMin (aCons (eVar 7) (aCons (eCallB cnLen (aCons (eVar 1) aNil)) aNil))) (.nm 7)) sNop)
  (r_law_edit_2 F_law_take F_law_line)))
def t_law_edit (F_law_take F_law_line : Fn) : SS := (sSeq (sAsg (eLst aNil) (.nm 4))
  (sSeq (sAsg (eC (.int 0)) (.nm 5))
  (sSeq (sFor (iRange1 (aCons (eVar 3) aNil)) (.nm 6) (b_law_edit_3 F_law_take F_law_line))
  (sRet (eCallB cnTuple (aCons (eVar 4) aNil))))))
/-- _law_text: 0 tree, 1 path, 2 entry -/
def b_law_text_1 : SS := (sIf (cB (eBin opEq (eBin opIx (eVar 2) (eC (.int 0))) (eVar 1))) (sRet (eBin opIx (eVar 2) (eC (.int 1)))) sNop)
def t_law_text : SS := (sSeq (sFor (iSeq (eVar 0)) (.nm 2) (b_law_text_1))
  (sRet (eTup aNil)))
/-- _law_patch: 0 bag, 1 tree, 2 paths, 3 wide, 4 parts, 5 path -/
def b_law_patch_1 (F_law_take F_law_edit F_law_text : Fn) : SS := (sIf (cB (eBin opEq (eCall F_law_take (aCons (eVar 0) (aCons (eC (.int 2)) aNil))) (eC (.int 0)))) (sEx (eBm "list" mAppend (eVar 4) (aCons (eTup (aCons (eVar 5) (aCons (eCall F_law_edit (aCons (eVar 0) (aCons (eCall F_law_text (aCons (eVar 1) (aCons (eVar 5) aNil))) (aCons (eVar 3) (aCons (eBin opAdd (eC (.int 1)) (eCall F_law_take (aCons (eVar 0) (aCons (eC (.int 2)) aNil)))) aNil))))) aNil))) aNil))) sNop)
def r_law_patch_2 (F_law_take F_law_edit F_law_text : Fn) : SS := (sRet (eCallB cnTuple (aCons (eVar 4) aNil)))
def t_law_patch (F_law_take F_law_edit F_law_text : Fn) : SS := (sSeq (sAsg (eLst aNil) (.nm 4))
  (sSeq (sFor (iSeq (eVar 2)) (.nm 5) (b_law_patch_1 F_law_take F_law_edit F_law_text))
  (sSeq (sIf (cB (eBin opEq (eVar 4) (eLst aNil))) (sSeq (sAsg (eBin opIx (eVar 2) (eCall F_law_take (aCons (eVar 0) (aCons (eCallB cnLen (aCons (eVar 2) aNil)) aNil)))) (.nm 5))
  (sEx (eBm "list" mAppend (eVar 4) (aCons (eTup (aCons (eVar 5) (aCons (eCall F_law_edit (aCons (eVar 0) (aCons (eCall F_law_text (aCons (eVar 1) (aCons (eVar 5) aNil))) (aCons (eVar 3) (aCons (eBin opAdd (eC (.int 1)) (eCall F_law_take (aCons (eVar 0) (aCons (eC (.int 2)) aNil)))) aNil))))) aNil))) aNil)))) sNop)
  (r_law_patch_2 F_law_take F_law_edit F_law_text))))
/-- _law_put: 0 tree, 1 path, 2 text, 3 rows, 4 entry -/
def r_law_put_1 : SS := (sRet (eCallB cnTuple (aCons (eCallB cnSorted (aCons (eVar 3) aNil)) aNil)))
def t_law_put : SS := (sSeq (sAsg (eLc (iSeq (eVar 0)) (.nm 4) (cB (eBin opNe (eBin opIx (eVar 4) (eC (.int 0))) (eVar 1))) (eVar 4) [4]) (.nm 3))
  (sSeq (sIf (cB (eBin opNe (eVar 2) (eTup aNil))) (sEx (eBm "list" mAppend (eVar 3) (aCons (eTup (aCons (eVar 1) (aCons (eVar 2) aNil))) aNil))) sNop)
  (r_law_put_1)))
/-- _law_apply: 0 patch, 1 tree, 2 part, 3 text, 4 hunk -/
def b_law_apply_1 (F_law_text F_law_put : Fn) : SS := (sAsg (eBin opAdd (eBin opAdd (eSl (eVar 3) oNo (oSome (eBin opIx (eVar 4) (eC (.int 0))))) (eBin opIx (eVar 4) (eC (.int 2)))) (eSl (eVar 3) (oSome (eBin opAdd (eBin opIx (eVar 4) (eC (.int 0))) (eCallB cnLen (aCons (eBin opIx (eVar 4) (eC (.int 1))) aNil)))) oNo)) (.nm 3))
def b_law_apply_2 (F_law_text F_law_put : Fn) : SS := (sSeq (sAsg (eCall F_law_text (aCons (eVar 1) (aCons (eBin opIx (eVar 2) (eC (.int 0))) aNil))) (.nm 3))
  (sSeq (sFor (iSeq (eRev (eBin opIx (eVar 2) (eC (.int 1))))) (.nm 4) (b_law_apply_1 F_law_text F_law_put))
  (sAsg (eCall F_law_put (aCons (eVar 1) (aCons (eBin opIx (eVar 2) (eC (.int 0))) (aCons (eVar 3) aNil)))) (.nm 1))))
def t_law_apply (F_law_text F_law_put : Fn) : SS := (sSeq (sFor (iSeq (eVar 0)) (.nm 2) (b_law_apply_2 F_law_text F_law_put))
  (sRet (eVar 1)))
/-- _law_changes: 0 bag, 1 tree, 2 paths, 3 names, 4 people, 5 wide, 6 changes, 7 name, 8 patch -/
def b_law_changes_1 (F_law_patch F_law_apply F_law_take : Fn) : SS := (sSeq (sAsg (eCall F_law_patch (aCons (eVar 0) (aCons (eVar 1) (aCons (eVar 2) (aCons (eVar 5) aNil))))) (.nm 8))
  (sSeq (sAsg (eCall F_law_apply (aCons (eVar 8) (aCons (eVar 1) aNil))) (.nm 1))
  (sEx (eBm "list" mAppend (eVar 6) (aCons (eTup (aCons (eVar 7) (aCons (eBin opIx (eVar 4) (eCall F_law_take (aCons (eVar 0) (aCons (eCallB cnLen (aCons (eVar 4) aNil)) aNil)))) (aCons (eVar 8) aNil)))) aNil)))))
def t_law_changes (F_law_patch F_law_apply F_law_take : Fn) : SS := (sSeq (sAsg (eLst aNil) (.nm 6))
  (sSeq (sFor (iSeq (eVar 3)) (.nm 7) (b_law_changes_1 F_law_patch F_law_apply F_law_take))
  (sRet (eCallB cnTuple (aCons (eVar 6) aNil)))))
/-- _law_along: 0 tree, 1 changes, 2 trees, 3 change -/
def b_law_along_1 (F_law_apply : Fn) : SS := (sEx (eBm "list" mAppend (eVar 2) (aCons (eCall F_law_apply (aCons (eBin opIx (eVar 3) (eC (.int 2))) (aCons (eBin opIx (eVar 2) (eUn opNeg (eC (.int 1)))) aNil))) aNil)))
def t_law_along (F_law_apply : Fn) : SS := (sSeq (sAsg (eLst (aCons (eVar 0) aNil)) (.nm 2))
  (sSeq (sFor (iSeq (eVar 1)) (.nm 3) (b_law_along_1 F_law_apply))
  (sRet (eVar 2))))
/-- _law_spots: 0 trees, 1 out, 2 tree, 3 entry, 4 line -/
def b_law_spots_1 : SS := (sEx (eBm "list" mExtend (eVar 1) (aCons (eLc (iSeq (eBin opIx (eVar 3) (eC (.int 1)))) (.nm 4) cYes (eTup (aCons (eBin opIx (eVar 3) (eC (.int 0))) (aCons (eVar 4) aNil))) [4]) aNil)))
def b_law_spots_2 : SS := (sFor (iSeq (eVar 2)) (.nm 3) (b_law_spots_1))
def t_law_spots : SS := (sSeq (sAsg (eLst aNil) (.nm 1))
  (sSeq (sFor (iSeq (eVar 0)) (.nm 2) (b_law_spots_2))
  (sRet (eVar 1))))
/-- _law_check: 0 bag, 1 paths, 2 spots, 3 wide, 4 one, 5 other, 6 kind, 7 word -/
def r_law_check_1 (F_law_line F_law_take : Fn) : SS := (sRet (eTup (aCons (eC (.str "most")) (aCons (eVar 7) (aCons (eCall F_law_take (aCons (eVar 0) (aCons (eC (.int 4)) aNil))) aNil)))))
def r_law_check_2 (F_law_line F_law_take : Fn) : SS := (sSeq (sIf (cB (eBin opEq (eVar 7) (eC (.str "")))) (sAsg (eC (.str "a")) (.nm 7)) sNop)
  (r_law_check_1 F_law_line F_law_take))
def r_law_check_3 (F_law_line F_law_take : Fn) : SS := (sSeq (sAsg (eCall F_law_take (aCons (eVar 0) (aCons (eC (.int 4)) aNil))) (.nm 6))
  (sSeq (sIf (cB (eBin opEq (eVar 6) (eC (.int 0)))) (sRet (eTup (aCons (eC (.str "has")) (aCons (eBin opIx (eVar 4) (eC (.int 0))) (aCons (eBin opIx (eVar 4) (eC (.int 1))) aNil))))) sNop)
  (sSeq (sIf (cB (eBin opEq (eVar 6) (eC (.int 1)))) (sRet (eTup (aCons (eC (.str "lacks")) (aCons (eBin opIx (eVar 4) (eC (.int 0))) (aCons (eBin opIx (eVar 4) (eC (.int 1))) aNil))))) sNop)
  (sSeq (sIf (cB (eBin opEq (eVar 6) (eC (.int 3)))) (sRet (eTup (aCons (eC (.str "ties")) (aCons (eBin opIx (eVar 4) (eC (.int 1))) (aCons (eBin opIx (eVar 5) (eC (.int 1))) aNil))))) sNop)
  (sSeq (sAsg (eBin opIx (eVar 4) (eC (.int 1))) (.nm 7))
  (sSeq (sIf (cB (eBin opEq (eCall F_law_take (aCons (eVar 0) (aCons (eC (.int 2)) aNil))) (eC (.int 0)))) (sAsg (eSl (eVar 7) oNo (oSome (eC (.int 1)))) (.nm 7)) sNop)
  (r_law_check_2 F_law_line F_law_take)))))))
def r_law_check_4 (F_law_line F_law_take : Fn) : SS := (sSeq (sIf (cAnd (cB (eBin opGt (eCallB cnLen (aCons (eVar 2) aNil)) (eC (.int 0)))) (cB (eBin opGt (eCall F_law_take (aCons (eVar 0) (aCons (eC (.int 6)) aNil))) (eC (.int 0))))) (sAsg (eBin opIx (eVar 2) (eCall F_law_take (aCons (eVar 0) (aCons (eCallB cnLen (aCons (eVar 2) aNil)) aNil)))) (.nm 5)) sNop)
  (r_law_check_3 F_law_line F_law_take))
def t_law_check (F_law_line F_law_take : Fn) : SS := (sSeq (sAsg (eTup (aCons (eBin opIx (eVar 1) (eCall F_law_take (aCons (eVar 0) (aCons (eCallB cnLen (aCons (eVar 1) aNil)) aNil)))) (aCons (eCall F_law_line (aCons (eVar 0) (aCons (eVar 3) aNil))) aNil))) (.nm 4))
  (sSeq (sAsg (eVar 4) (.nm 5))
  (sSeq (sIf (cAnd (cB (eBin opGt (eCallB cnLen (aCons (eVar 2) aNil)) (eC (.int 0)))) (cB (eBin opGt (eCall F_law_take (aCons (eVar 0) (aCons (eC (.int 6)) aNil))) (eC (.int 0))))) (sAsg (eBin opIx (eVar 2) (eCall F_law_take (aCons (eVar 0) (aCons (eCallB cnLen (aCons (eVar 2) aNil)) aNil)))) (.nm 4)) sNop)
  (r_law_check_4 F_law_line F_law_take))))
/-- _law_fails: 0 check, 1 tree, 2 rows, 3 entry, 4 k, 5 lines, 6 row, 7 here, 8 bad -/
def b_law_fails_1 : SS := (sEx (eBm "list" mExtend (eVar 2) (aCons (eLc (iRange1 (aCons (eCallB cnLen (aCons (eBin opIx (eVar 3) (eC (.int 1))) aNil)) aNil)) (.nm 4) cYes (eTup (aCons (eBin opIx (eVar 3) (eC (.int 0))) (aCons (eVar 4) (aCons (eBin opIx (eBin opIx (eVar 3) (eC (.int 1))) (eVar 4)) aNil)))) [4]) aNil)))
def r_law_fails_2 : SS := (sRet (eBin opIx (eBin opAdd (eVar 8) (eLst (aCons (eC .non) aNil))) (eC (.int 0))))
def t_law_fails : SS := (sSeq (sAsg (eLst aNil) (.nm 2))
  (sSeq (sFor (iSeq (eVar 1)) (.nm 3) (b_law_fails_1))
  (sSeq (sAsg (eLc (iSeq (eVar 2)) (.nm 6) cYes (eBin opIx (eVar 6) (eC (.int 2))) [6]) (.nm 5))
  (sSeq (sIf (cB (eBin opEq (eBin opIx (eVar 0) (eC (.int 0))) (eC (.str "has")))) (sSeq (sAsg (eLc (iSeq (eVar 2)) (.nm 6) (cB (eBin opEq (eBin opIx (eVar 6) (eC (.int 0))) (eBin opIx (eVar 0) (eC (.int 1))))) (eBin opIx (eVar 6) (eC (.int 2))) [6]) (.nm 7))
  (sRet (eBin opIx (eLst (aCons (eTup (aCons (eBin opIx (eVar 0) (eC (.int 1))) (aCons (eCallB cnLen (aCons (eVar 7) aNil)) aNil))) (aCons (eC .non) aNil))) (eCallB cnInt (aCons (eBin opIn (eBin opIx (eVar 0) (eC (.int 2))) (eVar 7)) aNil))))) sNop)
  (sSeq (sIf (cB (eBin opEq (eBin opIx (eVar 0) (eC (.int 0))) (eC (.str "lacks")))) (sAsg (eLc (iSeq (eVar 2)) (.nm 6) (cAnd (cB (eBin opEq (eBin opIx (eVar 6) (eC (.int 0))) (eBin opIx (eVar 0) (eC (.int 1))))) (cB (eBin opEq (eBin opIx (eVar 6) (eC (.int 2))) (eBin opIx (eVar 0) (eC (.int 2)))))) (eSl (eVar 6) oNo (oSome (eC (.int 2)))) [6]) (.nm 8)) (sIf (cB (eBin opEq (eBin opIx (eVar 0) (eC (.int 0))) (eC (.str "most")))) (sAsg (eSl (eLc (iSeq (eVar 2)) (.nm 6) (cB (eBin opIn (eBin opIx (eVar 0) (eC (.int 1))) (eBin opIx (eVar 6) (eC (.int 2))))) (eSl (eVar 6) oNo (oSome (eC (.int 2)))) [6]) (oSome (eBin opIx (eVar 0) (eC (.int 2)))) oNo) (.nm 8)) (sAsg (eLc (iSeq (eVar 2)) (.nm 6) (cAnd (cB (eBin opEq (eBin opIx (eVar 6) (eC (.int 2))) (eBin opIx (eVar 0) (eC (.int 1))))) (cB (eBin opNotIn (eBin opIx (eVar 0) (eC (.int 2))) (eVar 5)))) (eSl (eVar 6) oNo (oSome (eC (.int 2)))) [6]) (.nm 8))))
  (r_law_fails_2))))))
/-- _law_red: 0 checks, 1 tree, 2 k, 3 spot -/
def b_law_red_1 (F_law_fails : Fn) : SS := (sSeq (sAsg (eCall F_law_fails (aCons (eBin opIx (eVar 0) (eVar 2)) (aCons (eVar 1) aNil))) (.nm 3))
  (sIf (cB (eBin opIsNot (eVar 3) (eC .non))) (sRet (eTup (aCons (eVar 2) (aCons (eVar 3) aNil)))) sNop))
def t_law_red (F_law_fails : Fn) : SS := (sSeq (sFor (iRange1 (aCons (eCallB cnLen (aCons (eVar 0) aNil)) aNil)) (.nm 2) (b_law_red_1 F_law_fails))
  (sRet (eC .non)))
/-- _law_same: 0 actual, 1 due, 2 k -/
def b_law_same_1 (F_law_same : Fn) : SS := (sIf (cNot (cT (eCall F_law_same (aCons (eBin opIx (eVar 0) (eVar 2)) (aCons (eBin opIx (eVar 1) (eVar 2)) aNil))))) (sRet (eC (.bl false))) sNop)
def t_law_same (F_law_same : Fn) : SS := (sSeq (sIf (cT (eIsi "tuple" (eVar 1))) (sSeq (sIf (cOr (cNot (cT (eIsi "tuple" (eVar 0)))) (cB (eBin opNe (eCallB cnLen (aCons (eVar 0) aNil)) (eCallB cnLen (aCons (eVar 1) aNil))))) (sRet (eC (.bl false))) sNop)
  (sSeq (sFor (iRange1 (aCons (eCallB cnLen (aCons (eVar 1) aNil)) aNil)) (.nm 2) (b_law_same_1 F_law_same))
  (sRet (eC (.bl true))))) sNop)
  (sSeq (sIf (cB (eBin opIs (eVar 1) (eC .non))) (sRet (eBin opIs (eVar 0) (eC .non))) sNop)
  (sSeq (sIf (cT (eIsi "bool" (eVar 1))) (sRet (eAnd (eIsi "bool" (eVar 0)) (eBin opEq (eVar 0) (eVar 1)))) sNop)
  (sSeq (sIf (cT (eIsi "int" (eVar 1))) (sRet (eAnd (eIsi "int" (eVar 0)) (eAnd (eNot (eIsi "bool" (eVar 0))) (eBin opEq (eVar 0) (eVar 1))))) sNop)
  (sRet (eAnd (eIsi "str" (eVar 0)) (eBin opEq (eVar 0) (eVar 1))))))))
/-- _law_due: 0 reds, 1 low, 2 high, 3 looks, 4 k, 5 middle -/
def b_law_due_v13_1 : SS := (sIf (cB (eBin opGt (eBin opSub (eVar 2) (eVar 1)) (eC (.int 1)))) (sSeq (sAsg (eBin opDiv (eBin opAdd (eVar 1) (eVar 2)) (eC (.int 2))) (.nm 5))
  (sSeq (sAsg (eBin opAdd (eVar 3) (eTup (aCons (eVar 5) aNil))) (.nm 3))
  (sIf (cB (eBin opIs (eBin opIx (eVar 0) (eVar 5)) (eC .non))) (sAsg (eVar 5) (.nm 1)) (sAsg (eVar 5) (.nm 2))))) sNop)
def t_law_due_v13 : SS := (sSeq (sIf (cB (eBin opIsNot (eBin opIx (eVar 0) (eC (.int 0))) (eC .non))) (sRet (eTup (aCons (eC (.str "NotGreen")) (aCons (eBin opIx (eBin opIx (eVar 0) (eC (.int 0))) (eC (.int 0))) aNil)))) sNop)
  (sSeq (sIf (cB (eBin opIs (eBin opIx (eVar 0) (eUn opNeg (eC (.int 1)))) (eC .non))) (sRet (eTup (aCons (eC (.str "NotRed")) aNil))) sNop)
  (sSeq (sAsg (eC (.int 0)) (.nm 1))
  (sSeq (sAsg (eBin opSub (eCallB cnLen (aCons (eVar 0) aNil)) (eC (.int 1))) (.nm 2))
  (sSeq (sAsg (eTup aNil) (.nm 3))
  (sSeq (sFor (iRange1 (aCons (eC (.int 9)) aNil)) (.nm 4) (b_law_due_v13_1))
  (sRet (eTup (aCons (eC (.str "back")) (aCons (eTup (aCons (eVar 1) (aCons (eVar 3) aNil))) aNil))))))))))
/-- hunk_end: 0 hunk -/
def t_hunk_end : SS := (sRet (eBin opAdd (eBin opIx (eVar 0) (eC (.int 0))) (eCallB cnLen (aCons (eBin opIx (eVar 0) (eC (.int 1))) aNil))))
/-- misfit: 0 edit, 1 text, 2 index, 3 hunk -/
def b_misfit_1 (F_hunk_end : Fn) : SS := (sIf (cOr (cB (eBin opGt (eCall F_hunk_end (aCons (eVar 3) aNil)) (eCallB cnLen (aCons (eVar 1) aNil)))) (cB (eBin opNe (eSl (eVar 1) (oSome (eBin opIx (eVar 3) (eC (.int 0)))) (oSome (eCall F_hunk_end (aCons (eVar 3) aNil)))) (eBin opIx (eVar 3) (eC (.int 1)))))) (sRet (eVar 2)) sNop)
def t_misfit (F_hunk_end : Fn) : SS := (sSeq (sFor (iEnum1 (aCons (eVar 0) aNil)) (.tp [.nm 2, .nm 3]) (b_misfit_1 F_hunk_end))
  (sRet (eC .non)))
/-- text_at: 0 tree, 1 path, 2 other, 3 text -/
def b_text_at_1 : SS := (sIf (cB (eBin opEq (eVar 2) (eVar 1))) (sRet (eVar 3)) sNop)
def t_text_at : SS := (sSeq (sFor (iSeq (eVar 0)) (.tp [.nm 2, .nm 3]) (b_text_at_1))
  (sRet (eTup aNil)))
/-- patch_misfit: 0 patch, 1 tree, 2 path, 3 edit, 4 wrong -/
def b_patch_misfit_1 (F_misfit F_text_at : Fn) : SS := (sSeq (sAsg (eCall F_misfit (aCons (eVar 3) (aCons (eCall F_text_at (aCons (eVar 1) (aCons (eVar 2) aNil))) aNil))) (.nm 4))
  (sIf (cB (eBin opIsNot (eVar 4) (eC .non))) (sRet (eTup (aCons (eVar 2) (aCons (eVar 4) aNil)))) sNop))
def t_patch_misfit (F_misfit F_text_at : Fn) : SS := (sSeq (sFor (iSeq (eVar 0)) (.tp [.nm 2, .nm 3]) (b_patch_misfit_1 F_misfit F_text_at))
  (sRet (eC .non)))
/-- put_text: 0 tree, 1 path, 2 text, 3 entries, 4 entry -/
def r_put_text_1 : SS := (sRet (eCallB cnTuple (aCons (eCallB cnSorted (aCons (eVar 3) aNil)) aNil)))
def t_put_text : SS := (sSeq (sAsg (eLc (iSeq (eVar 0)) (.nm 4) (cB (eBin opNe (eBin opIx (eVar 4) (eC (.int 0))) (eVar 1))) (eVar 4) [4]) (.nm 3))
  (sSeq (sIf (cB (eBin opNe (eVar 2) (eTup aNil))) (sEx (eBm "list" mAppend (eVar 3) (aCons (eTup (aCons (eVar 1) (aCons (eVar 2) aNil))) aNil))) sNop)
  (r_put_text_1)))
/-- apply_edit: 0 edit, 1 text, 2 wrong, 3 result, 4 done, 5 hunk -/
def b_apply_edit_1 (F_misfit F_hunk_end : Fn) : SS := (sSeq (sEx (eBm "list" mExtend (eVar 3) (aCons (eSl (eVar 1) (oSome (eVar 4)) (oSome (eBin opIx (eVar 5) (eC (.int 0))))) aNil)))
  (sSeq (sEx (eBm "list" mExtend (eVar 3) (aCons (eBin opIx (eVar 5) (eC (.int 2))) aNil)))
  (sAsg (eCall F_hunk_end (aCons (eVar 5) aNil)) (.nm 4))))
def t_apply_edit (F_misfit F_hunk_end : Fn) : SS := (sSeq (sAsg (eCall F_misfit (aCons (eVar 0) (aCons (eVar 1) aNil))) (.nm 2))
  (sSeq (sIf (cB (eBin opIsNot (eVar 2) (eC .non))) (sRaise "Misfit" ["path", "hunk"] (aCons (eC (.str "")) (aCons (eVar 2) aNil))) sNop)
  (sSeq (sAsg (eLst aNil) (.nm 3))
  (sSeq (sAsg (eC (.int 0)) (.nm 4))
  (sSeq (sFor (iSeq (eVar 0)) (.nm 5) (b_apply_edit_1 F_misfit F_hunk_end))
  (sSeq (sEx (eBm "list" mExtend (eVar 3) (aCons (eSl (eVar 1) (oSome (eVar 4)) oNo) aNil)))
  (sRet (eCallB cnTuple (aCons (eVar 3) aNil)))))))))
/-- apply_patch: 0 patch, 1 tree, 2 wrong, 3 result, 4 path, 5 edit -/
def b_apply_patch_1 (F_patch_misfit F_put_text F_apply_edit F_text_at : Fn) : SS := (sAsg (eCall F_put_text (aCons (eVar 3) (aCons (eVar 4) (aCons (eCall F_apply_edit (aCons (eVar 5) (aCons (eCall F_text_at (aCons (eVar 1) (aCons (eVar 4) aNil))) aNil))) aNil)))) (.nm 3))
def t_apply_patch (F_patch_misfit F_put_text F_apply_edit F_text_at : Fn) : SS := (sSeq (sAsg (eCall F_patch_misfit (aCons (eVar 0) (aCons (eVar 1) aNil))) (.nm 2))
  (sSeq (sIf (cB (eBin opIsNot (eVar 2) (eC .non))) (sRaise "Misfit" ["path", "hunk"] (aCons (eBin opIx (eVar 2) (eC (.int 0))) (aCons (eBin opIx (eVar 2) (eC (.int 1))) aNil))) sNop)
  (sSeq (sAsg (eVar 1) (.nm 3))
  (sSeq (sFor (iSeq (eVar 0)) (.tp [.nm 4, .nm 5]) (b_apply_patch_1 F_patch_misfit F_put_text F_apply_edit F_text_at))
  (sRet (eVar 3))))))
/-- trees_along: 0 tree, 1 changes, 2 found, 3 change -/
def b_trees_along_1 (F_apply_patch : Fn) : SS := (sEx (eBm "list" mAppend (eVar 2) (aCons (eCall F_apply_patch (aCons (eBin opIx (eVar 3) (eC (.int 2))) (aCons (eBin opIx (eVar 2) (eUn opNeg (eC (.int 1)))) aNil))) aNil)))
def t_trees_along (F_apply_patch : Fn) : SS := (sSeq (sAsg (eLst (aCons (eVar 0) aNil)) (.nm 2))
  (sSeq (sFor (iSeq (eVar 1)) (.nm 3) (b_trees_along_1 F_apply_patch))
  (sRet (eCallB cnTuple (aCons (eVar 2) aNil)))))
/-- fails_has: 0 path, 1 line, 2 tree, 3 text -/
def t_fails_has (F_text_at : Fn) : SS := (sSeq (sAsg (eCall F_text_at (aCons (eVar 2) (aCons (eVar 0) aNil))) (.nm 3))
  (sSeq (sIf (cB (eBin opIn (eVar 1) (eVar 3))) (sRet (eC .non)) sNop)
  (sRet (eTup (aCons (eVar 0) (aCons (eCallB cnLen (aCons (eVar 3) aNil)) aNil))))))
/-- places: 0 text, 1 line, 2 index, 3 other -/
def t_places : SS := (sRet (eCallB cnTuple (aCons (eLc (iEnum1 (aCons (eVar 0) aNil)) (.tp [.nm 2, .nm 3]) (cB (eBin opEq (eVar 3) (eVar 1))) (eVar 2) [2, 3]) aNil)))
/-- fails_lacks: 0 path, 1 line, 2 tree, 3 found -/
def t_fails_lacks (F_places F_text_at : Fn) : SS := (sSeq (sAsg (eCall F_places (aCons (eCall F_text_at (aCons (eVar 2) (aCons (eVar 0) aNil))) (aCons (eVar 1) aNil))) (.nm 3))
  (sSeq (sIf (cB (eBin opEq (eVar 3) (eTup aNil))) (sRet (eC .non)) sNop)
  (sRet (eTup (aCons (eVar 0) (aCons (eBin opIx (eVar 3) (eC (.int 0))) aNil))))))
/-- lines_with: 0 text, 1 word, 2 index, 3 line -/
def t_lines_with : SS := (sRet (eCallB cnTuple (aCons (eLc (iEnum1 (aCons (eVar 0) aNil)) (.tp [.nm 2, .nm 3]) (cB (eBin opIn (eVar 1) (eVar 3))) (eVar 2) [2, 3]) aNil)))
/-- word_places: 0 tree, 1 word, 2 found, 3 path, 4 text, 5 index -/
def b_word_places_1 (F_lines_with : Fn) : SS := (sEx (eBm "list" mExtend (eVar 2) (aCons (eLc (iSeq (eCall F_lines_with (aCons (eVar 4) (aCons (eVar 1) aNil)))) (.nm 5) cYes (eTup (aCons (eVar 3) (aCons (eVar 5) aNil))) [5]) aNil)))
def t_word_places (F_lines_with : Fn) : SS := (sSeq (sAsg (eLst aNil) (.nm 2))
  (sSeq (sFor (iSeq (eVar 0)) (.tp [.nm 3, .nm 4]) (b_word_places_1 F_lines_with))
  (sRet (eCallB cnTuple (aCons (eVar 2) aNil)))))
/-- fails_most: 0 word, 1 count, 2 tree, 3 found -/
def t_fails_most (F_word_places : Fn) : SS := (sSeq (sAsg (eCall F_word_places (aCons (eVar 2) (aCons (eVar 0) aNil))) (.nm 3))
  (sSeq (sIf (cB (eBin opLe (eCallB cnLen (aCons (eVar 3) aNil)) (eVar 1))) (sRet (eC .non)) sNop)
  (sRet (eBin opIx (eVar 3) (eVar 1)))))
/-- line_places: 0 tree, 1 line, 2 found, 3 path, 4 text, 5 index -/
def b_line_places_1 (F_places : Fn) : SS := (sEx (eBm "list" mExtend (eVar 2) (aCons (eLc (iSeq (eCall F_places (aCons (eVar 4) (aCons (eVar 1) aNil)))) (.nm 5) cYes (eTup (aCons (eVar 3) (aCons (eVar 5) aNil))) [5]) aNil)))
def t_line_places (F_places : Fn) : SS := (sSeq (sAsg (eLst aNil) (.nm 2))
  (sSeq (sFor (iSeq (eVar 0)) (.tp [.nm 3, .nm 4]) (b_line_places_1 F_places))
  (sRet (eCallB cnTuple (aCons (eVar 2) aNil)))))
/-- fails_ties: 0 first, 1 second, 2 tree, 3 found -/
def t_fails_ties (F_line_places : Fn) : SS := (sSeq (sAsg (eCall F_line_places (aCons (eVar 2) (aCons (eVar 0) aNil))) (.nm 3))
  (sSeq (sIf (cOr (cB (eBin opEq (eVar 3) (eTup aNil))) (cB (eBin opNe (eCall F_line_places (aCons (eVar 2) (aCons (eVar 1) aNil))) (eTup aNil)))) (sRet (eC .non)) sNop)
  (sRet (eBin opIx (eVar 3) (eC (.int 0))))))
/-- check_failure: 0 check, 1 tree -/
def t_check_failure (F_fails_has F_fails_lacks F_fails_most F_fails_ties : Fn) : SS := (sSeq (sIf (cB (eBin opEq (eBin opIx (eVar 0) (eC (.int 0))) (eC (.str "has")))) (sRet (eCall F_fails_has (aCons (eBin opIx (eVar 0) (eC (.int 1))) (aCons (eBin opIx (eVar 0) (eC (.int 2))) (aCons (eVar 1) aNil))))) sNop)
  (sSeq (sIf (cB (eBin opEq (eBin opIx (eVar 0) (eC (.int 0))) (eC (.str "lacks")))) (sRet (eCall F_fails_lacks (aCons (eBin opIx (eVar 0) (eC (.int 1))) (aCons (eBin opIx (eVar 0) (eC (.int 2))) (aCons (eVar 1) aNil))))) sNop)
  (sSeq (sIf (cB (eBin opEq (eBin opIx (eVar 0) (eC (.int 0))) (eC (.str "most")))) (sRet (eCall F_fails_most (aCons (eBin opIx (eVar 0) (eC (.int 1))) (aCons (eBin opIx (eVar 0) (eC (.int 2))) (aCons (eVar 1) aNil))))) sNop)
  (sRet (eCall F_fails_ties (aCons (eBin opIx (eVar 0) (eC (.int 1))) (aCons (eBin opIx (eVar 0) (eC (.int 2))) (aCons (eVar 1) aNil))))))))
/-- first_red: 0 checks, 1 tree, 2 index, 3 check, 4 place -/
def b_first_red_1 (F_check_failure : Fn) : SS := (sSeq (sAsg (eCall F_check_failure (aCons (eVar 3) (aCons (eVar 1) aNil))) (.nm 4))
  (sIf (cB (eBin opIsNot (eVar 4) (eC .non))) (sRet (eTup (aCons (eVar 2) (aCons (eVar 4) aNil)))) sNop))
def t_first_red (F_check_failure : Fn) : SS := (sSeq (sFor (iEnum1 (aCons (eVar 0) aNil)) (.tp [.nm 2, .nm 3]) (b_first_red_1 F_check_failure))
  (sRet (eC .non)))
/-- green: 0 checks, 1 tree -/
def t_green (F_first_red : Fn) : SS := (sRet (eBin opIs (eCall F_first_red (aCons (eVar 0) (aCons (eVar 1) aNil))) (eC .non)))
/-- culprit: 0 tree, 1 changes, 2 checks, 3 trees, 4 red, 5 low, 6 high, 7 looks, 8 middle -/
def b_culprit_1 (F_trees_along F_first_red F_green : Fn) : SS := (sSeq (sAsg (eBin opDiv (eBin opAdd (eVar 5) (eVar 6)) (eC (.int 2))) (.nm 8))
  (sSeq (sEx (eBm "list" mAppend (eVar 7) (aCons (eVar 8) aNil)))
  (sIf (cT (eCall F_green (aCons (eVar 2) (aCons (eBin opIx (eVar 3) (eVar 8)) aNil)))) (sAsg (eVar 8) (.nm 5)) (sAsg (eVar 8) (.nm 6)))))
def t_culprit (F_trees_along F_first_red F_green : Fn) : SS := (sSeq (sAsg (eCall F_trees_along (aCons (eVar 0) (aCons (eVar 1) aNil))) (.nm 3))
  (sSeq (sAsg (eCall F_first_red (aCons (eVar 2) (aCons (eBin opIx (eVar 3) (eC (.int 0))) aNil))) (.nm 4))
  (sSeq (sIf (cB (eBin opIsNot (eVar 4) (eC .non))) (sRaise "NotGreen" ["check"] (aCons (eBin opIx (eVar 4) (eC (.int 0))) aNil)) sNop)
  (sSeq (sIf (cT (eCall F_green (aCons (eVar 2) (aCons (eBin opIx (eVar 3) (eUn opNeg (eC (.int 1)))) aNil)))) (sRaise "NotRed" [] aNil) sNop)
  (sSeq (sAsg (eC (.int 0)) (.nm 5))
  (sSeq (sAsg (eCallB cnLen (aCons (eVar 1) aNil)) (.nm 6))
  (sSeq (sAsg (eLst aNil) (.nm 7))
  (sSeq (sWhile (cB (eBin opGt (eBin opSub (eVar 6) (eVar 5)) (eC (.int 1)))) (b_culprit_1 F_trees_along F_first_red F_green))
  (sRet (eTup (aCons (eVar 5) (aCons (eCallB cnTuple (aCons (eVar 7) aNil)) aNil))))))))))))
/-- _law_told: 0 tree, 1 changes, 2 checks, 3 e -/
def t_law_told_v12 (F_culprit : Fn) : SS := (sSeq (sTryG [⟨some 3, Tb_ReviewError, fun x => (sSeq (sIf (cAnd (cT (eIsE x Tb_NotGreen)) (cNot (cT (eIsE x Tb_NotRed)))) (sRet (eTup (aCons (eC (.str "NotGreen")) (aCons (eFld x "check") aNil)))) sNop)
  (sIf (cAnd (cT (eIsE x Tb_NotRed)) (cNot (cT (eIsE x Tb_NotGreen)))) (sRet (eTup (aCons (eC (.str "NotRed")) aNil))) sNop))⟩] (sRet (eTup (aCons (eC (.str "back")) (aCons (eCall F_culprit (aCons (eVar 0) (aCons (eVar 1) (aCons (eVar 2) aNil)))) aNil)))))
  (sRet (eTup (aCons (eC (.str "wrong")) aNil))))
/-- is_whole: 0 value -/
def t_is_whole : SS := (sRet (eAnd (eIsi "int" (eVar 0)) (eNot (eIsi "bool" (eVar 0)))))
/-- is_index: 0 value, 1 count -/
def t_is_index (F_is_whole : Fn) : SS := (sRet (eAnd (eCall F_is_whole (aCons (eVar 0) aNil)) (eChain opLe opLt (eC (.int 0)) (eVar 0) (eVar 1))))
/-- is_culprit: 0 tree, 1 changes, 2 checks, 3 value, 4 trees -/
def t_is_culprit (F_is_index F_trees_along F_green : Fn) : SS := (sSeq (sIf (cNot (cT (eCall F_is_index (aCons (eVar 3) (aCons (eCallB cnLen (aCons (eVar 1) aNil)) aNil))))) (sRet (eC (.bl false))) sNop)
  (sSeq (sAsg (eCall F_trees_along (aCons (eVar 0) (aCons (eVar 1) aNil))) (.nm 4))
  (sRet (eAnd (eCall F_green (aCons (eVar 2) (aCons (eBin opIx (eVar 4) (eVar 3)) aNil))) (eNot (eCall F_green (aCons (eVar 2) (aCons (eBin opIx (eVar 4) (eBin opAdd (eVar 3) (eC (.int 1)))) aNil))))))))
/-- law: 0 script, 1 bag, 2 wide, 3 paths, 4 tree, 5 many, 6 names, 7 changes, 8 trees, 9 spots, 10 checks, 11 k, 12 check, 13 reds, 14 one, 15 value, 16 turns -/
def b_law_1 (F_law_bag F_law_take F_law_paths F_law_base F_law_names F_law_changes F_law_along F_law_spots F_law_check F_law_fails F_law_red F_law_same F_law_due_v13 F_law_told_v12 F_is_culprit : Fn) : SS := (sSeq (sAsg (eAnd (eBin opLe (eC (.int 0)) (eVar 15)) (eAnd (eBin opLt (eVar 15) (eVar 5)) (eAnd (eBin opIs (eBin opIx (eVar 13) (eVar 15)) (eC .non)) (eBin opIsNot (eBin opIx (eVar 13) (eBin opAdd (eVar 15) (eC (.int 1)))) (eC .non))))) (.nm 16))
  (sIf (cNot (cT (eCall F_law_same (aCons (eCall F_is_culprit (aCons (eVar 4) (aCons (eVar 7) (aCons (eVar 10) (aCons (eVar 15) aNil))))) (aCons (eVar 16) aNil))))) (sRet (eC (.bl false))) sNop))
def b_law_2 (F_law_bag F_law_take F_law_paths F_law_base F_law_names F_law_changes F_law_along F_law_spots F_law_check F_law_fails F_law_red F_law_same F_law_due_v13 F_law_told_v12 F_is_culprit : Fn) : SS := (sIf (cB (eBin opIsNot (eCall F_is_culprit (aCons (eVar 4) (aCons (eVar 7) (aCons (eVar 10) (aCons (eVar 15) aNil))))) (eC (.bl false)))) (sRet (eC (.bl false))) sNop)
def r_law_3 (F_law_bag F_law_take F_law_paths F_law_base F_law_names F_law_changes F_law_along F_law_spots F_law_check F_law_fails F_law_red F_law_same F_law_due_v13 F_law_told_v12 F_is_culprit : Fn) : SS := (sSeq (sAsg (eCallB cnTuple (aCons (eVar 10) aNil)) (.nm 10))
  (sSeq (sAsg (eLc (iSeq (eVar 8)) (.nm 14) cYes (eCall F_law_red (aCons (eVar 10) (aCons (eVar 14) aNil))) [14]) (.nm 13))
  (sSeq (sIf (cNot (cT (eCall F_law_same (aCons (eCall F_law_told_v12 (aCons (eVar 4) (aCons (eVar 7) (aCons (eVar 10) aNil)))) (aCons (eCall F_law_due_v13 (aCons (eVar 13) aNil)) aNil))))) (sRet (eC (.bl false))) sNop)
  (sSeq (sFor (iRange2 (aCons (eUn opNeg (eC (.int 2))) (aCons (eBin opAdd (eVar 5) (eC (.int 2))) aNil))) (.nm 15) (b_law_1 F_law_bag F_law_take F_law_paths F_law_base F_law_names F_law_changes F_law_along F_law_spots F_law_check F_law_fails F_law_red F_law_same F_law_due_v13 F_law_told_v12 F_is_culprit))
  (sSeq (sFor (iSeq (eLst (aCons (eC .non) (aCons (eC (.bl true)) (aCons (eC (.bl false)) (aCons (eC (.str "")) (aCons (eC (.str "0")) (aCons (eTup aNil) (aCons (eTup (aCons (eC (.int 0)) aNil)) (aCons (eTup (aCons (eTup (aCons (eC (.int 0)) aNil)) (aCons (eC (.str "a")) aNil))) aNil)))))))))) (.nm 15) (b_law_2 F_law_bag F_law_take F_law_paths F_law_base F_law_names F_law_changes F_law_along F_law_spots F_law_check F_law_fails F_law_red F_law_same F_law_due_v13 F_law_told_v12 F_is_culprit))
  (sRet (eC (.bl true))))))))
def r_law_4 (F_law_bag F_law_take F_law_paths F_law_base F_law_names F_law_changes F_law_along F_law_spots F_law_check F_law_fails F_law_red F_law_same F_law_due_v13 F_law_told_v12 F_is_culprit : Fn) : SS := (sSeq (sAsg (eSl (eCall F_law_names (aCons (eVar 1) (aCons (eC (.int 8)) aNil))) oNo (oSome (eVar 5))) (.nm 6))
  (sSeq (sAsg (eCall F_law_changes (aCons (eVar 1) (aCons (eVar 4) (aCons (eVar 3) (aCons (eVar 6) (aCons (eLst (aCons (eC (.str "ann")) aNil)) (aCons (eVar 2) aNil))))))) (.nm 7))
  (sSeq (sAsg (eCall F_law_along (aCons (eVar 4) (aCons (eVar 7) aNil))) (.nm 8))
  (sSeq (sAsg (eCall F_law_spots (aCons (eVar 8) aNil)) (.nm 9))
  (sSeq (sAsg (eLc (iRange1 (aCons (eCall F_law_take (aCons (eVar 1) (aCons (eC (.int 7)) aNil))) aNil)) (.nm 11) cYes (eCall F_law_check (aCons (eVar 1) (aCons (eVar 3) (aCons (eVar 9) (aCons (eVar 2) aNil))))) [11]) (.nm 10))
  (sSeq (sIf (cB (eBin opGt (eCall F_law_take (aCons (eVar 1) (aCons (eC (.int 4)) aNil))) (eC (.int 0)))) (sAsg (eLc (iSeq (eVar 10)) (.nm 12) (cB (eBin opIs (eCall F_law_fails (aCons (eVar 12) (aCons (eVar 4) aNil))) (eC .non))) (eVar 12) [12]) (.nm 10)) sNop)
  (r_law_3 F_law_bag F_law_take F_law_paths F_law_base F_law_names F_law_changes F_law_along F_law_spots F_law_check F_law_fails F_law_red F_law_same F_law_due_v13 F_law_told_v12 F_is_culprit)))))))
def t_law (F_law_bag F_law_take F_law_paths F_law_base F_law_names F_law_changes F_law_along F_law_spots F_law_check F_law_fails F_law_red F_law_same F_law_due_v13 F_law_told_v12 F_is_culprit : Fn) : SS := (sSeq (sAsg (eCall F_law_bag (aCons (eVar 0) aNil)) (.nm 1))
  (sSeq (sAsg (eCall F_law_take (aCons (eVar 1) (aCons (eC (.int 2)) aNil))) (.nm 2))
  (sSeq (sAsg (eCall F_law_paths (aCons (eVar 1) (aCons (eBin opAdd (eC (.int 1)) (eCall F_law_take (aCons (eVar 1) (aCons (eC (.int 3)) aNil)))) aNil))) (.nm 3))
  (sSeq (sAsg (eCall F_law_base (aCons (eVar 1) (aCons (eVar 3) (aCons (eVar 2) aNil)))) (.nm 4))
  (sSeq (sAsg (eCall F_law_take (aCons (eVar 1) (aCons (eC (.int 7)) aNil))) (.nm 5))
  (sSeq (sIf (cB (eBin opEq (eCall F_law_take (aCons (eVar 1) (aCons (eC (.int 8)) aNil))) (eC (.int 3)))) (sAsg (eC (.int 8)) (.nm 5)) sNop)
  (r_law_4 F_law_bag F_law_take F_law_paths F_law_base F_law_names F_law_changes F_law_along F_law_spots F_law_check F_law_fails F_law_red F_law_same F_law_due_v13 F_law_told_v12 F_is_culprit)))))))
def F_law_bag : Fn := bodyF 4 (t_law_bag)
def F_law_take : Fn := bodyF 3 (t_law_take)
def F_law_paths : Fn := bodyF 4 (t_law_paths F_law_take)
def F_law_line : Fn := bodyF 5 (t_law_line F_law_take)
def F_law_base : Fn := bodyF 7 (t_law_base F_law_take F_law_line)
def F_law_names : Fn := bodyF 7 (t_law_names F_law_take)
def F_law_edit : Fn := bodyF 11 (t_law_edit F_law_take F_law_line)
def F_law_text : Fn := bodyF 3 (t_law_text)
def F_law_patch : Fn := bodyF 6 (t_law_patch F_law_take F_law_edit F_law_text)
def F_law_put : Fn := bodyF 5 (t_law_put)
def F_law_apply : Fn := bodyF 5 (t_law_apply F_law_text F_law_put)
def F_law_changes : Fn := bodyF 9 (t_law_changes F_law_patch F_law_apply F_law_take)
def F_law_along : Fn := bodyF 4 (t_law_along F_law_apply)
def F_law_spots : Fn := bodyF 5 (t_law_spots)
def F_law_check : Fn := bodyF 8 (t_law_check F_law_line F_law_take)
def F_law_fails : Fn := bodyF 9 (t_law_fails)
def F_law_red : Fn := bodyF 4 (t_law_red F_law_fails)
def R_law_same : Nat → Fn
  | 0 => fun _ _ _ _ => False
  | r + 1 => bodyF 3 (t_law_same (R_law_same r))
def F_law_same : Fn := R_law_same 6
def F_law_due_v13 : Fn := bodyF 6 (t_law_due_v13)
def F_hunk_end : Fn := bodyF 1 (t_hunk_end)
def F_misfit : Fn := bodyF 4 (t_misfit F_hunk_end)
def F_text_at : Fn := bodyF 4 (t_text_at)
def F_patch_misfit : Fn := bodyF 5 (t_patch_misfit F_misfit F_text_at)
def F_put_text : Fn := bodyF 5 (t_put_text)
def F_apply_edit : Fn := bodyF 6 (t_apply_edit F_misfit F_hunk_end)
def F_apply_patch : Fn := bodyF 6 (t_apply_patch F_patch_misfit F_put_text F_apply_edit F_text_at)
def F_trees_along : Fn := bodyF 4 (t_trees_along F_apply_patch)
def F_fails_has : Fn := bodyF 4 (t_fails_has F_text_at)
def F_places : Fn := bodyF 4 (t_places)
def F_fails_lacks : Fn := bodyF 4 (t_fails_lacks F_places F_text_at)
def F_lines_with : Fn := bodyF 4 (t_lines_with)
def F_word_places : Fn := bodyF 6 (t_word_places F_lines_with)
def F_fails_most : Fn := bodyF 4 (t_fails_most F_word_places)
def F_line_places : Fn := bodyF 6 (t_line_places F_places)
def F_fails_ties : Fn := bodyF 4 (t_fails_ties F_line_places)
def F_check_failure : Fn := bodyF 2 (t_check_failure F_fails_has F_fails_lacks F_fails_most F_fails_ties)
def F_first_red : Fn := bodyF 5 (t_first_red F_check_failure)
def F_green : Fn := bodyF 2 (t_green F_first_red)
def F_culprit : Fn := bodyF 9 (t_culprit F_trees_along F_first_red F_green)
def F_law_told_v12 : Fn := bodyF 4 (t_law_told_v12 F_culprit)
def F_is_whole : Fn := bodyF 1 (t_is_whole)
def F_is_index : Fn := bodyF 2 (t_is_index F_is_whole)
def F_is_culprit : Fn := bodyF 5 (t_is_culprit F_is_index F_trees_along F_green)
def F_law : Fn := bodyF 17 (t_law F_law_bag F_law_take F_law_paths F_law_base F_law_names F_law_changes F_law_along F_law_spots F_law_check F_law_fails F_law_red F_law_same F_law_due_v13 F_law_told_v12 F_is_culprit)
end SG

set_option maxHeartbeats 1000000
namespace SG
open PySem PySem.Spec L2 DN
/-! ### the bags of the laws k52 to k73: the bag at n, its cells at m -/
def Bg (M : Mem) (n m : Nat) : Prop := ∃ (ns : List Int) (s c : Int), mlst M n = some [.int s, .int c, .ref m] ∧ mlst M m = some (ns.map D.int) ∧ m ≠ n
section
variable {M M' : Mem} {n m : Nat} {S : List Nat}
theorem Bg.ltn (h : Bg M n m) : n < M.length := by obtain ⟨_, _, _, h, _⟩ := h; exact mlst_lt h
theorem Bg.ltm (h : Bg M n m) : m < M.length := by obtain ⟨_, _, _, _, h, _⟩ := h; exact mlst_lt h
theorem Bg.fr (h : Bg M n m) (f : Fr S M M') (hn : n ∉ S := by simp) (hm : m ∉ S := by simp) : Bg M' n m := by
  obtain ⟨ns, s, c, h1, h2, h3⟩ := h
  exact ⟨ns, s, c, f.lst h1 hn, f.lst h2 hm, h3⟩
theorem Bg.app (h : Bg M n m) {L : Mem} : Bg (M ++ L) n m := h.fr (Fr.app (S := []))
theorem Bg.set (h : Bg M n m) {j : Nat} {o : O} (hn : j ≠ n) (hm : j ≠ m) : Bg (M.set j o) n m := by
  obtain ⟨ns, s, c, h1, h2, h3⟩ := h
  exact ⟨ns, s, c, mlst_setne h1 hn, mlst_setne h2 hm, h3⟩
theorem Bg.ne (h : Bg M n m) {j : Nat} (hj : M.length ≤ j) : j ≠ n ∧ j ≠ m := ⟨by have := h.ltn; omega, by have := h.ltm; omega⟩
/-- a cell made behind the bag is no cell of it -/
theorem Bg.nin (h : Bg M n m) {j : Nat} (hj : M.length ≤ j) : j ∉ [n, m] := by
  obtain ⟨a, b⟩ := h.ne hj
  simp [a, b]
end
theorem log_le {c : Int} (h0 : 0 < c) (h1 : c < 2 ^ 64) : c.natAbs.log2 < 9000 := by
  have : c.natAbs < 2 ^ 64 := by omega
  exact Nat.lt_of_lt_of_le ((Nat.log2_lt (by omega)).mpr this) (by decide)
theorem w_take {n m : Nat} {c : Int} {M R Ex} (h : Bg M n m) (hc : 0 < c) (hc2 : c < 2 ^ 64) (k : ∀ x M', 0 ≤ x → x < c → Bg M' n m → Fr [n, m] M M' → R (.int x) M') : F_law_take [.ref n, .int c] M R Ex := by
  obtain ⟨ns, s, cu, h1, h2, h3⟩ := h
  have hn := mlst_lt h1
  have hm := mlst_lt h2
  have r1 : ∀ (x2 : Option D) (M' : Mem), Bg M' n m → Fr [n, m] M M' → r_law_take_1 { nx := fun _ M1 => R .non M1, rt := R, bk := fun _ _ => False, ct := fun _ _ => False, ex := fun x _ M1 => Ex x M1 } [some (.ref n), some (.int c), x2] M' := by
    intro x2 M' hb f
    obtain ⟨ns, s, cu, h1, h2, h3⟩ := hb
    have hn := mlst_lt h1
    conv => whnf
    rw [lstAt_of h1]
    refine ⟨hc, ?_⟩
    conv => whnf
    rw [lstAt_of h1]
    refine ⟨hc, log_le hc hc2, ?_⟩
    conv => whnf
    rw [h1]
    exact k _ _ (Int.emod_nonneg _ (by omega)) (Int.emod_lt_of_pos _ hc) ⟨ns, s, _, mlst_set hn, mlst_setne h2 h3.symm, h3⟩ (f.set (.inl (by simp)))
  conv => whnf
  rw [lstAt_of h1]
  conv => whnf
  rw [eqI]
  refine bm (fun e => ?_) (fun e => ?_)
  · conv => whnf
    rw [lstAt_of h1]
    conv => whnf
    rw [lstAt_of h2]
    conv => whnf
    rw [eqI]
    refine bm (fun e2 => ?_) (fun e2 => ?_)
    · conv => whnf
      rw [lstAt_of h1]
      refine ⟨mul_r (by decide), by decide, ?_⟩
      conv => whnf
      rw [h1]
      conv => whnf
      rw [lstAt_of (mlst_set hn)]
      refine ⟨by decide, by decide +kernel, hc, ?_⟩
      exact k _ _ (Int.emod_nonneg _ (by omega)) (Int.emod_lt_of_pos _ hc) ⟨ns, _, cu, mlst_set hn, mlst_setne h2 h3.symm, h3⟩ (Fr.refl.set (.inl (by simp)))
    · have e2 : ¬ ((ns.map D.int).length : Int) = 0 := of_decide_eq_false e2
      cases ns with
      | nil => simp at e2
      | cons z r =>
        conv => whnf
        rw [lstAt_of h1]
        conv => whnf
        rw [eqI, e]
        conv => whnf
        rw [lstAt_of h1]
        refine ⟨rcv_lst h2, ?_⟩
        conv => whnf
        rw [h2]
        refine ⟨by decide, ?_⟩
        have hs : seqIndex? 0 ((z :: r).map D.int).length = some 0 := by
          unfold seqIndex?
          simp
        conv => whnf
        rw [hs]
        have h1' : mlst (M.set m (.lst (r.map D.int))) n = some [.int s, .int cu, .ref m] := mlst_setne h1 h3
        conv => whnf
        rw [show mlst (M.set m (O.lst (((z :: r).map D.int).eraseIdx 0))) n = some [.int s, .int cu, .ref m] from h1']
        refine r1 _ _ ⟨r, s, z, mlst_set (by simpa using hn), ?_, h3⟩ ((Fr.refl.set (.inl (by simp))).set (.inl (by simp)))
        exact mlst_setne (mlst_set (xs := r.map D.int) hm) h3.symm
  · conv => whnf
    rw [lstAt_of h1]
    conv => whnf
    rw [eqI, e]
    exact r1 _ M ⟨ns, s, cu, h1, h2, h3⟩ Fr.refl
theorem w_law_bag {ns : List Int} {M R Ex} (hl : ns.length ≤ 63) (k : ∀ M' n m, M.length ≤ n → M.length ≤ m → Bg M' n m → Fr [] M M' → R (.ref n) M') : F_law_bag [.con (ns.map D.int)] M R Ex := by
  have hc : ∃ as : List Int, cutL (ns.map D.int) none (some 63) = as.map D.int ∧ as.length ≤ 63 := by
    refine ⟨cutL ns none (some 63), ?_, ?_⟩
    · unfold cutL; rw [List.length_map, ← List.map_drop, ← List.map_take]
    · unfold cutL; simp only [List.length_take, List.length_drop]; omega
  obtain ⟨as, ea, la⟩ := hc
  conv => whnf
  rw [ea, lstAt_of mlst_new]
  refine forL_map D.int (fun r ρ M' => (∃ (s : Int) (x : Option D), ρ = [some (.con (ns.map D.int)), some (.int s), x, none]) ∧ M' = M ++ [O.lst (as.map D.int)]) (fun _ _ M' h => by rw [h.2]; exact lstAt_of mlst_new) ?_ ?_ _ _ _ ⟨⟨17, _, rfl⟩, rfl⟩
  · rintro z r ρ M1 Kn ⟨⟨s, x, rfl⟩, rfl⟩ hK
    refine ⟨_, rfl, mul_r (by decide), by decide, by decide, ?_⟩
    exact hK _ _ ⟨⟨_, _, rfl⟩, rfl⟩
  · rintro ρ M1 ⟨⟨s, x, rfl⟩, rfl⟩
    refine ⟨sz rfl, ?_⟩
    have last : ∀ (cl : Nat) (cs : List Int) (M' : Mem), M.length ≤ cl → mlst M' cl = some (cs.map D.int) → Fr [] M M' → r_law_bag_2 { nx := fun _ M1 => R .non M1, rt := R, bk := fun _ _ => False, ct := fun _ _ => False, ex := fun x _ M1 => Ex x M1 } [some (.con (ns.map D.int)), some (.int s), x, some (.ref cl)] M' := by
      intro cl cs M' hcl hm f
      refine ⟨sz rfl, ?_⟩
      refine k _ M'.length cl f.le hcl ⟨cs, s, 0, mlst_new, (Fr.app (S := [])).lst hm, by have := mlst_lt hm; omega⟩ (f.tr Fr.app)
    have f0 : Fr [] M (M ++ [O.lst (as.map D.int)] ++ [O.lst []]) := Fr.app.tr Fr.app
    have l0 := last (M ++ [O.lst (as.map D.int)]).length [] (M ++ [O.lst (as.map D.int)] ++ [O.lst []]) (by simp) mlst_new f0
    conv => whnf
    refine bm (fun e => ?_) (fun e => ?_)
    · have e : (0 : Int) < ((ns.map D.int).length : Int) := of_decide_eq_true e
      cases ns with
      | nil => simp at e
      | cons z t =>
        conv => whnf
        rw [show atI (List.map D.int (z :: t)) 0 = some (.int z) from atI_get (j := 0) rfl rfl]
        refine ⟨⟨by decide, by decide, by decide⟩, ?_⟩
        conv => whnf
        refine bm (fun e2 => ?_) (fun e2 => ?_)
        · conv => whnf
          rw [ea, lstAt_of mlst_new]
          refine lcL_pure D.int (fun _ => true) (fun z => .int (if z < 0 then -z else z)) (by simp) as (fun M' f => ?_) (fun x M2 Kt Kf hx fr hT hF => ?_) (acc := []) mlst_new (Nat.le_trans (show 0 + as.length ≤ 100 by omega) (by decide)) (fun M' fr hm => ?_)
          · refine lstAt_of (f.lst (mlst_of ?_) (by simp))
            rw [List.getElem?_append_left (by simp)]
            exact mlst_lst mlst_new
          · exact ⟨_, rfl, hT rfl _ Fr.refl⟩
          · have ft : as.filter (fun _ => true) = as := List.filter_eq_self.mpr fun _ _ => rfl
            rw [ft] at hm
            exact last _ (as.map fun z => if z < 0 then -z else z) M' (by simp only [List.length_append]; omega) (by rw [hm, List.map_map]; rfl) ((f0.tr (Fr.app.tr Fr.app)).trans fr fun i hi hl => by simp only [List.mem_cons, List.not_mem_nil, or_false] at hi; subst hi; simp only [List.length_append] at hl; omega)
        · exact l0
    · exact l0
/-! ### lines -/
theorem pickI {xs : List Int} {x : Int} (h0 : 0 ≤ x) (h1 : x < xs.length) : ∃ c ∈ xs, atI (xs.map D.int) x = some (.int c) := by
  obtain ⟨d, hd, a1⟩ := pick_D (xs := xs.map D.int) h0 (by rw [List.length_map]; exact h1)
  obtain ⟨c, hc, rfl⟩ := List.mem_map.mp hd
  exact ⟨c, hc, a1⟩
theorem pickS {xs : List Str} {x : Int} (h0 : 0 ≤ x) (h1 : x < xs.length) : ∃ c ∈ xs, atI (xs.map D.str) x = some (.str c) := by
  obtain ⟨d, hd, a1⟩ := pick_D (xs := xs.map D.str) h0 (by rw [List.length_map]; exact h1)
  obtain ⟨c, hc, rfl⟩ := List.mem_map.mp hd
  exact ⟨c, hc, a1⟩
theorem signs_ix {z : Str} {i : Int} (h0 : 0 ≤ i) (h1 : i < z.cps.toList.length) (h : z.cps.toList.all okc = true) : ∃ c, atI z.cps.toList i = some c ∧ okc c = true := by
  obtain ⟨c, e, e2⟩ := atI_int h0 h1
  exact ⟨c, e, List.all_eq_true.mp h c (List.mem_of_getElem? e2)⟩
theorem strs_of {acc : List D} (h1 : ∀ d ∈ acc, ∃ c, d = .str ⟨#[c]⟩ ∧ okc c = true) : ∃ ys, strsD acc = some ys ∧ ((ys.map (·.length)).sum = acc.length ∧ ys.length = acc.length) ∧ ∀ y ∈ ys, ∃ c, y = ⟨#[c]⟩ ∧ okc c = true := by
  induction acc with
  | nil => exact ⟨[], rfl, ⟨rfl, rfl⟩, fun _ h => by simp at h⟩
  | cons a r ih =>
    obtain ⟨ys, e1, ⟨e2, e3⟩, e4⟩ := ih fun d hd => h1 d (by simp [hd])
    obtain ⟨c, rfl, hc⟩ := h1 a (by simp)
    refine ⟨⟨#[c]⟩ :: ys, by simp [strsD, e1], ⟨?_, by simp [e3]⟩, fun y hy => ?_⟩
    · have : (⟨#[c]⟩ : Str).length = 1 := rfl
      simp [e2, this]; omega
    · rcases List.mem_cons.mp hy with rfl | hy
      · exact ⟨c, rfl, hc⟩
      · exact e4 y hy
theorem w_line_restD {n m : Nat} {wd : Int} {z : Str} {size : Int} {x : Option D} {M : Mem} {R : KD} {De : SD} (hR : De.rt = R) (h : Bg M n m) (hz : z.length = 94) (ho : z.cps.toList.all okc = true) (h0 : 0 ≤ size) (h1 : size ≤ 40) (k : ∀ x M', okl x = true → Bg M' n m → Fr [n, m] M M' → R (.str x) M') :
    r_law_line_1 F_law_take De [some (.ref n), some (.int wd), some (.str z), some (.int size), x] M := by
  unfold r_law_line_1
  have w1 := @w_take; obtain ⟨Fw1, qw1⟩ := op F_law_take; rw [← qw1] at w1 ⊢; clear qw1
  subst hR
  conv => whnf
  refine ⟨rfl, by omega, by omega, ?_⟩
  have hne := h.ne (Nat.le_refl _)
  have hz2 : z.cps.toList.length = 94 := by simpa [Str.length] using hz
  refine lcL_inv (fun i M' => ∃ acc, mlst M' M.length = some acc ∧ acc.length = i ∧ (∀ d ∈ acc, ∃ c, d = .str ⟨#[c]⟩ ∧ okc c = true) ∧ Bg M' n m ∧ Fr [n, m] M M') _ (fun _ _ _ => trivial) ?_ ?_ _ ⟨[], mlst_new, rfl, fun _ h => by simp at h, h.app, Fr.app⟩
  · rintro i d M2 Kc hd ⟨acc, hm, hl, hg, p2, f3⟩ hK
    obtain ⟨hi, rfl⟩ := rngD_get hd
    refine ⟨_, rfl, ?_⟩
    refine w1 p2 (by decide) (by decide) fun x M3 x0 x1 p3 f4 => ?_
    refine ⟨by rw [hz]; decide, ?_⟩
    obtain ⟨c, ec, hc⟩ := signs_ix (z := z) x0 (by rw [hz2]; omega) ho
    have m3 := f4.lst hm (by simp [hne])
    conv => whnf
    rw [ec]
    conv => whnf
    rw [m3]
    refine ⟨Nat.lt_of_lt_of_le (show acc.length < 41 by omega) (by decide), hK _ ⟨_, mlst_set (mlst_lt m3), by simp [hl], ?_, p3.set hne.1 hne.2, (f3.tr f4).set (.inr (Nat.le_refl _))⟩⟩
    intro d hd
    rcases List.mem_append.mp hd with hd | hd
    · exact hg d hd
    · simp at hd; subst hd; exact ⟨c, rfl, hc⟩
  · rintro M2 ⟨acc, hm, hl, hg, p2, f3⟩
    rw [rngD_len] at hl
    conv => whnf
    rw [lstAt_of hm]
    conv => whnf
    obtain ⟨ys, ey, el, ez⟩ := strs_of hg
    rw [show (some acc).bind strsD = some ys from ey]
    refine ⟨?_, k _ _ (okl_join ez (by omega)) p2 f3⟩
    rw [el.1, el.2]
    show acc.length + acc.length * 0 ≤ 16777216
    omega
theorem w_law_line {n m : Nat} {wd : Int} {M R Ex} (h : Bg M n m) (k : ∀ x M', okl x = true → Bg M' n m → Fr [n, m] M M' → R (.str x) M') : F_law_line [.ref n, .int wd] M R Ex := by
  have wr := @w_line_restD
  unfold F_law_line t_law_line
  obtain ⟨RR, qR⟩ : ∃ RR, RR = r_law_line_1 F_law_take := ⟨_, rfl⟩
  rw [← qR] at wr ⊢; clear qR
  have w1 := @w_take; obtain ⟨Fw1, qw1⟩ := op F_law_take; rw [← qw1] at w1 ⊢; clear qw1
  conv => whnf
  rw [eqI]
  refine bm (fun e => ?_) (fun e => ?_)
  · refine ⟨sz rfl, ?_⟩
    refine w1 h.app (by decide) (by decide) fun x M1 x0 x1 p1 f1 => ?_
    obtain ⟨y, hy, a1⟩ := pickS (xs := ["a", "b", "", "ab", "c"]) x0 x1
    conv => whnf
    rw [lstAt_of (f1.lst mlst_new (h.nin (Nat.le_refl _)))]
    conv => whnf
    rw [show atI [D.str "a", .str "b", .str "", .str "ab", .str "c"] x = some (.str y) from a1]
    refine k y _ ?_ p1 (Fr.app.tr f1)
    simp at hy
    rcases hy with rfl | rfl | rfl | rfl | rfl <;> decide +kernel
  · refine w1 h (by decide) (by decide) fun x M1 x0 x1 p1 f1 => ?_
    refine w1 p1 (by decide) (by decide) fun y M2 y0 y1 p2 f2 => ?_
    conv => whnf
    rw [eqI]
    refine bm (fun e2 => ?_) (fun e2 => ?_)
    · refine w1 p2 (by decide) (by decide) fun z M3 z0 z1 p3 f3 => ?_
      exact wr rfl p3 (by decide +kernel) (by decide +kernel) z0 (by omega) fun x M' hx p f => k x M' hx p (f1.tr (f2.tr (f3.tr f)))
    · exact wr rfl p2 (by decide +kernel) (by decide +kernel) x0 (by omega) fun x M' hx p f => k x M' hx p (f1.tr (f2.tr f))
end SG

set_option maxHeartbeats 1000000
namespace SG
open PySem PySem.Spec L2 DN
/-- plain values, not too deep, not too long -/
def sm : Nat → D → Prop
  | 0, _ => False
  | r + 1, .tup xs => xs.length ≤ 1000000 ∧ ∀ x ∈ xs, sm r x
  | _ + 1, .str x => x.length ≤ 1000000
  | _ + 1, .ref _ => False
  | _ + 1, .con _ => False
  | _ + 1, _ => True
theorem sm_up : ∀ {r : Nat} {d : D}, sm r d → sm (r + 1) d
  | 0, _, h => h.elim
  | r + 1, d, h => by
    cases d with
    | tup xs => exact ⟨h.1, fun x hx => sm_up (h.2 x hx)⟩
    | _ => exact h
theorem sm_le {r s : Nat} {d : D} (h : sm r d) (l : r ≤ s) : sm s d := by
  induction l with
  | refl => exact h
  | step _ ih => exact sm_up ih
theorem sm_fit : ∀ {r : Nat} {d : D}, sm r d → fit r d
  | 0, _, h => h.elim
  | r + 1, d, h => by
    cases d with
    | tup xs => exact ⟨by have := h.1; omega, fun x hx => sm_fit (h.2 x hx)⟩
    | ref _ => exact h.elim
    | con _ => exact h.elim
    | _ => trivial
theorem lenS : (1000000 : Nat) ≤ sizeLine := by decide
/-! ### loops over data -/
theorem forL_l {ok : Mem → Prop} {tg : Tg} {b : SS} {De : SD} (I : List D → DN.Env → Mem → Prop) (hok : ∀ r ρ M, I r ρ M → ok M)
    (h1 : ∀ x r ρ M (Kn : DN.Env → Mem → Prop), I (x :: r) ρ M → (∀ ρ M, I r ρ M → Kn ρ M) → ∃ ρ1, asgD tg x ρ = some ρ1 ∧ b (De.lp Kn) ρ1 M)
    (h0 : ∀ ρ M, I [] ρ M → De.nx ρ M) (xs : List D) (ρ : DN.Env) (M : Mem) (h : I xs ρ M) : forL ok tg b De xs ρ M := by
  have := forL_map (ok := ok) (tg := tg) (b := b) (De := De) id I hok h1 h0 xs ρ M h
  rwa [List.map_id] at this
theorem forL_e {ok : Mem → Prop} {tg : Tg} {b : SS} {De : SD} (I : List D → List D → DN.Env → Mem → Prop) (hok : ∀ p r ρ M, I p r ρ M → ok M)
    (h1 : ∀ p x r ρ M (Kn : DN.Env → Mem → Prop), I p (x :: r) ρ M → (∀ ρ M, I (p ++ [x]) r ρ M → Kn ρ M) → ∃ ρ1, asgD tg (.tup [.int p.length, x]) ρ = some ρ1 ∧ b (De.lp Kn) ρ1 M)
    (h0 : ∀ p ρ M, I p [] ρ M → De.nx ρ M) (xs : List D) (ρ : DN.Env) (M : Mem) (h : I [] xs ρ M) : forL ok tg b De (enumD 0 xs) ρ M := by
  have := forL_en (ok := ok) (tg := tg) (b := b) (De := De) id I hok h1 h0 xs ρ M h
  rwa [List.map_id] at this
/-- and, or as values -/
theorem tm {b : Bool} {M : Mem} {A B : Prop} (h1 : b = true → A) (h2 : b = false → B) : (match tru (.bl b) M with | some true => A | some false => B | none => False) := by cases b <;> simp_all [tru]
theorem ft {α : Type} (l : List α) : l.filter (fun _ => true) = l := List.filter_eq_self.mpr fun _ _ => rfl
/-! ### kinds -/
def wholeD : D → Bool | .int _ => true | _ => false
def tupB : D → Bool | .tup _ => true | _ => false
def isStr : D → Bool | .str _ => true | _ => false
def lineD : D → Bool | .str x => okl x | _ => false
def textD : D → Bool | .tup xs => xs.all lineD | _ => false
def hunkD : D → Bool
  | .tup [.int s, .tup a, .tup b] => decide (0 ≤ s) && a.all lineD && b.all lineD && !eqL a b
  | _ => false
theorem hunkD_b {s : Int} {b c : D} (e : textD b = false) : hunkD (.tup [.int s, b, c]) = false := by
  cases b <;> first | rfl | skip
  cases c <;> first | rfl | skip
  rename_i b c
  have e : b.all lineD = false := e
  show (decide (0 ≤ s) && b.all lineD && c.all lineD && !eqL b c) = false
  rw [e, Bool.and_false]; rfl
theorem hunkD_c {s : Int} {b c : D} (e : textD c = false) : hunkD (.tup [.int s, b, c]) = false := by
  cases b <;> first | rfl | skip
  cases c <;> first | rfl | skip
  rename_i b c
  have e : c.all lineD = false := e
  show (decide (0 ≤ s) && b.all lineD && c.all lineD && !eqL b c) = false
  rw [e, Bool.and_false]; rfl
theorem hunkD_s {s : Int} {b c : D} (e : s < 0) : hunkD (.tup [.int s, b, c]) = false := by
  cases b <;> first | rfl | skip
  cases c <;> first | rfl | skip
  rename_i b c
  show (decide (0 ≤ s) && b.all lineD && c.all lineD && !eqL b c) = false
  rw [decide_eq_false (by omega)]; rfl
theorem all_okt {xs : List D} : xs.all lineD = true ↔ okt xs = true := by
  induction xs with
  | nil => simp [okt]
  | cons x r ih => cases x <;> simp_all [okt, lineD]
theorem w_is_whole {r : Nat} {d : D} {M R Ex} (h : sm (r + 1) d) (k : R (.bl (wholeD d)) M) : F_is_whole [d] M R Ex := by
  cases d <;> first | exact k | exact h.elim
end SG

set_option maxHeartbeats 1000000
namespace SG
open PySem PySem.Spec L2 DN
/-! ### edits of the program -/
def fitsB (t : List D) (h : Hk) : Bool := decide (h.e ≤ t.length) && eqL (cut t h.s.toNat h.e.toNat) h.o
def mis (t : List D) (hs : List Hk) : Option Nat := hs.findIdx? fun h => !fitsB t h
def misD (t : List D) (hs : List Hk) : D := match mis t hs with | some i => .int i | none => .non
theorem mis_nil {t : List D} : mis t [] = none := rfl
theorem mis_cons {t : List D} {h : Hk} {r : List Hk} : mis t (h :: r) = if fitsB t h = true then (mis t r).map (· + 1) else some 0 := by
  unfold mis
  rw [List.findIdx?_cons]
  cases e : fitsB t h <;> simp
theorem mis_none {t : List D} : ∀ {hs : List Hk}, mis t hs = none → ∀ h ∈ hs, fitsB t h = true := by
  intro hs e h hh
  unfold mis at e
  rw [List.findIdx?_eq_none_iff] at e
  simpa using e h hh
theorem none_mis {t : List D} {hs : List Hk} (e : ∀ h ∈ hs, fitsB t h = true) : mis t hs = none := by
  unfold mis
  rw [List.findIdx?_eq_none_iff]
  intro h hh
  simp [e h hh]
theorem fitsB_iff {t : List D} {h : Hk} (ht : txs t = true) (ho : txs h.o = true) : fitsB t h = true ↔ (h.e ≤ t.length ∧ cut t h.s.toNat h.e.toNat = h.o) := by
  have hc : txs (cut t h.s.toNat h.e.toNat) = true := txs_take (txs_drop ht)
  unfold fitsB
  rw [Bool.and_eq_true, decide_eq_true_eq, txs_eq hc ho]
/-- a hunk's parts are texts, its start is no negative number -/
def Hk.ok (h : Hk) : Prop := 0 ≤ h.s ∧ txs h.o = true ∧ txs h.n = true
theorem w_hunk_end {h : Hk} {M R Ex} (k : R (.int h.e) M) : F_hunk_end [h.d] M R Ex := k
theorem w_misfit {t : List D} {hs : List Hk} {M R Ex} (ht : txs t = true) (hh : ∀ h ∈ hs, Hk.ok h) (k : R (misD t hs) M) : F_misfit [.tup (hs.map Hk.d), .tup t] M R Ex := by
  unfold F_misfit
  have w1 := @w_hunk_end; obtain ⟨Fw1, qw1⟩ := op F_hunk_end; rw [← qw1] at w1 ⊢; clear qw1
  refine forL_en Hk.d (fun p r ρ M' => (∃ x y, ρ = [some (.tup (hs.map Hk.d)), some (.tup t), x, y]) ∧ M' = M ∧ mis t hs = (mis t r).map (· + p.length) ∧ ∀ h ∈ r, Hk.ok h) (fun _ _ _ _ _ => trivial) ?_ ?_ _ _ _ ⟨⟨_, _, rfl⟩, rfl, by simp, hh⟩
  · rintro p h r ρ M1 Kn ⟨⟨x, y, rfl⟩, rfl, hm, hr⟩ hK
    obtain ⟨h0, ho, hn⟩ := hr h (by simp)
    refine ⟨_, rfl, ?_⟩
    rw [mis_cons] at hm
    have se := h.se
    have bad : fitsB t h = false → R (.int p.length) M1 := fun e => by
      rw [e, if_neg (by simp)] at hm
      unfold misD at k
      rw [hm] at k
      simpa using k
    refine w1 ?_
    conv => whnf
    refine bm (fun e => ?_) (fun e => ?_)
    · refine bad ?_
      unfold fitsB
      have := of_decide_eq_true e
      rw [decide_eq_false (by omega)]; rfl
    · have e : ¬ (t.length : Int) < h.e := of_decide_eq_false e
      refine w1 ?_
      conv => whnf
      rw [cutL_int h0 (by omega) (by omega)]
      have hc : txs (cut t h.s.toNat h.e.toNat) = true := txs_take (txs_drop ht)
      rw [pyM_txs hc, pyM_txs ho]
      refine ⟨dep_txs hc, ?_⟩
      rw [eqv_tup (txs_norefs hc) (txs_norefs ho)]
      conv => whnf
      cases e2 : eqL (cut t h.s.toNat h.e.toNat) h.o with
      | false =>
        refine bad ?_
        unfold fitsB
        rw [e2, Bool.and_false]
      | true =>
        have ef : fitsB t h = true := by unfold fitsB; rw [e2, decide_eq_true (by omega)]; rfl
        rw [ef, if_pos rfl] at hm
        exact hK _ _ ⟨⟨_, _, rfl⟩, rfl, by rw [hm]; cases mis t r <;> simp; omega, fun z hz => hr z (by simp [hz])⟩
  · rintro p ρ M1 ⟨⟨x, y, rfl⟩, rfl, hm, _⟩
    unfold misD at k
    rw [hm] at k
    exact k
theorem w_apply_edit {t : List D} {hs : List Hk} {M R Ex} (ht : txs t = true) (hh : ∀ h ∈ hs, Hk.ok h) (hl : mis t hs = none → (ap t 0 hs).length ≤ 1000000) (k0 : mis t hs = none → ∀ M', Fr [] M M' → R (.tup (ap t 0 hs)) M')
    (k1 : ∀ i : Nat, mis t hs = some i → Ex ⟨"Misfit", ["path", "hunk"], [.str "", .int i]⟩ M) : F_apply_edit [.tup (hs.map Hk.d), .tup t] M R Ex := by
  unfold F_apply_edit
  have w1 := @w_hunk_end; obtain ⟨Fw1, qw1⟩ := op F_hunk_end; rw [← qw1] at w1 ⊢; clear qw1
  have w2 := @w_misfit; obtain ⟨Fw2, qw2⟩ := op F_misfit; rw [← qw2] at w2 ⊢; clear qw2
  refine w2 ht hh ?_
  unfold misD
  cases em : mis t hs with
  | some i => exact k1 i em
  | none =>
    have k0 := k0 em
    have hl := hl em
    have hf := mis_none em
    conv => whnf
    refine ⟨sz rfl, ?_⟩
    refine forL_map Hk.d (fun r ρ M' => ∃ (acc : List D) (x : Option D) (d : Int), ρ = [some (.tup (hs.map Hk.d)), some (.tup t), some .non, some (.ref M.length), some (.int d), x] ∧ Fr [] M M' ∧ mlst M' M.length = some acc ∧ acc ++ ap t d r = ap t 0 hs ∧ 0 ≤ d ∧ ∀ h ∈ r, h ∈ hs) (fun _ _ _ _ => trivial) ?_ ?_ _ _ _ ⟨[], _, 0, rfl, Fr.app, mlst_new, rfl, by omega, fun h hh => hh⟩
    · rintro h r ρ M1 Kn ⟨acc, x, d, rfl, fr, hm, ha, hd, hr⟩ hK
      have hin := hr h (by simp)
      obtain ⟨h0, ho, hn⟩ := hh h hin
      obtain ⟨f1, f2⟩ := (fitsB_iff ht ho).mp (hf h hin)
      have se := h.se
      have len := congrArg List.length ha
      simp only [ap, List.length_append] at len
      have sl : (16777216 : Nat) ≤ sizeLine := by decide
      refine ⟨_, rfl, rcv_lst hm, ?_⟩
      conv => whnf
      rw [cutL_int hd h0 (by omega)]
      rw [hm]
      refine ⟨by omega, ?_⟩
      have hm2 := mlst_set (xs := acc ++ cut t d.toNat h.s.toNat) (mlst_lt hm)
      refine ⟨rcv_lst hm2, ?_⟩
      conv => whnf
      rw [hm2]
      refine ⟨by rw [List.length_append]; omega, ?_⟩
      refine w1 ?_
      have hm3 := mlst_set (xs := acc ++ cut t d.toNat h.s.toNat ++ h.n) (mlst_lt hm2)
      exact hK _ _ ⟨_, _, _, rfl, (fr.set (.inr (Nat.le_refl _))).set (.inr (Nat.le_refl _)), hm3, by rw [← ha]; simp [ap], by omega, fun z hz => hr z (by simp [hz])⟩
    · rintro ρ M1 ⟨acc, x, d, rfl, fr, hm, ha, hd, hr⟩
      refine ⟨rcv_lst hm, ?_⟩
      have hcd : cutL t (some d) none = t.drop d.toNat := by
        unfold cutL
        rw [sIx_lo hd]
        have : HT.sIx t.length t.length none = t.length := rfl
        rw [this, List.take_of_length_le (by simp)]
        by_cases hx : d.toNat ≤ t.length
        · rw [Nat.min_eq_left hx]
        · rw [Nat.min_eq_right (by omega), List.drop_eq_nil_of_le (Nat.le_refl _), List.drop_eq_nil_of_le (by omega)]
      have ha : acc ++ t.drop d.toNat = ap t 0 hs := ha
      have len := congrArg List.length ha
      simp only [List.length_append] at len
      have sl : (16777216 : Nat) ≤ sizeLine := by decide
      conv => whnf
      rw [hcd, hm]
      refine ⟨by omega, ?_⟩
      have hm2 := mlst_set (xs := acc ++ t.drop d.toNat) (mlst_lt hm)
      refine cnTuple_ok hm2 ?_
      rw [ha]
      exact k0 _ (fr.set (.inr (Nat.le_refl _)))
/-! ### starts and inverses -/
def sts (g : Int) : List Hk → List Int
  | [] => []
  | h :: r => (h.s + g) :: sts (g + h.g) r
def inv (g : Int) : List Hk → List Hk
  | [] => []
  | h :: r => ⟨h.s + g, h.n, h.o⟩ :: inv (g + h.g) r
theorem sts_len : ∀ {hs : List Hk} {g : Int}, (sts g hs).length = hs.length
  | [], _ => rfl
  | h :: r, g => by simp [sts, sts_len (hs := r)]
theorem inv_len : ∀ {hs : List Hk} {g : Int}, (inv g hs).length = hs.length
  | [], _ => rfl
  | h :: r, g => by simp [inv, inv_len (hs := r)]
theorem inv_get : ∀ {hs : List Hk} {g : Int} {i : Nat} {h : Hk} {s : Int}, hs[i]? = some h → (sts g hs)[i]? = some s → (inv g hs)[i]? = some ⟨s, h.n, h.o⟩
  | x :: r, g, 0, h, s, e1, e2 => by simp [sts, inv] at e1 e2 ⊢; simp [e1] at e2 ⊢; rw [e1] at *; simp [e2]
  | x :: r, g, i + 1, h, s, e1, e2 => by simp [sts, inv] at e1 e2 ⊢; exact inv_get e1 e2
end SG

set_option maxHeartbeats 1000000
namespace SG
open PySem PySem.Spec L2 DN
theorem strIn_one (z : Str) (c : Nat) : strIn ⟨#[c]⟩ z = decide (c ∈ z.cps.toList) := PySem.StrLaws.found_one z c
/-! ### the first wrong hunk -/
theorem hunkD_out {d : D} (h : hunkD d = true) : ∃ x : Hk, d = x.d ∧ 0 ≤ x.s ∧ okt x.o = true ∧ okt x.n = true := by
  unfold hunkD at h
  split at h
  · rename_i s a b
    simp only [Bool.and_eq_true, decide_eq_true_eq] at h
    exact ⟨⟨s, a, b⟩, rfl, h.1.1.1, all_okt.mp h.1.1.2, all_okt.mp h.1.2⟩
  · cases h
def stD : D → Int | .tup (.int s :: _) => s | _ => 0
def enD : D → Int | .tup [.int s, .tup a, _] => s + a.length | _ => 0
def wrongL : Int → List D → Option Nat
  | _, [] => none
  | e, x :: r => if hunkD x = true ∧ e < stD x then (wrongL (enD x) r).map (· + 1) else some 0
def wrongD (xs : List D) : D := match wrongL (-1) xs with | some i => .int i | none => .non
def editD : D → Bool | .tup xs => (wrongL (-1) xs).isNone | _ => false
end SG

set_option maxHeartbeats 1000000
namespace SG
open PySem PySem.Spec L2 DN
/-! ### texts cut at a sign -/
def spl (c : Nat) : List Nat → List (List Nat)
  | [] => [[]]
  | x :: r => if x = c then [] :: spl c r else match spl c r with
    | [] => [[x]]
    | p :: ps => (x :: p) :: ps
def joinL (c : Nat) : List (List Nat) → List Nat
  | [] => []
  | [p] => p
  | p :: q :: r => p ++ c :: joinL c (q :: r)
theorem spl_ne (c : Nat) : ∀ l, spl c l ≠ []
  | [] => by simp [spl]
  | x :: r => by
    unfold spl
    split
    · simp
    · split <;> simp
theorem spl_free {c : Nat} : ∀ {p : List Nat}, c ∉ p → spl c p = [p]
  | [], _ => rfl
  | x :: r, h => by
    have hx : ¬ x = c := fun e => h (by simp [e])
    have ih := spl_free (c := c) (p := r) fun z => h (by simp [z])
    unfold spl
    rw [if_neg hx, ih]
theorem spl_app {c : Nat} {rest : List Nat} : ∀ {p : List Nat}, c ∉ p → spl c (p ++ c :: rest) = p :: spl c rest
  | [], _ => by simp [spl]
  | x :: r, h => by
    have hx : ¬ x = c := fun e => h (by simp [e])
    have ih := spl_app (c := c) (rest := rest) (p := r) fun z => h (by simp [z])
    rw [List.cons_append]
    show (if x = c then [] :: spl c (r ++ c :: rest) else match spl c (r ++ c :: rest) with | [] => [[x]] | p :: ps => (x :: p) :: ps) = _
    rw [if_neg hx, ih]
theorem spl_join {c : Nat} : ∀ {ps : List (List Nat)}, ps ≠ [] → (∀ p ∈ ps, c ∉ p) → spl c (joinL c ps) = ps
  | [], h, _ => absurd rfl h
  | [p], _, h => spl_free (h p (by simp))
  | p :: q :: r, _, h => by
    show spl c (p ++ c :: joinL c (q :: r)) = _
    rw [spl_app (h p (by simp)), spl_join (by simp) fun x hx => h x (List.mem_cons_of_mem _ hx)]
theorem join_one (c : Nat) : ∀ ys : List Str, (Str.join ⟨#[c]⟩ ys).cps.toList = joinL c (ys.map (·.cps.toList))
  | [] => rfl
  | [y] => rfl
  | y :: z :: r => by
    have ih := join_one c (z :: r)
    show (y ++ (⟨#[c]⟩ : Str) ++ Str.join ⟨#[c]⟩ (z :: r)).cps.toList = _
    rw [toL_app, toL_app, ih]
    simp [joinL]
/-- what str.split of a single sign gives -/
theorem split_one (x : Str) (c : Nat) : (Txt.split x ⟨#[c]⟩).map (·.cps.toList) = spl c x.cps.toList := by
  have hj : Str.join ⟨#[c]⟩ (Txt.split x ⟨#[c]⟩) = x := StrLaws.join_split x ⟨#[c]⟩
  have hf := StrLaws.split_free x c
  have hp := PyProof.Rows.split_pos x ⟨#[c]⟩
  have e := join_one c (Txt.split x ⟨#[c]⟩)
  rw [hj] at e
  rw [e]
  refine (spl_join ?_ ?_).symm
  · intro z
    have := congrArg List.length z
    simp at this
    rw [this] at hp
    simp at hp
  · intro p hp
    obtain ⟨y, hy, rfl⟩ := List.mem_map.mp hp
    exact hf y hy
theorem str_toL {x y : Str} (h : x.cps.toList = y.cps.toList) : x = y := Str.ext' (Array.toList_inj.mp h)
theorem toL_inj {xs ys : List Str} (h : xs.map (·.cps.toList) = ys.map (·.cps.toList)) : xs = ys := by
  induction xs generalizing ys with
  | nil => cases ys with
    | nil => rfl
    | cons _ _ => simp at h
  | cons x r ih =>
    cases ys with
    | nil => simp at h
    | cons y t =>
      simp only [List.map_cons, List.cons.injEq] at h
      rw [str_toL h.1, ih h.2]
end SG

set_option maxHeartbeats 1000000
namespace SG
open PySem PySem.Spec L2 DN
/-! ### texts -/
theorem enumD_get : ∀ {xs : List D} {c : Int} {j : Nat} {d : D}, (enumD c xs)[j]? = some d → ∃ x, xs[j]? = some x ∧ d = .tup [.int (c + (j : Nat)), x]
  | [], c, j, d, h => by simp [enumD] at h
  | x :: r, c, 0, d, h => by simp [enumD] at h; exact ⟨x, rfl, by simp [h]⟩
  | x :: r, c, j + 1, d, h => by
    simp only [enumD, List.getElem?_cons_succ] at h
    obtain ⟨y, e1, e2⟩ := enumD_get h
    refine ⟨y, by simpa using e1, ?_⟩
    rw [e2]
    simp only [D.tup.injEq, List.cons.injEq, D.int.injEq, and_true]
    omega
/-- the first item that is no line -/
def wrT (xs : List D) : Option Nat := xs.findIdx? fun x => !lineD x
theorem wrT_cons {x : D} {r : List D} : wrT (x :: r) = if lineD x = true then (wrT r).map (· + 1) else some 0 := by
  unfold wrT
  rw [List.findIdx?_cons]
  cases lineD x <;> simp
def wrTD (xs : List D) : D := match wrT xs with | some i => .int i | none => .non
/-! ### places -/
def idxs (p : D → Bool) : Int → List D → List D
  | _, [] => []
  | k, x :: r => if p x = true then .int k :: idxs p (k + 1) r else idxs p (k + 1) r
theorem idxs_app {p : D → Bool} : ∀ {a b : List D} {k : Int}, idxs p k (a ++ b) = idxs p k a ++ idxs p (k + a.length) b
  | [], b, k => by simp [idxs]
  | x :: r, b, k => by
    rw [List.cons_append, idxs, idxs, idxs_app]
    rw [show k + 1 + (r.length : Int) = k + (x :: r).length by simp only [List.length_cons]; omega]
    split <;> simp
theorem idxs_le {p : D → Bool} : ∀ {a : List D} {k : Int}, (idxs p k a).length ≤ a.length
  | [], _ => by simp [idxs]
  | x :: r, k => by
    have ih := idxs_le (p := p) (a := r) (k := k + 1)
    rw [idxs]
    split <;> simp <;> omega
theorem idxs_take {p : D → Bool} {xs : List D} {i : Nat} {x : D} (h : xs[i]? = some x) : idxs p 0 (xs.take (i + 1)) = idxs p 0 (xs.take i) ++ if p x = true then [.int i] else [] := by
  rw [List.take_add_one, idxs_app, h]
  have hl : (xs.take i).length = i := by rw [List.length_take]; have := (List.getElem?_eq_some_iff.mp h).1; omega
  rw [hl]
  simp only [Option.toList, idxs]
  simp
theorem fit_idxs {p : D → Bool} {xs : List D} {r : Nat} (l : xs.length ≤ 1000000) : fit (r + 2) (.tup (idxs p 0 xs)) := by
  refine ⟨by have := idxs_le (p := p) (a := xs) (k := 0); omega, ?_⟩
  have : ∀ (xs : List D) (k : Int), ∀ x ∈ idxs p k xs, fit (r + 1) x := by
    intro xs
    induction xs with
    | nil => intro k x hx; simp [idxs] at hx
    | cons y t ih =>
      intro k x hx
      rw [idxs] at hx
      split at hx
      · rcases List.mem_cons.mp hx with rfl | hx
        · trivial
        · exact ih _ _ hx
      · exact ih _ _ hx
  exact this xs 0
theorem eqM_str {x y : Str} {M : Mem} {R : Bool → Prop} (k : R (decide (x = y))) : eqM (.str x) (.str y) M R := by
  show R (eqD (.str x) (.str y))
  rw [eqS]; exact k
theorem w_places {ts : List D} {l : Str} {M R Ex} (ht : txs ts = true) (hl : ts.length ≤ 1000) (k : ∀ M', Fr [] M M' → R (.tup (idxs (fun x => eqD x (.str l)) 0 ts)) M') : F_places [.tup ts, .str l] M R Ex := by
  refine lcL_inv (fun i M' => Fr [] M M' ∧ mlst M' M.length = some (idxs (fun x => eqD x (.str l)) 0 (ts.take i))) _ (fun _ _ _ => trivial) ?_ ?_ _ ⟨Fr.app, mlst_new⟩
  · rintro i d M1 Kc hd ⟨fr, hm⟩ hK
    obtain ⟨x, hx, rfl⟩ := enumD_get hd
    obtain ⟨z, rfl⟩ := txs_iff.mp ht x (List.mem_of_getElem? hx)
    have it := idxs_take (p := fun x => eqD x (.str l)) hx
    have hle := idxs_le (p := fun x => eqD x (.str l)) (a := ts.take i) (k := 0)
    rw [List.length_take] at hle
    refine ⟨_, rfl, ?_⟩
    conv => whnf
    cases e : eqD (.str z) (.str l) with
    | true =>
      rw [e, if_pos rfl] at it
      conv => whnf
      rw [hm]
      refine ⟨Nat.lt_of_lt_of_le (show _ < 1001 by omega) (by decide), hK _ ⟨fr.set (.inr (Nat.le_refl _)), ?_⟩⟩
      rw [mlst_set (mlst_lt hm), it]
      simp
    | false =>
      rw [e, if_neg (by simp), List.append_nil] at it
      exact hK _ ⟨fr, by rw [hm, it]⟩
  · rintro M1 ⟨fr, hm⟩
    have hl : (enumD 0 ts).length = ts.length := enumD_len
    rw [hl, List.take_length] at hm
    exact cnTuple_ok hm (k _ fr)
def inS (w : Str) : D → Bool | .str x => strIn w x | _ => false
theorem w_lines_with {ts : List D} {l : Str} {M R Ex} (ht : txs ts = true) (hl : ts.length ≤ 1000) (k : ∀ M', Fr [] M M' → R (.tup (idxs (inS l) 0 ts)) M') : F_lines_with [.tup ts, .str l] M R Ex := by
  refine lcL_inv (fun i M' => Fr [] M M' ∧ mlst M' M.length = some (idxs (inS l) 0 (ts.take i))) _ (fun _ _ _ => trivial) ?_ ?_ _ ⟨Fr.app, mlst_new⟩
  · rintro i d M1 Kc hd ⟨fr, hm⟩ hK
    obtain ⟨x, hx, rfl⟩ := enumD_get hd
    obtain ⟨z, rfl⟩ := txs_iff.mp ht x (List.mem_of_getElem? hx)
    have it := idxs_take (p := inS l) hx
    have hle := idxs_le (p := inS l) (a := ts.take i) (k := 0)
    rw [List.length_take] at hle
    refine ⟨_, rfl, ?_⟩
    conv => whnf
    cases e : strIn l z with
    | true =>
      rw [show inS l (.str z) = true from e, if_pos rfl] at it
      conv => whnf
      rw [hm]
      refine ⟨Nat.lt_of_lt_of_le (show _ < 1001 by omega) (by decide), hK _ ⟨fr.set (.inr (Nat.le_refl _)), ?_⟩⟩
      rw [mlst_set (mlst_lt hm), it]
      simp
    | false =>
      rw [show inS l (.str z) = false from e, if_neg (by simp), List.append_nil] at it
      exact hK _ ⟨fr, by rw [hm, it]⟩
  · rintro M1 ⟨fr, hm⟩
    have hl : (enumD 0 ts).length = ts.length := enumD_len
    rw [hl, List.take_length] at hm
    exact cnTuple_ok hm (k _ fr)
/-! ### pages -/
def nlS (x : Str) : Str := x ++ Str.ofString "\n"
def strs_ (xs : List D) : List Str := xs.filterMap fun | .str x => some x | _ => none
theorem strs_D {xs : List D} (h : txs xs = true) : (strs_ xs).map D.str = xs := by
  induction xs with
  | nil => rfl
  | cons x r ih => cases x <;> first | (simp only [txs] at h; simp [strs_] at ih ⊢; exact ih h) | (simp [txs] at h)
theorem strsD_map : ∀ ys : List Str, strsD (ys.map D.str) = some ys
  | [] => rfl
  | y :: r => by simp [strsD, strsD_map r]
theorem slot_set : ∀ {ρ : DN.Env} {i : Nat} {d : D}, i < ρ.length → slot (ρ.set i (some d)) i = some d
  | [], i, d, h => absurd h (by simp)
  | x :: r, 0, d, _ => rfl
  | x :: r, i + 1, d, h => slot_set (ρ := r) (by simpa using h)
/-- the text of rows joined -/
theorem page_lc {ts : List D} {tg : Nat} {ρ : DN.Env} {M : Mem} {Kn : Mem → Prop} (hts : okt ts = true) (hl : ts.length ≤ 1000) (hi : tg < ρ.length) (k : ∀ M', Fr [] M M' → mlst M' M.length = some (((strs_ ts).map nlS).map D.str) → Kn M') :
    lcL (fun _ => True) (.nm tg) cYes (eBin opAdd (eVar tg) (eC (.str "\n"))) M.length ρ ts (M ++ [.lst []]) Kn := by
  have e := strs_D (okt_txs hts)
  have hb : ∀ x ∈ strs_ ts, x.length ≤ 40 := fun x hx => by
    have : D.str x ∈ ts := by rw [← e]; exact List.mem_map_of_mem hx
    obtain ⟨y, ey, hy⟩ := okt_iff.mp hts _ this
    cases ey
    unfold okl at hy
    simp only [Bool.and_eq_true, decide_eq_true_eq] at hy
    exact hy.1
  have ln : (strs_ ts).length = ts.length := by rw [← List.length_map (f := D.str), e]
  rw [← e]
  refine lcL_pure D.str (fun _ => true) (fun x => .str (nlS x)) (by simp) (strs_ ts) (fun _ _ => trivial) (fun x M2 Kt Kf hx fr hT hF => ?_) (acc := []) mlst_new (Nat.le_trans (show 0 + (strs_ ts).length ≤ 1000 by omega) (by decide)) (fun M' fr hm => ?_)
  · have hx := hb x hx
    refine ⟨ρ.set tg (some (.str x)), by simp [asgD, hi], ?_⟩
    have hs : slot (ρ.set tg (some (.str x))) tg = some (.str x) := slot_set hi
    show eBin opAdd (eVar tg) (eC (.str "\n")) noX (ρ.set tg (some (.str x))) M2 Kt
    unfold eBin eVar
    rw [hs]
    exact ⟨Nat.le_trans (show x.length + 1 ≤ 100 by omega) (by decide), hT rfl _ Fr.refl⟩
  · rw [ft] at hm
    exact k M' (Fr.app.trans fr fun i hi hl => by simp at hi; omega) (by rw [hm, List.map_map]; rfl)
/-- the page of a text -/
def pageS (ts : List D) : Str := Txt.join (Str.ofString "") ((strs_ ts).map nlS)
theorem appS_len (a b : Str) : (a ++ b).length = a.length + b.length := by show (a.cps ++ b.cps).size = _; rw [Array.size_append]; rfl
theorem joinS_len (ys : List Str) : (Txt.join (Str.ofString "") ys).length = (ys.map (·.length)).sum := by
  have e := congrArg List.length (join_toL ys)
  have e2 : (Txt.join (Str.ofString "") ys).length = (Txt.join (Str.ofString "") ys).cps.toList.length := by simp [Str.length]
  rw [e2, e, List.length_flatten, List.map_map]
  congr 1
theorem strs_len {ts : List D} (h : txs ts = true) : (strs_ ts).length = ts.length := by rw [← List.length_map (f := D.str), strs_D h]
theorem sum_le {ys : List Str} {B : Nat} (h : ∀ y ∈ ys, y.length ≤ B) : (ys.map (·.length)).sum ≤ ys.length * B := by
  induction ys with
  | nil => simp
  | cons y r ih =>
    have := h y (by simp)
    have := ih fun z hz => h z (by simp [hz])
    simp only [List.map_cons, List.sum_cons, List.length_cons, Nat.add_mul]
    omega
theorem okl_len {x : Str} (h : okl x = true) : x.length ≤ 40 := by unfold okl at h; simp only [Bool.and_eq_true, decide_eq_true_eq] at h; exact h.1
theorem strs_okl {ts : List D} (h : okt ts = true) : ∀ x ∈ strs_ ts, okl x = true := fun x hx => by
  have : D.str x ∈ ts := by rw [← strs_D (okt_txs h)]; exact List.mem_map_of_mem hx
  obtain ⟨y, ey, hy⟩ := okt_iff.mp h _ this
  cases ey
  exact hy
theorem page_sum {ts : List D} (h : okt ts = true) : (((strs_ ts).map nlS).map (·.length)).sum ≤ ts.length * 41 := by
  have := sum_le (ys := (strs_ ts).map nlS) (B := 41) fun y hy => by
    obtain ⟨x, hx, rfl⟩ := List.mem_map.mp hy
    have := okl_len (strs_okl h x hx)
    unfold nlS
    rw [appS_len]
    show x.length + 1 ≤ 41
    omega
  rw [List.length_map, strs_len (okt_txs h)] at this
  exact this
theorem pageS_len {ts : List D} (h : okt ts = true) : (pageS ts).length ≤ ts.length * 41 := by
  unfold pageS
  rw [joinS_len]
  exact page_sum h
/-! ### pages cut -/
def NL : Str := ⟨#[10]⟩
def lastS (ps : List Str) : Str := ps.getLast?.getD (Str.ofString "")
def closedB (ps : List Str) : Bool := decide (lastS ps = Str.ofString "")
def bodyP (ps : List Str) : List Str := if closedB ps = true then ps.dropLast else ps
def outP (ps : List Str) : Option Nat := match wrT ((bodyP ps).map D.str) with
  | some i => some i
  | none => if closedB ps = true then none else some ((bodyP ps).length - 1)
theorem split_ne (z : Str) : Txt.split z NL ≠ [] := fun e => by
  have := PyProof.Rows.split_pos z NL
  rw [e] at this
  simp at this
theorem split_len_le (z : Str) : (Txt.split z NL).length ≤ z.length + 2 := PyProof.Rows.split_le z NL
theorem split_mem_le {z x : Str} (h : x ∈ Txt.split z NL) : x.length ≤ z.length := by
  have hw := PyProof.Rows.split_weight z NL (by decide)
  have : ∀ ys : List Str, x ∈ ys → x.length ≤ (ys.map (·.length)).sum := fun ys => by
    induction ys with
    | nil => intro h; simp at h
    | cons y r ih =>
      intro h
      simp only [List.map_cons, List.sum_cons]
      rcases List.mem_cons.mp h with rfl | h
      · omega
      · have := ih h; omega
  have := this _ h
  have := PyProof.Rows.split_pos z NL
  omega
theorem cutL_init {α : Type} {xs : List α} : cutL xs none (some (-1)) = xs.dropLast := by
  unfold cutL
  have e1 : HT.sIx xs.length 0 none = 0 := rfl
  have e2 : HT.sIx xs.length xs.length (some (-1)) = xs.length - 1 := by
    unfold HT.sIx
    simp
    omega
  rw [e1, e2, List.drop_zero, Nat.sub_zero, List.dropLast_eq_take]
end SG

set_option maxHeartbeats 1000000
namespace SG
open PySem PySem.Spec L2 DN
def smB : Nat → D → Bool
  | 0, _ => false
  | r + 1, .tup xs => decide (xs.length ≤ 1000000) && xs.all (smB r)
  | _ + 1, .str x => decide (x.length ≤ 1000000)
  | _ + 1, .ref _ => false
  | _ + 1, .con _ => false
  | _ + 1, _ => true
theorem sm_of : ∀ {r : Nat} {d : D}, smB r d = true → sm r d
  | 0, _, h => by cases h
  | r + 1, d, h => by
    cases d with
    | tup xs =>
      simp only [smB, Bool.and_eq_true, decide_eq_true_eq, List.all_eq_true] at h
      exact ⟨h.1, fun x hx => sm_of (h.2 x hx)⟩
    | str x => simp only [smB, decide_eq_true_eq] at h; exact h
    | ref _ => cases h
    | con _ => cases h
    | _ => trivial
theorem pickB {xs : List D} {x : Int} {p : D → Bool} (hp : xs.all p = true) (h0 : 0 ≤ x) (h1 : x < xs.length) : ∃ d, atI xs x = some d ∧ p d = true := by
  obtain ⟨d, hd, a1⟩ := pick_D h0 h1
  exact ⟨d, a1, List.all_eq_true.mp hp d hd⟩
theorem sm_okt {xs : List D} {r : Nat} (h : okt xs = true) (l : xs.length ≤ 1000000) : sm (r + 2) (.tup xs) := ⟨l, fun x hx => by
  obtain ⟨s, rfl, hs⟩ := okt_iff.mp h x hx
  unfold okl at hs
  simp only [Bool.and_eq_true, decide_eq_true_eq] at hs
  show s.length ≤ 1000000
  omega⟩
theorem sm_t3 {a b c : D} {r : Nat} (ha : sm r a) (hb : sm r b) (hc : sm r c) : sm (r + 1) (.tup [a, b, c]) := ⟨show 3 ≤ 1000000 by decide, fun x hx => by
  simp only [List.mem_cons, List.not_mem_nil, or_false] at hx
  rcases hx with rfl | rfl | rfl
  · exact ha
  · exact hb
  · exact hc⟩
theorem sm_i {r : Nat} {i : Int} : sm (r + 1) (.int i) := trivial
theorem sm_app {xs ys : List D} {r : Nat} (hx : sm (r + 1) (.tup xs)) (hy : sm (r + 1) (.tup ys)) (l : xs.length + ys.length ≤ 1000000) : sm (r + 1) (.tup (xs ++ ys)) := ⟨by rw [List.length_append]; exact l, fun z hz => (List.mem_append.mp hz).elim (hx.2 z) (hy.2 z)⟩
theorem sm_1 {a : D} {r : Nat} (ha : sm r a) : sm (r + 1) (.tup [a]) := ⟨show 1 ≤ 1000000 by decide, fun x hx => by simp at hx; subst hx; exact ha⟩
theorem cutL_le {α : Type} {t : List α} {a b : Option Int} : (cutL t a b).length ≤ t.length := by
  unfold cutL
  rw [List.length_take, List.length_drop]
  omega
theorem sm_cut {xs : List D} {r : Nat} {a b : Option Int} (h : sm (r + 1) (.tup xs)) : sm (r + 1) (.tup (cutL xs a b)) := ⟨by have := cutL_le (t := xs) (a := a) (b := b); have := h.1; omega, fun z hz => h.2 z (List.mem_of_mem_drop (List.mem_of_mem_take hz))⟩
end SG

set_option maxHeartbeats 1000000
namespace SG
open PySem PySem.Spec L2 DN
/-! ### _law_same of two equal values -/
theorem w_same0_r : ∀ (r : Nat) (d : D), fit r d → ∀ {M R Ex}, R (.bl true) M → R_law_same r [d, d] M R Ex
  | 0, d, h, _, _, _, _ => h.elim
  | r + 1, d, h, M, R, Ex, k => by
    have ih := w_same0_r r
    unfold R_law_same
    generalize R_law_same r = F at ih ⊢
    cases d with
    | non => exact k
    | bl b => cases b <;> exact k
    | int i =>
      conv => whnf
      rw [eqI, decide_eq_true rfl]
      exact k
    | str i =>
      conv => whnf
      rw [eqS, decide_eq_true rfl]
      exact k
    | ref n => exact h.elim
    | con n => exact h.elim
    | tup xs =>
      have hl : (xs.length : Int) < 2 ^ 62 := by have := h.1; omega
      conv => whnf
      rw [eqI, decide_eq_true rfl]
      conv => whnf
      refine ⟨hl, by omega, ?_⟩
      refine forL_ix (fun i ρ M' => M' = M ∧ ∃ x, ρ = [some (.tup xs), some (.tup xs), x]) _ (fun _ _ _ _ => trivial) ?_ ?_ _ _ ⟨rfl, _, rfl⟩
      · rintro i d ρ M1 Kn hd ⟨rfl, x, rfl⟩ hK
        obtain ⟨hi, rfl⟩ := rngD_get hd
        have hi : i < xs.length := by simpa using hi
        refine ⟨_, rfl, ?_⟩
        conv => whnf
        rw [atI_get (j := i) (by omega) (List.getElem?_eq_getElem hi)]
        conv => whnf
        rw [atI_get (j := i) (by omega) (List.getElem?_eq_getElem hi)]
        refine ih xs[i] (h.2 _ (List.getElem_mem hi)) ?_
        exact hK _ _ ⟨rfl, _, rfl⟩
      · rintro ρ M1 ⟨rfl, x, rfl⟩
        exact k
theorem w_same0 {d e : D} (he : d = e) (h : fit 6 d) {M R Ex} (k : R (.bl true) M) : F_law_same [d, e] M R Ex := by subst he; exact w_same0_r 6 d h k
end SG

set_option maxHeartbeats 1000000
namespace SG
open PySem PySem.Spec L2 DN
/-! ### a comprehension over plain values -/
theorem lcP {ok : Mem → Prop} {tg : Tg} {tt : SC} {te : SE} {n : Nat} {ρ : DN.Env} {Kn : Mem → Prop} (p : D → Bool) (g : D → D) {M0 : Mem} (hn : n < M0.length) (xs : List D) (hok : ∀ M, Fr [n] M0 M → ok M)
    (h : ∀ x M (Kt : KD) (Kf : Mem → Prop), x ∈ xs → Fr [n] M0 M → (p x = true → ∀ M3, Fr [] M M3 → Kt (g x) M3) → (p x = false → ∀ M2, Fr [] M M2 → Kf M2) →
      ∃ ρ1, asgD tg x ρ = some ρ1 ∧ tt noX ρ1 M fun b M2 => match b with | true => te noX ρ1 M2 Kt | false => Kf M2)
    {acc : List D} (ha : mlst M0 n = some acc) (hl : acc.length + xs.length ≤ sizeLine) (hK : ∀ M', Fr [n] M0 M' → mlst M' n = some (acc ++ (xs.filter p).map g) → Kn M') : lcL ok tg tt te n ρ xs M0 Kn := by
  have := lcL_pure (ok := ok) (tg := tg) (tt := tt) (te := te) (ρ := ρ) (Kn := Kn) id p g hn xs hok h ha hl hK
  rwa [List.map_id] at this
/-! ### trees -/
abbrev Tr := List (Str × List D)
def entD (e : Str × List D) : D := .tup [.str e.1, .tup e.2]
def treeD (T : Tr) : D := .tup (T.map entD)
def txOk (e : Str × List D) : Prop := okt e.2 = true ∧ e.2.length ≤ 62
structure okT (T : Tr) : Prop where
  len : T.length ≤ 8
  txt : ∀ e ∈ T, txOk e
  nd : (T.map (·.1)).Nodup
def textAt : Tr → Str → List D
  | [], _ => []
  | e :: r, p => if e.1 = p then e.2 else textAt r p
theorem textAt_ok {p : Str} : ∀ {T : Tr}, (∀ e ∈ T, txOk e) → okt (textAt T p) = true ∧ (textAt T p).length ≤ 62
  | [], _ => ⟨rfl, by simp [textAt]⟩
  | e :: r, h => by
    rw [textAt]
    split
    · exact h e (by simp)
    · exact textAt_ok fun x hx => h x (by simp [hx])
def qE (l : Str) : D → Bool := fun x => eqD x (.str l)
def posE (q : D → Bool) (e : Str × List D) : List D := (idxs q 0 e.2).map fun i => .tup [.str e.1, i]
def posT (q : D → Bool) (T : Tr) : List D := T.flatMap (posE q)
theorem posT_len {q : D → Bool} : ∀ {T : Tr}, (∀ e ∈ T, txOk e) → (posT q T).length ≤ 62 * T.length
  | [], _ => by simp [posT]
  | e :: r, h => by
    have ih := posT_len (q := q) (T := r) fun x hx => h x (by simp [hx])
    have h1 := (h e (by simp)).2
    have h2 := idxs_le (p := q) (a := e.2) (k := 0)
    rw [posT, List.flatMap_cons, List.length_append]
    rw [posT] at ih
    have : (posE q e).length ≤ 62 := by unfold posE; rw [List.length_map]; omega
    simp only [List.length_cons]
    omega
theorem posT_480 {q : D → Bool} {T : Tr} (h : okT T) : (posT q T).length ≤ 496 := by have := posT_len (q := q) h.txt; have := h.len; omega
theorem w_text_at {T : Tr} {p : Str} {M R Ex} (k : R (.tup (textAt T p)) M) : F_text_at [treeD T, .str p] M R Ex := by
  refine forL_map entD (fun r ρ M' => M' = M ∧ textAt r p = textAt T p ∧ ∃ (x y : Option D), ρ = [some (treeD T), some (.str p), x, y]) (fun _ _ _ _ => trivial) ?_ ?_ T _ _ ⟨rfl, rfl, _, _, rfl⟩
  · rintro e r ρ M1 Kn ⟨rfl, ht, x, y, rfl⟩ hK
    refine ⟨_, rfl, ?_⟩
    conv => whnf
    rw [eqS]
    refine bm (fun h => ?_) (fun h => ?_)
    · have e0 := of_decide_eq_true h
      rw [textAt, if_pos e0] at ht
      rw [← ht] at k
      exact k
    · have e0 := of_decide_eq_false h
      rw [textAt, if_neg e0] at ht
      exact hK _ _ ⟨rfl, ht, _, _, rfl⟩
  · rintro ρ M1 ⟨rfl, ht, x, y, rfl⟩
    refine ⟨sz rfl, ?_⟩
    rw [← ht] at k
    exact k
theorem w_line_places {T : Tr} {l : Str} {M R Ex} (hT : okT T) (k : ∀ M', Fr [] M M' → R (.tup (posT (qE l) T)) M') : F_line_places [treeD T, .str l] M R Ex := by
  unfold F_line_places
  have w1 := @w_places; obtain ⟨Fw1, qw1⟩ := op F_places; rw [← qw1] at w1 ⊢; clear qw1
  have h480 := posT_480 (q := qE l) hT
  refine ⟨sz rfl, ?_⟩
  refine forL_map entD (fun r ρ M' => (∀ e ∈ r, txOk e) ∧ (∃ (acc : List D), mlst M' M.length = some acc ∧ acc ++ posT (qE l) r = posT (qE l) T) ∧ Fr [] M M' ∧ ∃ (x y z : Option D), ρ = [some (treeD T), some (.str l), some (.ref M.length), x, y, z]) (fun _ _ _ _ => trivial) ?_ ?_ T _ _ ⟨hT.txt, ⟨[], mlst_new, rfl⟩, Fr.app, _, _, _, rfl⟩
  · rintro e r ρ M1 Kn ⟨he, ⟨acc, hm, ha⟩, f, x, y, z, rfl⟩ hK
    obtain ⟨e1, e2⟩ := he e (by simp)
    have hle := idxs_le (p := qE l) (a := e.2) (k := 0)
    have hln : acc.length + (posE (qE l) e).length ≤ 496 := by
      rw [← ha, posT, List.flatMap_cons, List.length_append, List.length_append] at h480
      omega
    refine ⟨_, rfl, ?_⟩
    refine ⟨rcv_lst hm, ?_⟩
    refine w1 (okt_txs e1) (by omega) fun M2 f2 => ?_
    have m2 := f2.lst hm
    refine lcP (fun _ => true) (fun i => .tup [.str e.1, i]) (by simp) _ (fun _ _ => trivial) (fun i M3 Kt Kf hi f3 hT hF => ?_) (acc := []) mlst_new (Nat.le_trans (show 0 + (idxs (qE l) 0 e.2).length ≤ 1000 by omega) (by decide)) fun M3 f3 m3 => ?_
    · exact ⟨_, rfl, sz rfl, hT rfl _ Fr.refl⟩
    · have m3' := f3.lst (Fr.app (S := []).lst m2) (by have := mlst_lt m2; simp; omega)
      conv => whnf
      rw [m3', m3, ft]
      refine ⟨Nat.le_trans (show acc.length + (posE (qE l) e).length ≤ 1000 by omega) (by decide), ?_⟩
      refine hK _ _ ⟨fun x hx => he x (by simp [hx]), ⟨_, mlst_set (mlst_lt m3'), ?_⟩, ?_, _, _, _, rfl⟩
      · rw [← ha, posT, posT, List.flatMap_cons, List.append_assoc]
        rfl
      · exact ((f.tr0 f2).tr0 (((Fr.app (S := [])).trans f3 (fun i hi hl => by simp at hi; subst hi; simp at hl)).mono fun _ h => by cases h)).set (.inr (Nat.le_refl _))
  · rintro ρ M1 ⟨_, ⟨acc, hm, ha⟩, f, x, y, z, rfl⟩
    rw [show posT (qE l) [] = [] from rfl, List.append_nil] at ha
    rw [ha] at hm
    exact cnTuple_ok hm (k _ f)
theorem w_word_places {T : Tr} {l : Str} {M R Ex} (hT : okT T) (k : ∀ M', Fr [] M M' → R (.tup (posT (inS l) T)) M') : F_word_places [treeD T, .str l] M R Ex := by
  unfold F_word_places
  have w1 := @w_lines_with; obtain ⟨Fw1, qw1⟩ := op F_lines_with; rw [← qw1] at w1 ⊢; clear qw1
  have h480 := posT_480 (q := inS l) hT
  refine ⟨sz rfl, ?_⟩
  refine forL_map entD (fun r ρ M' => (∀ e ∈ r, txOk e) ∧ (∃ (acc : List D), mlst M' M.length = some acc ∧ acc ++ posT (inS l) r = posT (inS l) T) ∧ Fr [] M M' ∧ ∃ (x y z : Option D), ρ = [some (treeD T), some (.str l), some (.ref M.length), x, y, z]) (fun _ _ _ _ => trivial) ?_ ?_ T _ _ ⟨hT.txt, ⟨[], mlst_new, rfl⟩, Fr.app, _, _, _, rfl⟩
  · rintro e r ρ M1 Kn ⟨he, ⟨acc, hm, ha⟩, f, x, y, z, rfl⟩ hK
    obtain ⟨e1, e2⟩ := he e (by simp)
    have hle := idxs_le (p := inS l) (a := e.2) (k := 0)
    have hln : acc.length + (posE (inS l) e).length ≤ 496 := by
      rw [← ha, posT, List.flatMap_cons, List.length_append, List.length_append] at h480
      omega
    refine ⟨_, rfl, ?_⟩
    refine ⟨rcv_lst hm, ?_⟩
    refine w1 (okt_txs e1) (by omega) fun M2 f2 => ?_
    have m2 := f2.lst hm
    refine lcP (fun _ => true) (fun i => .tup [.str e.1, i]) (by simp) _ (fun _ _ => trivial) (fun i M3 Kt Kf hi f3 hT hF => ?_) (acc := []) mlst_new (Nat.le_trans (show 0 + (idxs (inS l) 0 e.2).length ≤ 1000 by omega) (by decide)) fun M3 f3 m3 => ?_
    · exact ⟨_, rfl, sz rfl, hT rfl _ Fr.refl⟩
    · have m3' := f3.lst (Fr.app (S := []).lst m2) (by have := mlst_lt m2; simp; omega)
      conv => whnf
      rw [m3', m3, ft]
      refine ⟨Nat.le_trans (show acc.length + (posE (inS l) e).length ≤ 1000 by omega) (by decide), ?_⟩
      refine hK _ _ ⟨fun x hx => he x (by simp [hx]), ⟨_, mlst_set (mlst_lt m3'), ?_⟩, ?_, _, _, _, rfl⟩
      · rw [← ha, posT, posT, List.flatMap_cons, List.append_assoc]
        rfl
      · exact ((f.tr0 f2).tr0 (((Fr.app (S := [])).trans f3 (fun i hi hl => by simp at hi; subst hi; simp at hl)).mono fun _ h => by cases h)).set (.inr (Nat.le_refl _))
  · rintro ρ M1 ⟨_, ⟨acc, hm, ha⟩, f, x, y, z, rfl⟩
    rw [show posT (inS l) [] = [] from rfl, List.append_nil] at ha
    rw [ha] at hm
    exact cnTuple_ok hm (k _ f)

/-! ### checks -/
inductive Chk where
  | has (p l : Str) | lacks (p l : Str) | most (w : Str) (n : Nat) | ties (a b : Str)
def chkD : Chk → D
  | .has p l => .tup [.str "has", .str p, .str l]
  | .lacks p l => .tup [.str "lacks", .str p, .str l]
  | .most w n => .tup [.str "most", .str w, .int n]
  | .ties a b => .tup [.str "ties", .str a, .str b]
def hd (xs : List D) : D := match xs with | [] => .non | x :: _ => x
def failC (T : Tr) : Chk → D
  | .has p l => if (textAt T p).any (qE l) = true then .non else .tup [.str p, .int (textAt T p).length]
  | .lacks p l => hd ((idxs (qE l) 0 (textAt T p)).map fun i => .tup [.str p, i])
  | .most w n => hd ((posT (inS w) T).drop n)
  | .ties a b => if posT (qE b) T = [] then hd (posT (qE a) T) else .non
theorem inD_any {x : Str} {ys : List D} : inD (.str x) ys = ys.any (qE x) := rfl
theorem idxs_int {q : D → Bool} : ∀ {xs : List D} {k : Int}, ∀ d ∈ idxs q k xs, ∃ i, d = .int i
  | [], k, d, h => by simp [idxs] at h
  | x :: r, k, d, h => by
    rw [idxs] at h
    split at h
    · rcases List.mem_cons.mp h with rfl | h
      · exact ⟨_, rfl⟩
      · exact idxs_int d h
    · exact idxs_int d h
theorem posT_mem {q : D → Bool} {T : Tr} {d : D} (h : d ∈ posT q T) : ∃ p i, d = .tup [.str p, .int i] := by
  obtain ⟨e, _, h⟩ := List.mem_flatMap.mp h
  obtain ⟨i, hi, rfl⟩ := List.mem_map.mp h
  obtain ⟨j, rfl⟩ := idxs_int i hi
  exact ⟨_, _, rfl⟩
theorem norefs_of : ∀ {xs : List D}, (∀ d ∈ xs, noref d = true) → norefs xs = true
  | [], _ => rfl
  | x :: r, h => by simp only [norefs, Bool.and_eq_true]; exact ⟨h x (by simp), norefs_of fun d hd => h d (by simp [hd])⟩
theorem posT_noref {q : D → Bool} {T : Tr} : norefs (posT q T) = true := norefs_of fun d hd => by
  obtain ⟨p, i, rfl⟩ := posT_mem hd
  rfl
theorem idxs_noref {q : D → Bool} {xs : List D} {k : Int} : norefs (idxs q k xs) = true := norefs_of fun d hd => by
  obtain ⟨i, rfl⟩ := idxs_int d hd
  rfl
theorem eqL_nil {xs : List D} : eqL xs [] = decide (xs = []) := by cases xs <;> rfl
/-- == of a tuple and the empty tuple -/
theorem eqM_nil {xs : List D} {M : Mem} {R : Bool → Prop} (h : norefs xs = true) (k : R (decide (xs = []))) : eqM (.tup xs) (.tup []) M R := by
  show (match pyM M (.tup xs), pyM M (.tup []) with | some p, some q => min p.depth q.depth ≤ 64 ∧ R (PyData.eqv p q) | _, _ => False)
  rw [pyM_tup h, pyM_tup (xs := []) rfl]
  refine ⟨Nat.le_trans (Nat.min_le_right _ _) (by decide), ?_⟩
  rw [eqv_tup h rfl, eqL_nil]
  exact k
theorem w_fails_has {T : Tr} {p l : Str} {M R Ex} (hT : okT T) (k : R (failC T (.has p l)) M) : F_fails_has [.str p, .str l, treeD T] M R Ex := by
  unfold F_fails_has
  have w1 := @w_text_at; obtain ⟨Fw1, qw1⟩ := op F_text_at; rw [← qw1] at w1 ⊢; clear qw1
  refine w1 ?_
  obtain ⟨t1, t2⟩ := textAt_ok (p := p) hT.txt
  refine ⟨⟨rfl, show 0 ≤ 64 by decide⟩, txs_norefs (okt_txs t1), ?_⟩
  simp only [failC] at k
  rw [inD_any]
  cases h : (textAt T p).any (qE l) with
  | true => rw [if_pos h] at k; exact k
  | false => rw [if_neg (by rw [h]; simp)] at k; exact ⟨sz rfl, k⟩
theorem w_fails_lacks {T : Tr} {p l : Str} {M R Ex} (hT : okT T) (k : ∀ M', Fr [] M M' → R (failC T (.lacks p l)) M') : F_fails_lacks [.str p, .str l, treeD T] M R Ex := by
  unfold F_fails_lacks
  have w1 := @w_text_at; obtain ⟨Fw1, qw1⟩ := op F_text_at; rw [← qw1] at w1 ⊢; clear qw1
  have w2 := @w_places; obtain ⟨Fw2, qw2⟩ := op F_places; rw [← qw2] at w2 ⊢; clear qw2
  refine w1 ?_
  obtain ⟨t1, t2⟩ := textAt_ok (p := p) hT.txt
  refine w2 (okt_txs t1) (by omega) fun M1 f1 => ?_
  have k := k _ f1
  simp only [failC] at k
  change R (hd ((idxs (fun x => eqD x (.str l)) 0 (textAt T p)).map _)) M1 at k
  have hn : norefs (idxs (fun x => eqD x (.str l)) 0 (textAt T p)) = true := idxs_noref
  revert hn k
  generalize idxs (fun x => eqD x (.str l)) 0 (textAt T p) = is
  intro k hn
  refine ⟨sz rfl, eqM_nil hn ?_⟩
  cases is with
  | nil => exact k
  | cons i r =>
    conv => whnf
    rw [atI_get (xs := i :: r) (i := 0) (j := 0) rfl rfl]
    exact ⟨sz rfl, k⟩
theorem w_fails_most {T : Tr} {w : Str} {n : Nat} {M R Ex} (hT : okT T) (k : ∀ M', Fr [] M M' → R (failC T (.most w n)) M') : F_fails_most [.str w, .int n, treeD T] M R Ex := by
  unfold F_fails_most
  have w1 := @w_word_places; obtain ⟨Fw1, qw1⟩ := op F_word_places; rw [← qw1] at w1 ⊢; clear qw1
  refine w1 hT fun M1 f1 => ?_
  have k := k _ f1
  simp only [failC] at k
  revert k
  generalize posT (inS w) T = is
  intro k
  conv => whnf
  refine bm (fun h => ?_) (fun h => ?_)
  · have h := of_decide_eq_true h
    rw [List.drop_eq_nil_of_le (by omega)] at k
    exact k
  · have h := of_decide_eq_false h
    have hn : n < is.length := by omega
    rw [List.drop_eq_getElem_cons hn] at k
    conv => whnf
    rw [atI_get (j := n) rfl (List.getElem?_eq_getElem hn)]
    exact k
theorem w_fails_ties {T : Tr} {a b : Str} {M R Ex} (hT : okT T) (k : ∀ M', Fr [] M M' → R (failC T (.ties a b)) M') : F_fails_ties [.str a, .str b, treeD T] M R Ex := by
  unfold F_fails_ties
  have w1 := @w_line_places; obtain ⟨Fw1, qw1⟩ := op F_line_places; rw [← qw1] at w1 ⊢; clear qw1
  refine w1 hT fun M1 f1 => ?_
  have h1 : norefs (posT (qE a) T) = true := posT_noref
  refine ⟨sz rfl, eqM_nil h1 ?_⟩
  have k0 := k
  simp only [failC] at k
  revert k h1
  generalize posT (qE a) T = is
  intro k h1
  cases is with
  | nil =>
    have k := k _ f1
    rw [show hd ([] : List D) = .non from rfl, ite_self] at k
    exact k
  | cons i r =>
    refine w1 hT fun M2 f2 => ?_
    have k := k _ (f1.tr0 f2)
    refine ⟨sz rfl, eqM_nil posT_noref ?_⟩
    cases h : decide (posT (qE b) T = []) with
    | true =>
      rw [if_pos (of_decide_eq_true h)] at k
      conv => whnf
      rw [atI_get (xs := i :: r) (i := 0) (j := 0) rfl rfl]
      exact k
    | false =>
      rw [if_neg (of_decide_eq_false h)] at k
      exact k
theorem w_check_failure {T : Tr} {c : Chk} {M R Ex} (hT : okT T) (k : ∀ M', Fr [] M M' → R (failC T c) M') : F_check_failure [chkD c, treeD T] M R Ex := by
  unfold F_check_failure
  have w1 := @w_fails_has; obtain ⟨Fw1, qw1⟩ := op F_fails_has; rw [← qw1] at w1 ⊢; clear qw1
  have w2 := @w_fails_lacks; obtain ⟨Fw2, qw2⟩ := op F_fails_lacks; rw [← qw2] at w2 ⊢; clear qw2
  have w3 := @w_fails_most; obtain ⟨Fw3, qw3⟩ := op F_fails_most; rw [← qw3] at w3 ⊢; clear qw3
  have w4 := @w_fails_ties; obtain ⟨Fw4, qw4⟩ := op F_fails_ties; rw [← qw4] at w4 ⊢; clear qw4
  cases c with
  | has p l => exact w1 hT (k _ Fr.refl)
  | lacks p l => exact w2 hT k
  | most w n => exact w3 hT k
  | ties a b => exact w4 hT k
/-! ### the first red one -/
def redC (T : Tr) : Int → List Chk → D
  | _, [] => .non
  | i, c :: r => match failC T c with
    | .non => redC T (i + 1) r
    | d => .tup [.int i, d]
theorem failC_non (T : Tr) (c : Chk) : (failC T c = .non) ∨ ∃ xs, failC T c = .tup xs := by
  have key : ∀ xs : List D, (∀ d ∈ xs, ∃ ys, d = D.tup ys) → (hd xs = .non) ∨ ∃ ys, hd xs = .tup ys := fun xs h => by
    cases xs with
    | nil => exact .inl rfl
    | cons x r => exact .inr (h x (by simp))
  cases c with
  | has p l =>
    simp only [failC]
    split
    · exact .inl rfl
    · exact .inr ⟨_, rfl⟩
  | lacks p l => exact key _ fun d hd => by obtain ⟨i, _, rfl⟩ := List.mem_map.mp hd; exact ⟨_, rfl⟩
  | most w n => exact key _ fun d hd => by obtain ⟨p, i, rfl⟩ := posT_mem (List.mem_of_mem_drop hd); exact ⟨_, rfl⟩
  | ties a b =>
    simp only [failC]
    split
    · exact key _ fun d hd => by obtain ⟨p, i, rfl⟩ := posT_mem hd; exact ⟨_, rfl⟩
    · exact .inl rfl
theorem redC_non {T : Tr} {i : Int} {c : Chk} {r : List Chk} (h : failC T c = .non) : redC T i (c :: r) = redC T (i + 1) r := by simp only [redC, h]
theorem redC_tup {T : Tr} {i : Int} {c : Chk} {r : List Chk} {xs : List D} (h : failC T c = .tup xs) : redC T i (c :: r) = .tup [.int i, .tup xs] := by simp only [redC, h]
theorem w_first_red {T : Tr} {cs : List Chk} {M R Ex} (hT : okT T) (k : ∀ M', Fr [] M M' → R (redC T 0 cs) M') : F_first_red [.tup (cs.map chkD), treeD T] M R Ex := by
  unfold F_first_red
  have w1 := @w_check_failure; obtain ⟨Fw1, qw1⟩ := op F_check_failure; rw [← qw1] at w1 ⊢; clear qw1
  refine forL_en chkD (fun p r ρ M' => Fr [] M M' ∧ redC T p.length r = redC T 0 cs ∧ ∃ (x y z : Option D), ρ = [some (.tup (cs.map chkD)), some (treeD T), x, y, z]) (fun _ _ _ _ _ => trivial) ?_ ?_ cs _ _ ⟨Fr.refl, rfl, _, _, _, rfl⟩
  · rintro p c r ρ M1 Kn ⟨f, e, x, y, z, rfl⟩ hK
    refine ⟨_, rfl, ?_⟩
    refine w1 hT fun M2 f2 => ?_
    rcases failC_non T c with h | ⟨xs, h⟩
    · rw [redC_non h] at e
      rw [h]
      exact hK _ _ ⟨f.tr0 f2, by rw [← e]; simp, _, _, _, rfl⟩
    · rw [redC_tup h] at e
      rw [h]
      refine ⟨sz rfl, ?_⟩
      have k := k _ (f.tr0 f2)
      rw [← e] at k
      exact k
  · rintro p ρ M1 ⟨f, e, x, y, z, rfl⟩
    have k := k _ f
    rw [← e] at k
    exact k
theorem w_green {T : Tr} {cs : List Chk} {M R Ex} (hT : okT T) (k : ∀ M', Fr [] M M' → R (.bl (isNon (redC T 0 cs))) M') : F_green [.tup (cs.map chkD), treeD T] M R Ex := by
  unfold F_green
  have w1 := @w_first_red; obtain ⟨Fw1, qw1⟩ := op F_first_red; rw [← qw1] at w1 ⊢; clear qw1
  refine w1 hT fun M1 f1 => ?_
  exact k _ f1
end SG

set_option maxHeartbeats 1000000
namespace SG
open PySem PySem.Spec L2 DN
/-! ### the rows of a tree -/
def rowsE (p : Str) : Int → List D → List D
  | _, [] => []
  | k, x :: r => .tup [.str p, .int k, x] :: rowsE p (k + 1) r
def rowsT (T : Tr) : List D := T.flatMap fun e => rowsE e.1 0 e.2
theorem rowsE_app {p : Str} : ∀ {a b : List D} {k : Int}, rowsE p k (a ++ b) = rowsE p k a ++ rowsE p (k + a.length) b
  | [], b, k => by simp [rowsE]
  | x :: r, b, k => by
    rw [List.cons_append, rowsE, rowsE, rowsE_app]
    rw [show k + 1 + (r.length : Int) = k + (x :: r).length by simp only [List.length_cons]; omega]
    rfl
theorem rowsE_len {p : Str} : ∀ {a : List D} {k : Int}, (rowsE p k a).length = a.length
  | [], _ => rfl
  | x :: r, k => by rw [rowsE, List.length_cons, rowsE_len, List.length_cons]
theorem rowsE_take {p : Str} {xs : List D} {i : Nat} {x : D} (h : xs[i]? = some x) : rowsE p 0 (xs.take (i + 1)) = rowsE p 0 (xs.take i) ++ [.tup [.str p, .int i, x]] := by
  rw [List.take_add_one, rowsE_app, h]
  have hl : (xs.take i).length = i := by rw [List.length_take]; have := (List.getElem?_eq_some_iff.mp h).1; omega
  rw [hl]
  simp [rowsE]
theorem rowsE_mem {p : Str} : ∀ {xs : List D} {k : Int} {d : D}, okt xs = true → d ∈ rowsE p k xs → ∃ i x, d = .tup [.str p, .int i, .str x]
  | [], k, d, _, h => by simp [rowsE] at h
  | x :: r, k, d, ho, h => by
    rw [rowsE] at h
    rcases List.mem_cons.mp h with rfl | h
    · obtain ⟨y, rfl, _⟩ := okt_iff.mp ho x (by simp)
      exact ⟨_, _, rfl⟩
    · exact rowsE_mem (okt_iff.mpr fun d hd => okt_iff.mp ho d (by simp [hd])) h
theorem rowsT_mem {T : Tr} {d : D} (hT : okT T) (h : d ∈ rowsT T) : ∃ p i x, d = .tup [.str p, .int i, .str x] := by
  obtain ⟨e, he, h⟩ := List.mem_flatMap.mp h
  obtain ⟨i, x, rfl⟩ := rowsE_mem (hT.txt e he).1 h
  exact ⟨_, _, _, rfl⟩
theorem rowsT_len : ∀ {T : Tr}, (∀ e ∈ T, txOk e) → (rowsT T).length ≤ 62 * T.length
  | [], _ => by simp [rowsT]
  | e :: r, h => by
    have ih := rowsT_len (T := r) fun x hx => h x (by simp [hx])
    have h1 := (h e (by simp)).2
    rw [rowsT, List.flatMap_cons, List.length_append, rowsE_len]
    rw [rowsT] at ih
    simp only [List.length_cons]
    omega
def p0 (p : Str) : D → Bool | .tup (.str q :: _) => decide (q = p) | _ => false
def p2 (q : D → Bool) : D → Bool | .tup [_, _, x] => q x | _ => false
def g2 : D → D | .tup [_, _, x] => x | d => d
def gc : D → D | .tup xs => .tup (cutL xs none (some 2)) | d => d
theorem fr_all {p : Str} {q : D → Bool} : ∀ {xs : List D} {k : Int}, ((rowsE p k xs).filter (p2 q)).map gc = (idxs q k xs).map fun i => .tup [.str p, i]
  | [], k => rfl
  | x :: r, k => by
    rw [rowsE, idxs, List.filter_cons]
    show List.map gc (if q x = true then _ else _) = _
    by_cases h : q x = true
    · rw [if_pos h, if_pos h, List.map_cons, List.map_cons, fr_all]; rfl
    · rw [if_neg h, if_neg h, fr_all]
theorem fr_not {p q : Str} {f : D → Bool} (h : p ≠ q) : ∀ {xs : List D} {k : Int}, (rowsE p k xs).filter (fun d => p0 q d && f d) = []
  | [], k => rfl
  | x :: r, k => by
    rw [rowsE, List.filter_cons]
    show (if (decide (p = q) && _) = true then _ else _) = _
    rw [decide_eq_false h, Bool.false_and, if_neg (by simp), fr_not h]
theorem fr_yes {p : Str} {f : D → Bool} : ∀ {xs : List D} {k : Int}, (rowsE p k xs).filter (fun d => p0 p d && f d) = (rowsE p k xs).filter f
  | [], k => rfl
  | x :: r, k => by
    rw [rowsE, List.filter_cons, List.filter_cons, fr_yes]
    show (if (decide (p = p) && _) = true then _ else _) = _
    rw [decide_eq_true rfl, Bool.true_and]
theorem fr_g2 {p : Str} : ∀ {xs : List D} {k : Int}, (rowsE p k xs).map g2 = xs
  | [], k => rfl
  | x :: r, k => by rw [rowsE, List.map_cons, fr_g2]; rfl
theorem only {f : Str × List D → List D} {p : Str} (h0 : f (p, []) = []) (h : ∀ e, e.1 ≠ p → f e = []) : ∀ {T : Tr}, (T.map (·.1)).Nodup → T.flatMap f = f (p, textAt T p)
  | [], _ => by rw [textAt, h0]; rfl
  | e :: r, nd => by
    rw [List.map_cons, List.nodup_cons] at nd
    rw [List.flatMap_cons, textAt]
    by_cases he : e.1 = p
    · rw [if_pos he]
      have : r.flatMap f = [] := List.flatMap_eq_nil_iff.mpr fun x hx => h x fun e1 => nd.1 (by rw [he, ← e1]; exact List.mem_map_of_mem hx)
      rw [this, List.append_nil, ← he]
    · rw [if_neg he, h e he, List.nil_append, only h0 h nd.2]
theorem rows_lacks {T : Tr} {p l : Str} (hT : okT T) : ((rowsT T).filter fun d => p0 p d && p2 (qE l) d).map gc = (idxs (qE l) 0 (textAt T p)).map fun i => .tup [.str p, i] := by
  unfold rowsT
  rw [List.filter_flatMap, List.map_flatMap]
  rw [only (p := p) rfl (fun e he => by rw [fr_not he]; rfl) hT.nd]
  show List.map gc ((rowsE p 0 (textAt T p)).filter _) = _
  rw [fr_yes, fr_all]
theorem rows_here {T : Tr} {p : Str} (hT : okT T) : ((rowsT T).filter (p0 p)).map g2 = textAt T p := by
  have e : ∀ d, p0 p d = (p0 p d && (fun _ => true) d) := fun d => by simp
  rw [show p0 p = fun d => p0 p d && (fun _ => true) d from funext e]
  unfold rowsT
  rw [List.filter_flatMap, List.map_flatMap]
  rw [only (p := p) rfl (fun e he => by rw [fr_not (f := fun _ => true) he]; rfl) hT.nd]
  show List.map g2 ((rowsE p 0 (textAt T p)).filter _) = _
  rw [fr_yes (f := fun _ => true), ft, fr_g2]
theorem rows_all {T : Tr} {q : D → Bool} : ((rowsT T).filter (p2 q)).map gc = posT q T := by
  unfold rowsT posT
  rw [List.filter_flatMap, List.map_flatMap]
  congr
  funext e
  rw [fr_all]
  rfl
theorem rows_lines {T : Tr} : (rowsT T).map g2 = T.flatMap (·.2) := by
  unfold rowsT
  rw [List.map_flatMap]
  congr
  funext e
  rw [fr_g2]
theorem idxs_any {q : D → Bool} : ∀ {xs : List D} {k : Int}, xs.any q = decide (idxs q k xs ≠ [])
  | [], k => rfl
  | x :: r, k => by
    rw [List.any_cons, idxs]
    cases h : q x with
    | true => simp
    | false => simp [idxs_any (q := q) (xs := r) (k := k + 1)]
theorem pos_any {q : D → Bool} : ∀ {T : Tr}, (T.flatMap (·.2)).any q = decide (posT q T ≠ [])
  | [] => rfl
  | e :: r => by
    rw [List.flatMap_cons, List.any_append, pos_any (T := r), idxs_any (k := 0)]
    have e1 : posT q (e :: r) = posE q e ++ posT q r := rfl
    rw [e1]
    unfold posE
    by_cases h : idxs q 0 e.2 = [] <;> simp [h]
theorem cutL_drop {xs : List D} {n : Nat} : cutL xs (some (n : Int)) none = xs.drop n := by
  unfold cutL
  rw [sIx_lo (by omega)]
  have : HT.sIx xs.length xs.length none = xs.length := rfl
  rw [this]
  by_cases h : n ≤ xs.length
  · rw [show min (n : Int).toNat xs.length = n by omega, List.take_of_length_le (by rw [List.length_drop]; omega)]
  · rw [List.drop_eq_nil_of_le (by omega), List.drop_eq_nil_of_le (by omega), List.take_nil]
/-! ### _law_fails -/
theorem lines_txs {T : Tr} (hT : okT T) : txs (T.flatMap (·.2)) = true := txs_iff.mpr fun d hd => by
  obtain ⟨e, he, h⟩ := List.mem_flatMap.mp hd
  obtain ⟨x, rfl, _⟩ := okt_iff.mp (hT.txt e he).1 d h
  exact ⟨x, rfl⟩
theorem hd_app {xs : List D} : atI (xs ++ [D.non]) 0 = some (hd xs) := by
  cases xs with
  | nil => exact atI_get (i := 0) (j := 0) rfl rfl
  | cons x r => exact atI_get (i := 0) (j := 0) rfl rfl
theorem w_law_fails {T : Tr} {c : Chk} {M R Ex} (hT : okT T) (k : ∀ M', Fr [] M M' → R (failC T c) M') : F_law_fails [chkD c, treeD T] M R Ex := by
  unfold F_law_fails
  have h480 := rowsT_len hT.txt
  have h8 := hT.len
  refine ⟨sz rfl, ?_⟩
  refine forL_map entD (fun r ρ M' => (∀ e ∈ r, txOk e) ∧ (∃ (acc : List D), mlst M' M.length = some acc ∧ acc ++ rowsT r = rowsT T) ∧ Fr [] M M' ∧ ∃ (x : Option D), ρ = [some (chkD c), some (treeD T), some (.ref M.length), x, none, none, none, none, none]) (fun _ _ _ _ => trivial) ?_ ?_ T _ _ ⟨hT.txt, ⟨[], mlst_new, rfl⟩, Fr.app, _, rfl⟩
  · rintro e r ρ M1 Kn ⟨he, ⟨acc, hm, ha⟩, f, x, rfl⟩ hK
    obtain ⟨e1, e2⟩ := he e (by simp)
    have hln : acc.length + e.2.length ≤ 496 := by
      have : (rowsT T).length ≤ 496 := by omega
      rw [← ha, rowsT, List.flatMap_cons, List.length_append, List.length_append, rowsE_len] at this
      omega
    refine ⟨_, rfl, ?_⟩
    refine ⟨rcv_lst hm, ?_⟩
    refine ⟨by omega, by omega, ?_⟩
    refine lcL_inv (fun i M' => Fr [] M1 M' ∧ mlst M' M1.length = some (rowsE e.1 0 (e.2.take i))) _ (fun _ _ _ => trivial) ?_ ?_ _ ⟨Fr.app, mlst_new⟩
    · rintro i d M2 Kc hd ⟨f2, m2⟩ hK2
      obtain ⟨hi, rfl⟩ := rngD_get hd
      have hi : i < e.2.length := by simpa using hi
      have it := rowsE_take (p := e.1) (List.getElem?_eq_getElem hi)
      refine ⟨_, rfl, ?_⟩
      conv => whnf
      rw [atI_get (i := 0 + (i : Int)) (j := i) (by omega) (List.getElem?_eq_getElem hi)]
      refine ⟨sz rfl, ?_⟩
      conv => whnf
      rw [m2]
      refine ⟨Nat.lt_of_lt_of_le (show _ < 1001 by rw [rowsE_len, List.length_take]; omega) (by decide), hK2 _ ⟨f2.set (.inr (Nat.le_refl _)), ?_⟩⟩
      rw [mlst_set (mlst_lt m2), it, show (0 + (i : Int)) = (i : Int) by omega]
    · rintro M2 ⟨f2, m2⟩
      rw [rngD_len, show ((e.2.length : Int)).toNat = e.2.length by omega, List.take_length] at m2
      have m2' := f2.lst hm
      conv => whnf
      rw [m2', m2]
      refine ⟨Nat.le_trans (show acc.length + (rowsE e.1 0 e.2).length ≤ 1000 by rw [rowsE_len]; omega) (by decide), ?_⟩
      refine hK _ _ ⟨fun x hx => he x (by simp [hx]), ⟨_, mlst_set (mlst_lt m2'), ?_⟩, (f.tr0 f2).set (.inr (Nat.le_refl _)), _, rfl⟩
      rw [← ha, rowsT, rowsT, List.flatMap_cons, List.append_assoc]
  · rintro ρ M1 ⟨_, ⟨acc, hm, ha⟩, f, x, rfl⟩
    rw [show rowsT [] = [] from rfl, List.append_nil] at ha
    subst ha
    have hsz : ∀ a : Nat, a = 0 → a + (rowsT T).length ≤ sizeLine := fun a h => Nat.le_trans (show a + (rowsT T).length ≤ 1000 by omega) (by decide)
    conv => whnf
    rw [lstAt_of hm]
    refine lcP (fun _ => true) g2 (by simp) _ (fun M' f' => lstAt_of (f'.lst (Fr.app (S := []).lst hm) (by have := mlst_lt hm; simp; omega))) (fun i M3 Kt Kf hi f3 hT hF => ?_) (acc := []) mlst_new (hsz _ rfl) fun M2 f2 m2 => ?_
    · obtain ⟨p, j, x, rfl⟩ := rowsT_mem ‹_› hi
      exact ⟨_, rfl, hT rfl _ Fr.refl⟩
    · rw [ft, List.nil_append, rows_lines] at m2
      have hm2 := f2.lst (Fr.app (S := []).lst hm) (by have := mlst_lt hm; simp; omega)
      have fr2 : Fr [] M M2 := f.tr0 (((Fr.app (S := [])).trans f2 (fun i hi hl => by simp at hi; subst hi; simp at hl)).mono fun _ h => by cases h)
      have last : ∀ (x0 x1 x2 x3 x4 x5 x6 x7 : Option D) (n : Nat) (bad : List D) (M4 : Mem), Fr [] M M4 → mlst M4 n = some bad → bad.length ≤ 496 → hd bad = failC T c → r_law_fails_2 (SD.top R Ex) [x0, x1, x2, x3, x4, x5, x6, x7, some (.ref n)] M4 := by
        intro x0 x1 x2 x3 x4 x5 x6 x7 n bad M4 f4 m4 hb e
        rw [← e] at k
        refine ⟨sz rfl, ?_⟩
        have m5 : mlst (M4 ++ [.lst [.non]]) n = some bad := Fr.app (S := []).lst m4
        conv => whnf
        rw [m5, mlst_new]
        refine ⟨Nat.le_trans (show bad.length + 1 ≤ 1000 by omega) (by decide), ?_⟩
        conv => whnf
        rw [lstAt_of mlst_new]
        conv => whnf
        rw [hd_app]
        exact k _ ((f4.tr0 Fr.app).tr0 Fr.app)
      cases c with
      | has p l =>
        conv => whnf
        rw [lstAt_of hm2]
        refine lcP (p0 p) g2 (by simp) _ (fun M' f' => lstAt_of (f'.lst (Fr.app (S := []).lst hm2) (by have := mlst_lt hm2; simp; omega))) (fun i M3 Kt Kf hi f3 hT hF => ?_) (acc := []) mlst_new (hsz _ rfl) fun M3 f3 m3 => ?_
        · obtain ⟨q, j, x, rfl⟩ := rowsT_mem ‹_› hi
          refine ⟨_, rfl, ?_⟩
          conv => whnf
          rw [eqS]
          cases h : decide (q = p) with
          | true => exact hT h _ Fr.refl
          | false => exact hF h _ Fr.refl
        · rw [List.nil_append, rows_here hT] at m3
          have fr3 : Fr [] M M3 := fr2.tr0 (((Fr.app (S := [])).trans f3 (fun i hi hl => by simp at hi; subst hi; simp at hl)).mono fun _ h => by cases h)
          have k := k (M3 ++ [.lst [.tup [.str p, .int (textAt T p).length], .non]]) (fr3.tr0 Fr.app)
          obtain ⟨t1, t2⟩ := textAt_ok (p := p) hT.txt
          conv => whnf
          rw [lstAt_of m3]
          refine ⟨sz rfl, sz rfl, ?_⟩
          have m4 : mlst (M3 ++ [.lst [.tup [.str p, .int (textAt T p).length], .non]]) M2.length = some (textAt T p) := Fr.app (S := []).lst m3
          conv => whnf
          rw [lstAt_of m4]
          refine ⟨⟨rfl, show 0 ≤ 64 by decide⟩, txs_norefs (okt_txs t1), ?_⟩
          simp only [failC] at k
          rw [inD_any]
          cases h : (textAt T p).any (qE l) with
          | true =>
            rw [if_pos h] at k
            conv => whnf
            rw [lstAt_of mlst_new]
            exact k
          | false =>
            rw [if_neg (by rw [h]; simp)] at k
            conv => whnf
            rw [lstAt_of mlst_new]
            exact k
      | lacks p l =>
        conv => whnf
        rw [lstAt_of hm2]
        refine lcP (fun d => p0 p d && p2 (qE l) d) gc (by simp) _ (fun M' f' => lstAt_of (f'.lst (Fr.app (S := []).lst hm2) (by have := mlst_lt hm2; simp; omega))) (fun i M3 Kt Kf hi f3 hT hF => ?_) (acc := []) mlst_new (hsz _ rfl) fun M3 f3 m3 => ?_
        · obtain ⟨q, j, x, rfl⟩ := rowsT_mem ‹_› hi
          refine ⟨_, rfl, ?_⟩
          conv => whnf
          rw [eqS]
          cases h : decide (q = p) with
          | true =>
            conv => whnf
            rw [eqS]
            cases h2 : decide (x = l) with
            | true => exact hT (by show (decide (q = p) && eqD (.str x) (.str l)) = true; rw [eqS, h, h2]; rfl) _ Fr.refl
            | false => exact hF (by show (decide (q = p) && eqD (.str x) (.str l)) = false; rw [eqS, h, h2]; rfl) _ Fr.refl
          | false => exact hF (by show (decide (q = p) && eqD (.str x) (.str l)) = false; rw [h]; rfl) _ Fr.refl
        · rw [List.nil_append, rows_lacks hT] at m3
          have fr3 : Fr [] M M3 := fr2.tr0 (((Fr.app (S := [])).trans f3 (fun i hi hl => by simp at hi; subst hi; simp at hl)).mono fun _ h => by cases h)
          obtain ⟨t1, t2⟩ := textAt_ok (p := p) hT.txt
          have hle := idxs_le (p := qE l) (a := textAt T p) (k := 0)
          refine last _ _ _ _ _ _ _ _ _ _ _ fr3 m3 (by rw [List.length_map]; omega) rfl
      | most w n =>
        conv => whnf
        rw [lstAt_of hm2]
        refine lcP (p2 (inS w)) gc (by simp) _ (fun M' f' => lstAt_of (f'.lst (Fr.app (S := []).lst hm2) (by have := mlst_lt hm2; simp; omega))) (fun i M3 Kt Kf hi f3 hT hF => ?_) (acc := []) mlst_new (hsz _ rfl) fun M3 f3 m3 => ?_
        · obtain ⟨q, j, x, rfl⟩ := rowsT_mem ‹_› hi
          refine ⟨_, rfl, ?_⟩
          conv => whnf
          cases h : strIn w x with
          | true => exact hT h _ Fr.refl
          | false => exact hF h _ Fr.refl
        · rw [List.nil_append, rows_all] at m3
          have fr3 : Fr [] M M3 := fr2.tr0 (((Fr.app (S := [])).trans f3 (fun i hi hl => by simp at hi; subst hi; simp at hl)).mono fun _ h => by cases h)
          have hle := posT_480 (q := inS w) hT
          conv => whnf
          rw [lstAt_of m3]
          refine last _ _ _ _ _ _ _ _ _ _ _ (fr3.tr0 Fr.app) mlst_new (by have := cutL_le (t := posT (inS w) T) (a := some (n : Int)) (b := none); omega) (by rw [cutL_drop]; rfl)
      | ties a b =>
        conv => whnf
        rw [lstAt_of hm2]
        refine lcP (fun d => p2 (qE a) d && !(inD (.str b) (T.flatMap (·.2)))) gc (by simp) _ (fun M' f' => lstAt_of (f'.lst (Fr.app (S := []).lst hm2) (by have := mlst_lt hm2; simp; omega))) (fun i M3 Kt Kf hi f3 hT hF => ?_) (acc := []) mlst_new (hsz _ rfl) fun M3 f3 m3 => ?_
        · obtain ⟨q, j, x, rfl⟩ := rowsT_mem ‹_› hi
          refine ⟨_, rfl, ?_⟩
          have ml := f3.lst (Fr.app (S := []).lst m2) (by have := mlst_lt m2; simp; omega)
          conv => whnf
          rw [eqS]
          cases h : decide (x = a) with
          | true =>
            conv => whnf
            rw [lstAt_of ml]
            refine ⟨⟨rfl, show 0 ≤ 64 by decide⟩, txs_norefs (lines_txs ‹_›), ?_⟩
            cases h2 : inD (.str b) (T.flatMap (·.2)) with
            | true => exact hF (by show (eqD (.str x) (.str a) && !(inD (.str b) (T.flatMap (·.2)))) = false; rw [eqS, h, h2]; rfl) _ Fr.refl
            | false => exact hT (by show (eqD (.str x) (.str a) && !(inD (.str b) (T.flatMap (·.2)))) = true; rw [eqS, h, h2]; rfl) _ Fr.refl
          | false => exact hF (by show (eqD (.str x) (.str a) && !(inD (.str b) (T.flatMap (·.2)))) = false; rw [eqS, h]; rfl) _ Fr.refl
        · rw [List.nil_append] at m3
          have fr3 : Fr [] M M3 := fr2.tr0 (((Fr.app (S := [])).trans f3 (fun i hi hl => by simp at hi; subst hi; simp at hl)).mono fun _ h => by cases h)
          have hle := posT_480 (q := qE a) hT
          have eq : ((rowsT T).filter fun d => p2 (qE a) d && !(inD (.str b) (T.flatMap (·.2)))).map gc = if posT (qE b) T = [] then posT (qE a) T else [] := by
            rw [inD_any, pos_any]
            by_cases h : posT (qE b) T = []
            · rw [if_pos h]
              have e2 : (fun d => p2 (qE a) d && !decide (posT (qE b) T ≠ [])) = p2 (qE a) := by funext d; simp [h]
              rw [e2, rows_all]
            · rw [if_neg h]
              simp [h]
          rw [eq] at m3
          refine last _ _ _ _ _ _ _ _ _ _ _ fr3 m3 (by split; omega; simp) (by simp only [failC]; split <;> rfl)
theorem redC_drop {T : Tr} {cs : List Chk} {i : Nat} (h : i < cs.length) : redC T i (cs.drop i) = match failC T cs[i] with | .non => redC T (i + 1 : Nat) (cs.drop (i + 1)) | d => .tup [.int i, d] := by
  rw [List.drop_eq_getElem_cons h, redC]
  rfl
theorem w_law_red {T : Tr} {cs : List Chk} {M R Ex} (hT : okT T) (hc : cs.length ≤ 1000) (k : ∀ M', Fr [] M M' → R (redC T 0 cs) M') : F_law_red [.tup (cs.map chkD), treeD T] M R Ex := by
  unfold F_law_red
  have w1 := @w_law_fails; obtain ⟨Fw1, qw1⟩ := op F_law_fails; rw [← qw1] at w1 ⊢; clear qw1
  refine ⟨by rw [List.length_map]; omega, by rw [List.length_map]; omega, ?_⟩
  refine forL_ix (fun i ρ M' => Fr [] M M' ∧ redC T i (cs.drop i) = redC T 0 cs ∧ ∃ (x y : Option D), ρ = [some (.tup (cs.map chkD)), some (treeD T), x, y]) _ (fun _ _ _ _ => trivial) ?_ ?_ _ _ ⟨Fr.refl, rfl, _, _, rfl⟩
  · rintro i d ρ M1 Kn hd ⟨f, e, x, y, rfl⟩ hK
    obtain ⟨hi, rfl⟩ := rngD_get hd
    have hi : i < cs.length := by rw [List.length_map] at hi; omega
    refine ⟨_, rfl, ?_⟩
    have g : atI (cs.map chkD) (0 + (i : Int)) = some (chkD cs[i]) := atI_get (j := i) (by omega) (by rw [List.getElem?_map, List.getElem?_eq_getElem hi]; rfl)
    conv => whnf
    rw [g]
    refine w1 hT fun M2 f2 => ?_
    rw [redC_drop hi] at e
    rcases failC_non T cs[i] with h | ⟨xs, h⟩
    · rw [h] at e
      rw [h]
      exact hK _ _ ⟨f.tr0 f2, e, _, _, rfl⟩
    · rw [h] at e
      rw [h]
      refine ⟨sz rfl, ?_⟩
      have k := k _ (f.tr0 f2)
      rw [← e] at k
      rw [show (0 + (i : Int)) = (i : Int) by omega]
      exact k
  · rintro ρ M1 ⟨f, e, x, y, rfl⟩
    rw [List.drop_eq_nil_of_le (by rw [rngD_len, List.length_map]; omega)] at e
    have k := k _ f
    rw [← e] at k
    exact k
theorem failC_fit {T : Tr} {c : Chk} {r : Nat} : fit (r + 3) (failC T c) := by
  have key : ∀ xs : List D, (∀ d ∈ xs, ∃ p i, d = D.tup [.str p, .int i]) → fit (r + 3) (hd xs) := fun xs h => by
    cases xs with
    | nil => trivial
    | cons x t =>
      obtain ⟨p, i, rfl⟩ := h x (by simp)
      exact ⟨show 2 ≤ 16777216 by decide, fun d hd => by simp at hd; rcases hd with rfl | rfl <;> trivial⟩
  cases c with
  | has p l =>
    simp only [failC]
    split
    · trivial
    · exact ⟨show 2 ≤ 16777216 by decide, fun d hd => by simp at hd; rcases hd with rfl | rfl <;> trivial⟩
  | lacks p l =>
    refine key _ fun d hd => ?_
    obtain ⟨i, hi, rfl⟩ := List.mem_map.mp hd
    obtain ⟨j, rfl⟩ := idxs_int i hi
    exact ⟨_, _, rfl⟩
  | most w n => exact key _ fun d hd => posT_mem (List.mem_of_mem_drop hd)
  | ties a b =>
    simp only [failC]
    split
    · exact key _ fun d hd => posT_mem hd
    · trivial
theorem redC_fit {T : Tr} {r : Nat} : ∀ {cs : List Chk} {i : Int}, fit (r + 4) (redC T i cs)
  | [], i => trivial
  | c :: cs, i => by
    have f := failC_fit (T := T) (c := c) (r := r)
    rcases failC_non T c with h | ⟨xs, h⟩
    · rw [redC_non h]; exact redC_fit
    · rw [redC_tup h]
      rw [h] at f
      exact ⟨show 2 ≤ 16777216 by decide, fun d hd => by simp at hd; rcases hd with rfl | rfl; trivial; exact f⟩
end SG

set_option maxHeartbeats 1000000
namespace SG
open PySem PySem.Spec L2 DN
/-! ### sorted -/
theorem sortK_strs {ys : List Str} {R : List D → Prop} (hl : ys.length < 64) (k : ∀ zs : List Str, zs.Perm ys → PyProof.Rows.sortedS zs = true → R (zs.map D.str)) : sortK (ys.map D.str) R := by
  unfold sortK
  cases ys with
  | nil =>
    show ∀ ms : List Int, ms.Perm [] → _
    intro ms hp _
    rw [hp.eq_nil]
    exact k [] (List.Perm.refl _) rfl
  | cons y r =>
    rw [show intsD ((y :: r).map D.str) = none from rfl, strsD_map]
    exact ⟨hl, fun zs hp hs => k zs hp hs⟩
theorem alike_txs : ∀ {xs ys : List D}, txs xs = true → txs ys = true → PySem.W.alikeAll (toPys xs) (toPys ys) = true
  | [], _, _, _ => by simp [toPys, PySem.W.alikeAll]
  | _ :: _, [], _, _ => by simp [toPys, PySem.W.alikeAll]
  | x :: xs, y :: ys, h1, h2 => by
    obtain ⟨a, rfl⟩ := txs_iff.mp h1 x (by simp)
    obtain ⟨b, rfl⟩ := txs_iff.mp h2 y (by simp)
    have ih := alike_txs (xs := xs) (ys := ys) (by simpa [txs] using h1) (by simpa [txs] using h2)
    simp [toPys, toPy, PySem.W.alikeAll, PySem.W.alike, ih]
theorem alike_ent {a b : Str × List D} (ha : txOk a) (hb : txOk b) : PySem.W.alike (toPy (entD a)) (toPy (entD b)) = true := by
  have := alike_txs (okt_txs ha.1) (okt_txs hb.1)
  simp [entD, toPy, toPys, PySem.W.alikeAll, PySem.W.alike, this]
def decE : D → Str × List D | .tup [.str p, .tup ts] => (p, ts) | _ => ("", [])
theorem sortK_ents {T : Tr} {R : List D → Prop} (h : ∀ e ∈ T, txOk e) (hl : T.length ≤ 100) (k : ∀ T' : Tr, T'.Perm T → (T'.Pairwise fun a b => ltD (entD b) (entD a) = false) → R (T'.map entD)) : sortK (T.map entD) R := by
  unfold sortK
  cases T with
  | nil =>
    show ∀ ms : List Int, ms.Perm [] → _
    intro ms hp _
    rw [hp.eq_nil]
    exact k [] (List.Perm.refl _) List.Pairwise.nil
  | cons e r =>
    rw [show intsD ((e :: r).map entD) = none from rfl, show strsD ((e :: r).map entD) = none from rfl]
    refine ⟨⟨Nat.le_trans (show ((e :: r).map entD).length ≤ 1000 by rw [List.length_map]; omega) (by decide), norefs_of fun d hd => ?_, fun d hd d' hd' => ?_, .inl fun d hd => ?_, fun d hd => ?_⟩, fun zs hp hw => ?_⟩
    · obtain ⟨x, hx, rfl⟩ := List.mem_map.mp hd
      have := txs_norefs (okt_txs (h x hx).1)
      simp [entD, noref, norefs, this]
    · obtain ⟨x, hx, rfl⟩ := List.mem_map.mp hd
      obtain ⟨x', hx', rfl⟩ := List.mem_map.mp hx
      obtain ⟨y, hy, rfl⟩ := List.mem_map.mp hd'
      obtain ⟨y', hy', rfl⟩ := List.mem_map.mp hy
      exact alike_ent (h x' hx') (h y' hy')
    · obtain ⟨x, hx, rfl⟩ := List.mem_map.mp hd
      obtain ⟨x, hx, rfl⟩ := List.mem_map.mp hx
      exact ⟨_, _, rfl⟩
    · obtain ⟨x, hx, rfl⟩ := List.mem_map.mp hd
      have := txs_depth (okt_txs (h x hx).1)
      simp [entD, toPy, toPys, PyData.depth, PyData.depthAll, this]
    · have e1 : (zs.map decE).map entD = zs := by
        rw [List.map_map]
        have : ∀ z ∈ zs, (entD ∘ decE) z = id z := fun z hz => by
          obtain ⟨x, hx, rfl⟩ := List.mem_map.mp (hp.mem_iff.mp hz)
          rfl
        rw [List.map_congr_left this, List.map_id]
      have hp2 := hp.map decE
      rw [List.map_map, show decE ∘ entD = id from rfl, List.map_id] at hp2
      rw [← e1]
      rw [← e1, List.pairwise_map] at hw
      exact k _ hp2 hw
/-! ### the order of texts -/
theorem ltS_irr (a : Str) : ltS a a = false := decide_eq_false (List.lt_irrefl _)
theorem ltS_trans {a b c : Str} (h1 : ltS a b = true) (h2 : ltS b c = true) : ltS a c = true := decide_eq_true (List.lt_trans (of_decide_eq_true h1) (of_decide_eq_true h2))
theorem ltS_tot {a b : Str} (h1 : ltS a b = false) (h2 : ltS b a = false) : a = b := Str.ext' (Array.toList_inj.mp (List.le_antisymm (List.not_lt.mp (of_decide_eq_false h2)) (List.not_lt.mp (of_decide_eq_false h1))))
theorem ltS_asym {a b : Str} (h : ltS a b = true) : ltS b a = false := by
  cases e : ltS b a with
  | false => rfl
  | true => have := ltS_trans h e; rw [ltS_irr] at this; cases this
theorem ltS_ge {a b c : Str} (h1 : ltS b a = false) (h2 : ltS c b = false) : ltS c a = false := by
  cases e : ltS c a with
  | false => rfl
  | true =>
    exfalso
    have q := of_decide_eq_true e
    have q1 := List.not_lt.mp (of_decide_eq_false h1)
    have q2 := List.not_lt.mp (of_decide_eq_false h2)
    exact List.not_lt.mpr (List.le_trans q1 q2) q
theorem ltD_ent {a b : Str × List D} (ha : txOk a) (hb : txOk b) (h : a.1 ≠ b.1) : ltD (entD a) (entD b) = ltS a.1 b.1 := by
  show PySem.W.dataLt (.tuple (toPys [.str a.1, .tup a.2])) (.tuple (toPys [.str b.1, .tup b.2])) = _
  rw [PySem.W.dataLt_tuple]
  simp only [toPys, toPy]
  rw [PySem.W.dataLt_all_no (by simp [PySem.W.alike]) (by simp [PyData.eqv, h]), PySem.W.dataLt_str]
/-- ascending by the paths -/
def asc (T : Tr) : Prop := T.Pairwise fun a b => ltS a.1 b.1 = true
theorem asc_nd {T : Tr} (h : asc T) : (T.map (·.1)).Nodup := by
  rw [List.Nodup, List.pairwise_map]
  refine h.imp fun {a b} q e => ?_
  rw [e, ltS_irr] at q
  cases q
theorem asc_sorted {T : Tr} (h : ∀ e ∈ T, txOk e) (nd : (T.map (·.1)).Nodup) (w : T.Pairwise fun a b => ltD (entD b) (entD a) = false) : asc T := by
  rw [List.Nodup, List.pairwise_map] at nd
  have := (nd.and w).imp_of_mem (S := fun a b => ltS a.1 b.1 = true) fun {a b} ha hb q => by
    have q2 := q.2
    rw [ltD_ent (h b hb) (h a ha) (fun e => q.1 e.symm)] at q2
    cases e : ltS a.1 b.1 with
    | true => rfl
    | false => exact absurd (ltS_tot e q2) q.1
  exact this
theorem asc_uniq : ∀ {S T : Tr}, asc S → asc T → S.Perm T → S = T
  | [], T, _, _, p => (p.symm.eq_nil).symm
  | s :: S, [], _, _, p => by have := p.length_eq; simp at this
  | s :: S, t :: T, hs, ht, p => by
    have e : s = t := by
      have h1 : s ∈ t :: T := p.mem_iff.mp (by simp)
      have h2 : t ∈ s :: S := p.mem_iff.mpr (by simp)
      rcases List.mem_cons.mp h1 with e | h1
      · exact e
      · rcases List.mem_cons.mp h2 with e | h2
        · exact e.symm
        · have q1 := (List.pairwise_cons.mp hs).1 t h2
          have q2 := (List.pairwise_cons.mp ht).1 s h1
          rw [ltS_asym q1] at q2
          cases q2
    subst e
    rw [asc_uniq (List.pairwise_cons.mp hs).2 (List.pairwise_cons.mp ht).2 ((List.perm_cons s).mp p)]
theorem ltCps_lt : ∀ a b : List Nat, PySem.Spec.ltCps a b = decide (a < b)
  | [], [] => rfl
  | [], _ :: _ => (decide_eq_true (List.nil_lt_cons _ _)).symm
  | _ :: _, [] => (decide_eq_false (List.not_lt_nil _)).symm
  | a :: x, b :: y => by
    have ih := ltCps_lt x y
    unfold PySem.Spec.ltCps
    by_cases h : a < b
    · rw [decide_eq_true (p := a :: x < b :: y) (List.cons_lt_cons_iff.mpr (.inl h))]
      simp [h]
    · by_cases e : a = b
      · subst e
        simp [ih, List.cons_lt_cons_iff]
      · rw [decide_eq_false (p := a :: x < b :: y) (fun q => by rcases List.cons_lt_cons_iff.mp q with q | q; exact h q; exact e q.1)]
        simp [h, e]
theorem sortedS_pw : ∀ {l : List Str}, PyProof.Rows.sortedS l = true → l.Pairwise fun a b => ltS b a = false
  | [], _ => List.Pairwise.nil
  | [a], _ => List.pairwise_singleton _ _
  | a :: b :: r, h => by
    have h : (!PySem.Spec.ltCps b.cps.toList a.cps.toList && PyProof.Rows.risingS b r) = true := h
    rw [Bool.and_eq_true, ltCps_lt] at h
    have ih := sortedS_pw (l := b :: r) h.2
    have hb : ltS b a = false := by simpa using h.1
    refine List.pairwise_cons.mpr ⟨fun c hc => ?_, ih⟩
    rcases List.mem_cons.mp hc with rfl | hc
    · exact hb
    · exact ltS_ge hb ((List.pairwise_cons.mp ih).1 c hc)
/-- sorted and distinct -/
theorem strict_of {l : List Str} (nd : l.Nodup) (h : PyProof.Rows.sortedS l = true) : l.Pairwise fun a b => ltS a b = true := by
  refine (nd.and (sortedS_pw h)).imp fun {a b} q => ?_
  cases e : ltS a b with
  | true => rfl
  | false => exact absurd (ltS_tot e q.2) q.1
end SG

set_option maxHeartbeats 1000000
namespace SG
open PySem PySem.Spec L2 DN
/-! ### drawn paths -/
/-- the sign behind the last slash -/
def keyP (x : Str) : Nat := ((x.cps.toList.reverse.takeWhile fun c => c != 47).getLast?).getD 0
def hds : List Str := ["", "src/", "doc/", "src/lib/"]
def tls : List Str := ["", "0", ".c", "_-x"]
def abc : Str := "abcdefgh"
theorem keyP_all : (hds.all fun h => (List.range 8).all fun i => tls.all fun t => decide (keyP ((h ++ ⟨#[abc.cps.toList[i]!]⟩) ++ t) = 97 + i)) = true := by decide +kernel
theorem keyP_of {h t : Str} {i : Nat} {c : Nat} (h1 : h ∈ hds) (h2 : t ∈ tls) (hi : i < 8) (hc : abc.cps.toList[i]? = some c) : keyP ((h ++ ⟨#[c]⟩) ++ t) = 97 + i := by
  have a := List.all_eq_true.mp keyP_all h h1
  have b := List.all_eq_true.mp a i (List.mem_range.mpr hi)
  have d := of_decide_eq_true (List.all_eq_true.mp b t h2)
  rw [← d, List.getElem!_eq_getElem?_getD, hc]
  rfl
theorem len_hds : (hds.all fun h => decide (h.length ≤ 8)) = true := by decide +kernel
theorem len_tls : (tls.all fun h => decide (h.length ≤ 8)) = true := by decide +kernel
theorem len1 (c : Nat) : (⟨#[c]⟩ : Str).length = 1 := rfl
theorem w_law_paths {n m : Nat} {c : Nat} {M R Ex} (h : Bg M n m) (hc : c ≤ 8) (k : ∀ (zs : List Str) (j : Nat) M', M.length ≤ j → mlst M' j = some (zs.map D.str) → zs.length = c → zs.Nodup → Bg M' n m → Fr [n, m] M M' → R (.ref j) M') : F_law_paths [.ref n, .int c] M R Ex := by
  unfold F_law_paths
  have w1 := @w_take; obtain ⟨Fw1, qw1⟩ := op F_law_take; rw [← qw1] at w1 ⊢; clear qw1
  refine ⟨sz rfl, ?_⟩
  refine ⟨by omega, by omega, ?_⟩
  have hne := h.ne (Nat.le_refl _)
  have hlt := h.ltn
  have hltm := h.ltm
  have mh : mlst (M ++ [O.lst [D.str "", D.str "src/", D.str "doc/", D.str "src/lib/"]]) M.length = some (hds.map D.str) := mlst_new
  have pB := h.app (L := [O.lst [D.str "", D.str "src/", D.str "doc/", D.str "src/lib/"]])
  have fB : Fr [n, m] M (M ++ [O.lst [D.str "", D.str "src/", D.str "doc/", D.str "src/lib/"]]) := Fr.app
  have lB : (M ++ [O.lst [D.str "", D.str "src/", D.str "doc/", D.str "src/lib/"]]).length = M.length + 1 := by simp
  revert mh pB fB lB
  generalize M ++ [O.lst [D.str "", D.str "src/", D.str "doc/", D.str "src/lib/"]] = MB
  intro mh pB fB lB
  have hne2 := pB.ne (Nat.le_refl _)
  refine lcL_inv (fun i M' => ∃ (acc : List Str), mlst M' MB.length = some (acc.map D.str) ∧ acc.length = i ∧ acc.map keyP = (List.range i).map (97 + ·) ∧ Bg M' n m ∧ Fr [n, m] MB M') _ (fun _ _ _ => trivial) ?_ ?_ _ ⟨[], mlst_new, rfl, rfl, pB.app, Fr.app⟩
  · rintro i d M2 Kc hd ⟨acc, hm, hl, hk, p2, f2⟩ hK
    obtain ⟨hi, rfl⟩ := rngD_get hd
    have hi : i < 8 := by omega
    refine ⟨_, rfl, ?_⟩
    refine w1 p2 (by decide) (by decide) fun x M3 x0 x1 p3 f3 => ?_
    obtain ⟨hs, hhs, a1⟩ := pickS (xs := hds) x0 x1
    have hh3 := f3.lst (f2.lst mh (by simp [hne])) (by simp [hne])
    conv => whnf
    rw [lstAt_of hh3]
    conv => whnf
    rw [a1]
    refine ⟨by decide, ?_⟩
    obtain ⟨c, ec, ec2⟩ := atI_int (xs := abc.cps.toList) (i := 0 + (i : Int)) (by omega) (by show (0 + (i : Int)) < 8; omega)
    rw [show (0 + (i : Int)).toNat = i by omega] at ec2
    conv => whnf
    rw [show atI (Str.ofString "abcdefgh").cps.toList (0 + (i : Int)) = some c from ec]
    have l1 := of_decide_eq_true (List.all_eq_true.mp len_hds hs hhs)
    refine ⟨Nat.le_trans (show hs.length + 1 ≤ 100 by omega) (by decide), ?_⟩
    refine ⟨sz rfl, ?_⟩
    refine w1 p3.app (by decide) (by decide) fun y M4 y0 y1 p4 f4 => ?_
    obtain ⟨t, ht, a2⟩ := pickS (xs := tls) y0 y1
    have l2 := of_decide_eq_true (List.all_eq_true.mp len_tls t ht)
    have m4 := f4.lst (Fr.app (S := []).lst (f3.lst hm (by simp [hne2]))) (by simp [hne2])
    conv => whnf
    rw [lstAt_of (f4.lst mlst_new (p3.nin (Nat.le_refl _)))]
    conv => whnf
    rw [show atI [D.str (Str.ofString ""), D.str (Str.ofString "0"), D.str (Str.ofString ".c"), D.str (Str.ofString "_-x")] y = some (.str t) from a2]
    have e1 : (hs ++ (⟨#[c]⟩ : Str)).length = hs.length + 1 := by rw [appS_len]; rfl
    refine ⟨Nat.le_trans (show (hs ++ (⟨#[c]⟩ : Str)).length + t.length ≤ 100 by omega) (by decide), ?_⟩
    conv => whnf
    rw [m4]
    refine ⟨Nat.lt_of_lt_of_le (show (acc.map D.str).length < 100 by rw [List.length_map]; omega) (by decide), hK _ ⟨acc ++ [(hs ++ ⟨#[c]⟩) ++ t], ?_, by simp [hl], ?_, p4.set hne2.1 hne2.2, (((f2.tr f3).trans (Fr.app (S := [])) (fun _ h => by cases h)).tr f4).set (.inr (Nat.le_refl _))⟩⟩
    · rw [mlst_set (mlst_lt m4), List.map_append]; rfl
    · rw [List.map_append, hk, List.range_succ, List.map_append]
      show _ ++ [keyP _] = _
      rw [keyP_of hhs ht hi ec2]
      rfl
  · rintro M2 ⟨acc, hm, hl, hk, p2, f2⟩
    rw [rngD_len, Int.toNat_natCast] at hl hk
    have nd : acc.Nodup := by
      have : (acc.map keyP).Nodup := by rw [hk]; exact List.Pairwise.map _ (fun a b h e => h (by omega)) List.nodup_range
      exact List.Pairwise.of_map keyP (fun a b h e => h (by rw [e])) this
    conv => whnf
    rw [lstAt_of hm]
    refine sortK_strs (by omega) fun zs hp _ => ?_
    have hle := f2.le
    exact k zs _ _ (by omega) mlst_new (by rw [hp.length_eq, hl]) (hp.nodup_iff.mpr nd) p2.app ((fB.tr f2).tr0 Fr.app)
/-! ### a drawn tree -/
theorem w_law_base {n m j : Nat} {wd : Int} {zs : List Str} {M R Ex} (h : Bg M n m) (hm : mlst M j = some (zs.map D.str)) (hj : j ≠ n ∧ j ≠ m) (hl : zs.length ≤ 8) (nd : zs.Nodup) (k : ∀ (T : Tr) M', okT T → T.length ≤ zs.length → Bg M' n m → Fr [n, m] M M' → R (treeD T) M') : F_law_base [.ref n, .ref j, .int wd] M R Ex := by
  unfold F_law_base
  have w1 := @w_take; obtain ⟨Fw1, qw1⟩ := op F_law_take; rw [← qw1] at w1 ⊢; clear qw1
  have w2 := @w_law_line; obtain ⟨Fw2, qw2⟩ := op F_law_line; rw [← qw2] at w2 ⊢; clear qw2
  have hne := h.ne (Nat.le_refl _)
  have hjl := mlst_lt hm
  refine ⟨sz rfl, ?_⟩
  conv => whnf
  rw [lstAt_of (Fr.app (S := []).lst hm)]
  refine forL_map D.str (fun r ρ M' => ∃ (T : Tr) (p : List Str), mlst M' M.length = some (T.map entD) ∧ zs = p ++ r ∧ (T.map (·.1)).Sublist p ∧ (∀ e ∈ T, txOk e) ∧ mlst M' j = some (zs.map D.str) ∧ Bg M' n m ∧ Fr [n, m] M M' ∧ ∃ (x y : Option D), ρ = [some (.ref n), some (.ref j), some (.int wd), some (.ref M.length), x, y, none])
    (fun r ρ M' h => by obtain ⟨T, p, _, _, _, _, h, _⟩ := h; exact lstAt_of h) ?_ ?_ zs _ _ ⟨[], [], mlst_new, rfl, List.Sublist.refl _, fun _ h => by simp at h, Fr.app (S := []).lst hm, h.app, Fr.app, _, _, rfl⟩
  · rintro z r ρ M1 Kn ⟨T, p, mT, hz, hs, hT, hj1, p1, f1, x, y, rfl⟩ hK
    have hle := f1.le
    refine ⟨_, rfl, ?_⟩
    refine w1 p1 (by decide) (by decide) fun c M2 c0 c1 p2 f2 => ?_
    refine ⟨by omega, by omega, ?_⟩
    have hne2 := p2.ne (Nat.le_refl _)
    have hle2 := f2.le
    have hlt := mlst_lt mT
    refine lcL_inv (fun i M' => ∃ acc, mlst M' M2.length = some acc ∧ acc.length = i ∧ okt acc = true ∧ Bg M' n m ∧ Fr [n, m] M2 M') _ (fun _ _ _ => trivial) ?_ ?_ _ ⟨[], mlst_new, rfl, rfl, p2.app, Fr.app⟩
    · rintro i d M3 Kc hd ⟨acc, ha, hl, hg, p3, f3⟩ hK2
      obtain ⟨hi, rfl⟩ := rngD_get hd
      refine ⟨_, rfl, ?_⟩
      refine w2 p3 fun x M4 hx p4 f4 => ?_
      have a4 := f4.lst ha (by simp [hne2])
      conv => whnf
      rw [a4]
      refine ⟨Nat.lt_of_lt_of_le (show acc.length < 100 by omega) (by decide), hK2 _ ⟨_, mlst_set (mlst_lt a4), by simp [hl], okt_app hg (by simp [okt, hx]), p4.set hne2.1 hne2.2, (f3.tr f4).set (.inr (Nat.le_refl _))⟩⟩
    · rintro M3 ⟨acc, ha, hal, hg, p3, f3⟩
      rw [rngD_len] at hal
      have m3 := f3.lst (f2.lst mT (by simp [hne])) (by simp [hne])
      have j3 := f3.lst (f2.lst hj1 (by simp [hj])) (by simp [hj])
      conv => whnf
      rw [lstAt_of ha]
      conv => whnf
      refine ⟨sz rfl, eqM_nil (txs_norefs (okt_txs hg)) ?_⟩
      cases acc with
      | nil =>
        refine hK _ _ ⟨T, p ++ [z], m3, by rw [hz]; simp, hs.trans (List.sublist_append_left _ _), hT, j3, p3, (f1.tr f2).tr f3, _, _, rfl⟩
      | cons a0 ar =>
        have hTl : T.length ≤ 8 := by
          have := hs.length_le
          rw [List.length_map] at this
          have hz2 := congrArg List.length hz
          rw [List.length_append] at hz2
          omega
        refine ⟨rcv_lst m3, sz rfl, ?_⟩
        conv => whnf
        rw [m3]
        refine ⟨Nat.lt_of_lt_of_le (show (T.map entD).length < 100 by rw [List.length_map]; omega) (by decide), ?_⟩
        refine hK _ _ ⟨T ++ [(z, a0 :: ar)], p ++ [z], ?_, by rw [hz]; simp, ?_, ?_, ?_, p3.set hne.1 hne.2, ((f1.tr f2).tr f3).set (.inr (Nat.le_refl _)), _, _, rfl⟩
        · rw [mlst_set (mlst_lt m3), List.map_append]; rfl
        · rw [List.map_append]; exact hs.append (List.Sublist.refl _)
        · intro e he
          rcases List.mem_append.mp he with he | he
          · exact hT e he
          · simp at he; subst he; exact ⟨hg, by show (a0 :: ar).length ≤ 62; omega⟩
        · exact mlst_setne j3 (by omega)
  · rintro ρ M1 ⟨T, p, mT, hz, hs, hT, hj1, p1, f1, x, y, rfl⟩
    rw [List.append_nil] at hz
    subst hz
    have hTl := hs.length_le
    rw [List.length_map] at hTl
    exact cnTuple_ok mT (k T _ ⟨by omega, hT, hs.nodup nd⟩ hTl p1 f1)
end SG

set_option maxHeartbeats 1000000
namespace SG
open PySem PySem.Spec L2 DN
theorem w_law_put {T : Tr} {p : Str} {ts : List D} {M R Ex} (hT : okT T) (hl : T.length ≤ 7) (ht : txOk (p, ts)) (k : ∀ (T' : Tr) M', okT T' → T'.length ≤ T.length + 1 → Fr [] M M' → R (treeD T') M') : F_law_put [treeD T, .str p, .tup ts] M R Ex := by
  unfold F_law_put
  have sub : (T.filter fun e => !decide (e.1 = p)).Sublist T := List.filter_sublist
  have len := sub.length_le
  have fin : ∀ (T2 : Tr) (x4 : Option D) (M2 : Mem), okT T2 → T2.length ≤ T.length + 1 → mlst M2 M.length = some (T2.map entD) → Fr [] M M2 → r_law_put_1 (SD.top R Ex) [some (treeD T), some (.str p), some (.tup ts), some (.ref M.length), x4] M2 := by
    intro T2 x4 M2 h2 l2 m2 f2
    conv => whnf
    rw [lstAt_of m2]
    refine sortK_ents h2.txt (by have := h2.len; omega) fun T' hp _ => ?_
    refine cnTuple_ok mlst_new (k T' _ ⟨by rw [hp.length_eq]; exact h2.len, fun e he => h2.txt e (hp.mem_iff.mp he), (hp.map _).nodup_iff.mpr h2.nd⟩ (by rw [hp.length_eq]; exact l2) (f2.tr0 Fr.app))
  refine lcL_pure entD (fun e => !decide (e.1 = p)) entD (by simp) T (fun _ _ => trivial) (fun e M3 Kt Kf he f3 hT' hF => ?_) (acc := []) mlst_new (Nat.le_trans (show 0 + T.length ≤ 1000 by omega) (by decide)) fun M3 f3 m3 => ?_
  · refine ⟨_, rfl, ?_⟩
    conv => whnf
    rw [eqS]
    cases h : decide (e.1 = p) with
    | true => exact hF (by rw [h]; rfl) _ Fr.refl
    | false => exact hT' (by rw [h]; rfl) _ Fr.refl
  · rw [List.nil_append] at m3
    have fr3 : Fr [] M M3 := ((Fr.app (S := [])).trans f3 (fun i hi hl => by simp at hi; subst hi; simp at hl)).mono fun _ h => by cases h
    have okF : okT (T.filter fun e => !decide (e.1 = p)) := ⟨by omega, fun e he => hT.txt e (sub.mem he), (sub.map _).nodup hT.nd⟩
    refine ⟨sz rfl, eqM_nil (txs_norefs (okt_txs ht.1)) ?_⟩
    cases h : decide (ts = []) with
    | true => exact fin _ _ _ okF (by omega) m3 fr3
    | false =>
      refine ⟨rcv_lst m3, sz rfl, ?_⟩
      conv => whnf
      rw [m3]
      refine ⟨Nat.lt_of_lt_of_le (show _ < 100 by rw [List.length_map]; omega) (by decide), ?_⟩
      refine fin ((T.filter fun e => !decide (e.1 = p)) ++ [(p, ts)]) _ _ ⟨by rw [List.length_append]; show _ + 1 ≤ 8; omega, fun e he => ?_, ?_⟩ (by rw [List.length_append]; show _ + 1 ≤ _; omega) (by rw [mlst_set (mlst_lt m3), List.map_append]; rfl) (fr3.set (.inr (Nat.le_refl _)))
      · rcases List.mem_append.mp he with he | he
        · exact okF.txt e he
        · simp at he; subst he; exact ht
      · rw [List.map_append]
        refine List.nodup_append.mpr ⟨okF.nd, by simp, fun a ha b hb e => ?_⟩
        simp at hb
        subst hb
        subst e
        obtain ⟨x, hx, e⟩ := List.mem_map.mp ha
        have := (List.mem_filter.mp hx).2
        simp [e] at this
/-! ### spots -/
def spotD (d : D) : Prop := ∃ p x, okl x = true ∧ d = .tup [.str p, .str x]
theorem w_law_spots {t : Nat} {Ts : List Tr} {M R Ex} (ht : mlst M t = some (Ts.map treeD)) (hT : ∀ T ∈ Ts, okT T) (hl : Ts.length ≤ 2) (k : ∀ (sp : List D) (j : Nat) M', M.length ≤ j → mlst M' j = some sp → (∀ d ∈ sp, spotD d) → sp.length ≤ 992 → Fr [] M M' → R (.ref j) M') : F_law_spots [.ref t] M R Ex := by
  unfold F_law_spots
  refine ⟨sz rfl, ?_⟩
  have htl := mlst_lt ht
  conv => whnf
  rw [lstAt_of (Fr.app (S := []).lst ht)]
  refine forL_map treeD (fun r ρ M' => (∀ T ∈ r, okT T) ∧ (∃ (acc : List D), mlst M' M.length = some acc ∧ acc.length + 496 * r.length ≤ 992 ∧ ∀ d ∈ acc, spotD d) ∧ Fr [] M M' ∧ ∃ (x y : Option D), ρ = [some (.ref t), some (.ref M.length), x, y, none])
    (fun r ρ M' h => lstAt_of (h.2.2.1.lst ht)) ?_ ?_ Ts _ _ ⟨hT, ⟨[], mlst_new, by simp; omega, fun _ h => by simp at h⟩, Fr.app, _, _, rfl⟩
  · rintro T r ρ M1 Kn ⟨hr, ⟨acc, hm, hl, hg⟩, f, x, y, rfl⟩ hK
    have oT := hr T (by simp)
    have o8 := oT.len
    simp only [List.length_cons] at hl
    refine ⟨_, rfl, ?_⟩
    refine forL_map entD (fun s ρ M' => (∀ e ∈ s, txOk e) ∧ (∃ (acc : List D), mlst M' M.length = some acc ∧ acc.length + 62 * s.length + 496 * r.length ≤ 992 ∧ ∀ d ∈ acc, spotD d) ∧ Fr [] M M' ∧ ∃ (y : Option D), ρ = [some (.ref t), some (.ref M.length), some (treeD T), y, none])
      (fun _ _ _ _ => trivial) ?_ ?_ T _ _ ⟨oT.txt, ⟨acc, hm, by omega, hg⟩, f, _, rfl⟩
    · rintro e s ρ M2 Kn2 ⟨hs, ⟨acc, hm, hl, hg⟩, f, y, rfl⟩ hK2
      obtain ⟨e1, e2⟩ := hs e (by simp)
      simp only [List.length_cons] at hl
      refine ⟨_, rfl, ?_⟩
      refine ⟨rcv_lst hm, ?_⟩
      refine lcP (fun _ => true) (fun x => .tup [.str e.1, x]) (by simp) e.2 (fun _ _ => trivial) (fun i M3 Kt Kf hi f3 hT hF => ?_) (acc := []) mlst_new (Nat.le_trans (show 0 + e.2.length ≤ 1000 by omega) (by decide)) fun M3 f3 m3 => ?_
      · exact ⟨_, rfl, sz rfl, hT rfl _ Fr.refl⟩
      · have m3' := f3.lst (Fr.app (S := []).lst hm) (by have := mlst_lt hm; simp; omega)
        rw [ft, List.nil_append] at m3
        conv => whnf
        rw [m3', m3]
        refine ⟨Nat.le_trans (show acc.length + (e.2.map _).length ≤ 1000 by rw [List.length_map]; omega) (by decide), ?_⟩
        refine hK2 _ _ ⟨fun x hx => hs x (by simp [hx]), ⟨_, mlst_set (mlst_lt m3'), by rw [List.length_append, List.length_map]; omega, fun d hd => ?_⟩, ?_, _, rfl⟩
        · rcases List.mem_append.mp hd with hd | hd
          · exact hg d hd
          · obtain ⟨z, hz, rfl⟩ := List.mem_map.mp hd
            obtain ⟨w, rfl, hw⟩ := okt_iff.mp e1 z hz
            exact ⟨_, _, hw, rfl⟩
        · exact (f.tr0 (((Fr.app (S := [])).trans f3 (fun i hi hl => by simp at hi; subst hi; simp at hl)).mono fun _ h => by cases h)).set (.inr (Nat.le_refl _))
    · rintro ρ M2 ⟨_, ⟨acc, hm, hl, hg⟩, f, y, rfl⟩
      exact hK _ _ ⟨fun T hT => hr T (by simp [hT]), ⟨acc, hm, by simp at hl; omega, hg⟩, f, _, _, rfl⟩
  · rintro ρ M1 ⟨_, ⟨acc, hm, hl, hg⟩, f, x, y, rfl⟩
    exact k acc _ _ (Nat.le_refl _) hm hg (by omega) f
/-! ### a drawn check -/
theorem w_law_check {n m j q : Nat} {wd : Int} {zs : List Str} {sp : List D} {M R Ex} (h : Bg M n m) (hj : mlst M j = some (zs.map D.str)) (hjn : j ≠ n ∧ j ≠ m) (hz : 0 < zs.length ∧ zs.length ≤ 8) (hq : mlst M q = some sp) (hqn : q ≠ n ∧ q ≠ m) (hs : ∀ d ∈ sp, spotD d) (hsl : sp.length ≤ 992)
    (k : ∀ (c : Chk) M', Bg M' n m → Fr [n, m] M M' → R (chkD c) M') : F_law_check [.ref n, .ref j, .ref q, .int wd] M R Ex := by
  unfold F_law_check
  have w1 := @w_law_line; obtain ⟨Fw1, qw1⟩ := op F_law_line; rw [← qw1] at w1 ⊢; clear qw1
  have w2 := @w_take; obtain ⟨Fw2, qw2⟩ := op F_law_take; rw [← qw2] at w2 ⊢; clear qw2
  have rest2 : ∀ (w : Str) (x4 x5 x6 : Option D) (M1 : Mem), Bg M1 n m → Fr [n, m] M M1 → r_law_check_2 Fw1 Fw2 (SD.top R Ex) [some (.ref n), some (.ref j), some (.ref q), some (.int wd), x4, x5, x6, some (.str w)] M1 := by
    intro w x4 x5 x6 M1 p1 f1
    have rest1 : ∀ w : Str, r_law_check_1 Fw1 Fw2 (SD.top R Ex) [some (.ref n), some (.ref j), some (.ref q), some (.int wd), x4, x5, x6, some (.str w)] M1 := by
      intro w
      refine w2 p1 (by decide) (by decide) fun x M2 x0 x1 p2 f2 => ?_
      refine ⟨sz rfl, ?_⟩
      have := k (.most w x.toNat) M2 p2 (f1.tr f2)
      simp only [chkD] at this
      rw [Int.toNat_of_nonneg x0] at this
      exact this
    conv => whnf
    rw [eqS]
    refine bm (fun e => ?_) (fun e => ?_)
    · exact rest1 _
    · exact rest1 _
  have rest3 : ∀ (p l a b : Str) (x6 x7 : Option D) (M1 : Mem), okl l = true → Bg M1 n m → Fr [n, m] M M1 → r_law_check_3 Fw1 Fw2 (SD.top R Ex) [some (.ref n), some (.ref j), some (.ref q), some (.int wd), some (.tup [.str p, .str l]), some (.tup [.str a, .str b]), x6, x7] M1 := by
    intro p l a b x6 x7 M1 hl p1 f1
    refine w2 p1 (by decide) (by decide) fun x M2 x0 x1 p2 f2 => ?_
    conv => whnf
    rw [eqI]
    refine bm (fun e0 => ?_) (fun e0 => ?_)
    · exact ⟨sz rfl, k (.has p l) _ p2 (f1.tr f2)⟩
    conv => whnf
    rw [eqI]
    refine bm (fun e1 => ?_) (fun e1 => ?_)
    · exact ⟨sz rfl, k (.lacks p l) _ p2 (f1.tr f2)⟩
    conv => whnf
    rw [eqI]
    refine bm (fun e3 => ?_) (fun e3 => ?_)
    · exact ⟨sz rfl, k (.ties l b) _ p2 (f1.tr f2)⟩
    refine w2 p2 (by decide) (by decide) fun y M3 y0 y1 p3 f3 => ?_
    conv => whnf
    rw [eqI]
    refine bm (fun e4 => ?_) (fun e4 => ?_)
    · have := okl_len hl
      exact ⟨Nat.le_trans (show l.length ≤ 100 by omega) (by decide), rest2 _ _ _ _ _ p3 ((f1.tr f2).tr f3)⟩
    · exact rest2 _ _ _ _ _ p3 ((f1.tr f2).tr f3)
  have draw : ∀ (M1 : Mem) (R' : KD) (X : XC), Bg M1 n m → Fr [n, m] M M1 → (0 : Int) < (sp.length : Int) → (∀ p l M2, okl l = true → Bg M2 n m → Fr [n, m] M M2 → R' (.tup [.str p, .str l]) M2) → eBin opIx (eVar 2) (eCall Fw2 (aCons (eVar 0) (aCons (eCallB cnLen (aCons (eVar 2) aNil)) aNil))) X [some (.ref n), some (.ref j), some (.ref q), some (.int wd)] M1 R' := by
    intro M1 R' X p1 f1 h0 k'
    conv => whnf
    rw [lstAt_of (f1.lst hq (by simp [hqn]))]
    refine w2 p1 h0 (by omega) fun x M2 x0 x1 p2 f2 => ?_
    obtain ⟨d, hd, a1⟩ := pick_D x0 x1
    obtain ⟨p, l, hl, rfl⟩ := hs d hd
    conv => whnf
    rw [lstAt_of ((f1.tr f2).lst hq (by simp [hqn]))]
    conv => whnf
    rw [a1]
    exact k' _ _ _ hl p2 (f1.tr f2)
  have rest4 : ∀ (p l a b : Str) (x6 x7 : Option D) (M1 : Mem), okl l = true → Bg M1 n m → Fr [n, m] M M1 → r_law_check_4 Fw1 Fw2 (SD.top R Ex) [some (.ref n), some (.ref j), some (.ref q), some (.int wd), some (.tup [.str p, .str l]), some (.tup [.str a, .str b]), x6, x7] M1 := by
    intro p l a b x6 x7 M1 hl p1 f1
    conv => whnf
    rw [lstAt_of (f1.lst hq (by simp [hqn]))]
    conv => whnf
    refine bm (fun e0 => ?_) (fun e0 => ?_)
    · refine w2 p1 (by decide) (by decide) fun x M2 x0 x1 p2 f2 => ?_
      conv => whnf
      refine bm (fun e1 => ?_) (fun e1 => ?_)
      · refine draw M2 _ _ p2 (f1.tr f2) (of_decide_eq_true e0) fun a b M3 hb p3 f3 => ?_
        exact rest3 _ _ _ _ _ _ _ hl p3 f3
      · exact rest3 _ _ _ _ _ _ _ hl p2 (f1.tr f2)
    · exact rest3 _ _ _ _ _ _ _ hl p1 f1
  conv => whnf
  rw [lstAt_of hj]
  refine w2 h (by rw [List.length_map]; omega) (by rw [List.length_map]; omega) fun x M1 x0 x1 p1 f1 => ?_
  rw [List.length_map] at x1
  obtain ⟨p, hp, a1⟩ := pickS x0 x1
  conv => whnf
  rw [lstAt_of (f1.lst hj (by simp [hjn]))]
  conv => whnf
  rw [a1]
  refine w1 p1 fun l M2 hl p2 f2 => ?_
  refine ⟨sz rfl, ?_⟩
  have f12 := f1.tr f2
  conv => whnf
  rw [lstAt_of (f12.lst hq (by simp [hqn]))]
  conv => whnf
  refine bm (fun e0 => ?_) (fun e0 => ?_)
  · refine w2 p2 (by decide) (by decide) fun x M3 x0 x1 p3 f3 => ?_
    conv => whnf
    refine bm (fun e1 => ?_) (fun e1 => ?_)
    · refine draw M3 _ _ p3 (f12.tr f3) (of_decide_eq_true e0) fun a b M4 hb p4 f4 => ?_
      exact rest4 _ _ _ _ _ _ _ hb p4 f4
    · exact rest4 _ _ _ _ _ _ _ hl p3 (f12.tr f3)
  · exact rest4 _ _ _ _ _ _ _ hl p2 f12
end SG

set_option maxHeartbeats 1000000
namespace SG
open PySem PySem.Spec L2 DN
/-! ### a text put into a tree -/
def midT (p : Str) (ts : List D) : Tr := if ts = [] then [] else [(p, ts)]
def putT (T : Tr) (p : Str) (ts : List D) : Tr := ((T.filter fun e => ltS e.1 p) ++ midT p ts) ++ T.filter fun e => ltS p e.1
theorem mid_mem {p : Str} {ts : List D} {e : Str × List D} (h : e ∈ midT p ts) : e = (p, ts) ∧ ts ≠ [] := by
  unfold midT at h
  split at h
  · simp at h
  · rename_i hn
    simp at h
    exact ⟨h, hn⟩
theorem mid_len {p : Str} {ts : List D} : (midT p ts).length ≤ 1 := by unfold midT; split <;> simp
theorem put_asc {T : Tr} {p : Str} {ts : List D} (h : asc T) : asc (putT T p ts) := by
  unfold putT asc
  refine List.pairwise_append.mpr ⟨List.pairwise_append.mpr ⟨h.sublist List.filter_sublist, ?_, fun a ha b hb => ?_⟩, h.sublist List.filter_sublist, fun a ha b hb => ?_⟩
  · unfold midT; split
    · exact List.Pairwise.nil
    · exact List.pairwise_singleton _ _
  · rw [(mid_mem hb).1]
    exact (List.mem_filter.mp ha).2
  · have hb := (List.mem_filter.mp hb).2
    rcases List.mem_append.mp ha with ha | ha
    · exact ltS_trans (List.mem_filter.mp ha).2 hb
    · rw [(mid_mem ha).1]; exact hb
theorem put_perm {T : Tr} {p : Str} {ts : List D} : ((T.filter fun e => !decide (e.1 = p)) ++ midT p ts).Perm (putT T p ts) := by
  unfold putT
  have e1 : (T.filter fun e => !decide (e.1 = p)).Perm ((T.filter fun e => ltS e.1 p) ++ T.filter fun e => ltS p e.1) := by
    induction T with
    | nil => exact List.Perm.refl _
    | cons e r ih =>
      rw [List.filter_cons, List.filter_cons, List.filter_cons]
      cases h1 : ltS e.1 p with
      | true =>
        have h2 := ltS_asym h1
        have h3 : ¬ e.1 = p := fun q => by rw [q, ltS_irr] at h1; cases h1
        rw [h2]
        simp only [h3, decide_false, Bool.not_false, if_true, Bool.false_eq_true, if_false]
        exact ih.cons e
      | false =>
        cases h2 : ltS p e.1 with
        | true =>
          have h3 : ¬ e.1 = p := fun q => by rw [q, ltS_irr] at h2; cases h2
          simp only [h3, decide_false, Bool.not_false, if_true, Bool.false_eq_true, if_false]
          exact (ih.cons e).trans List.perm_middle.symm
        | false =>
          have h3 : e.1 = p := ltS_tot h1 h2
          simp only [h3, decide_true, Bool.not_true, Bool.false_eq_true, if_false]
          exact ih
  refine (e1.append_right _).trans ?_
  rw [List.append_assoc, List.append_assoc]
  exact List.Perm.append_left _ List.perm_append_comm
theorem textAt_skip {p : Str} {B : Tr} : ∀ {A : Tr}, (∀ e ∈ A, e.1 ≠ p) → textAt (A ++ B) p = textAt B p
  | [], _ => rfl
  | e :: r, h => by
    rw [List.cons_append, textAt, if_neg (h e (by simp))]
    exact textAt_skip fun x hx => h x (by simp [hx])
theorem textAt_none {p : Str} {A : Tr} (h : ∀ e ∈ A, e.1 ≠ p) : textAt A p = [] := by
  have := textAt_skip (B := []) h
  rwa [List.append_nil] at this
theorem put_at {T : Tr} {p : Str} {ts : List D} : textAt (putT T p ts) p = ts := by
  unfold putT
  rw [List.append_assoc, textAt_skip fun e he q => by
    have := (List.mem_filter.mp he).2
    rw [q, ltS_irr] at this
    cases this]
  have hB : ∀ e ∈ T.filter fun e => ltS p e.1, e.1 ≠ p := fun e he q => by
    have := (List.mem_filter.mp he).2
    rw [q, ltS_irr] at this
    cases this
  unfold midT
  split
  · rename_i h
    rw [List.nil_append, textAt_none hB, h]
  · rw [List.cons_append, textAt, if_pos rfl]
end SG

set_option maxHeartbeats 1000000
namespace SG
open PySem PySem.Spec L2 DN
/-! ### edits in plain Lean -/
theorem valid_fits {t : List D} (ht : txs t = true) : ∀ {hs : List Hk} {low : Int}, Valid t low hs → ∀ h ∈ hs, fitsB t h = true := by
  intro hs low v h hh
  obtain ⟨v1, v2, v3, v4⟩ := v.mem h hh
  have hc : txs h.o = true := by rw [v3]; exact txs_take (txs_drop ht)
  exact (fitsB_iff ht hc).mpr ⟨v2, v3.symm⟩
theorem valid_mis {t : List D} (ht : txs t = true) {hs : List Hk} {low : Int} (v : Valid t low hs) : mis t hs = none := none_mis (valid_fits ht v)
theorem valid_ok {t : List D} (ht : txs t = true) {hs : List Hk} {low : Int} (h0 : 0 ≤ low) (v : Valid t low hs) : ∀ h ∈ hs, Hk.ok h := fun h hh => by
  obtain ⟨v1, v2, v3, v4⟩ := v.mem h hh
  exact ⟨by omega, by rw [v3]; exact txs_take (txs_drop ht), v4⟩
theorem cut_app {p q r : List D} {a b : Nat} (ha : a = p.length) (hb : b = p.length + q.length) : cut (p ++ (q ++ r)) a b = q := by
  subst ha hb
  unfold cut
  rw [List.drop_left, Nat.add_sub_cancel_left, List.take_left]
theorem inv_ok {t : List D} (ht : txs t = true) : ∀ {hs : List Hk} {p : List D} {low d g : Int}, Valid t low hs → 0 ≤ d → d ≤ low → (p.length : Int) = d + g →
    Valid (p ++ ap t d hs) (low + g) (inv g hs) ∧ ap (p ++ ap t d hs) (d + g) (inv g hs) = t.drop d.toNat
  | [], p, low, d, g, _, h0, h1, h2 => by
    refine ⟨trivial, ?_⟩
    simp only [ap, inv]
    have : (d + g).toNat = p.length := by omega
    rw [this, List.drop_left]
  | h :: r, p, low, d, g, v, h0, h1, h2 => by
    obtain ⟨v1, v2, v3, v4, v5⟩ := v
    have se := h.se
    have ho : (h.o.length : Int) = h.e - h.s := by unfold Hk.e; omega
    have lc : (cut t d.toNat h.s.toNat).length = h.s.toNat - d.toNat := cut_len (by omega)
    have e1 : p ++ ap t d (h :: r) = (p ++ cut t d.toNat h.s.toNat ++ h.n) ++ ap t h.e r := by simp [ap]
    have hg : ((p ++ cut t d.toNat h.s.toNat ++ h.n).length : Int) = h.e + (g + h.g) := by
      simp only [List.length_append, lc]
      unfold Hk.g
      omega
    obtain ⟨i1, i2⟩ := inv_ok ht (hs := r) (p := p ++ cut t d.toNat h.s.toNat ++ h.n) (g := g + h.g) v5 (by omega) (by omega) hg
    rw [e1]
    have e2 : (p ++ cut t d.toNat h.s.toNat ++ h.n) ++ ap t h.e r = (p ++ cut t d.toNat h.s.toNat) ++ (h.n ++ ap t h.e r) := by simp
    have e3 : (p ++ cut t d.toNat h.s.toNat ++ h.n) ++ ap t h.e r = p ++ (cut t d.toNat h.s.toNat ++ (h.n ++ ap t h.e r)) := by simp
    have eh : (⟨h.s + g, h.n, h.o⟩ : Hk).e = h.e + (g + h.g) := by unfold Hk.e Hk.g; simp only; omega
    constructor
    · refine ⟨by show low + g ≤ h.s + g; omega, ?_, ?_, by show txs h.o = true; rw [v3]; exact txs_take (txs_drop ht), ?_⟩
      · rw [eh]
        simp only [List.length_append] at hg ⊢
        omega
      · rw [eh]
        show h.n = _
        rw [e2, cut_app]
        · rw [List.length_append, lc]; show (h.s + g).toNat = _; omega
        · simp only [List.length_append, lc] at hg ⊢
          omega
      · rw [eh]
        exact i1.mono (by omega)
    · show cut _ (d + g).toNat (h.s + g).toNat ++ h.o ++ ap _ (⟨h.s + g, h.n, h.o⟩ : Hk).e (inv (g + h.g) r) = _
      rw [eh, i2, v3]
      rw [e3, cut_app (by omega) (by rw [lc]; omega)]
      rw [cut_cut (by omega) (by omega), cut_drop (by omega)]
theorem inv_inv : ∀ {hs : List Hk} {g : Int}, inv (-g) (inv g hs) = hs
  | [], _ => rfl
  | h :: r, g => by
    have e : -g + (⟨h.s + g, h.n, h.o⟩ : Hk).g = -(g + h.g) := by unfold Hk.g; simp only; omega
    show (⟨h.s + g + -g, h.o, h.n⟩ : Hk) :: inv (-g + (⟨h.s + g, h.n, h.o⟩ : Hk).g) (inv (g + h.g) r) = h :: r
    rw [e, inv_inv]
    congr 1
    cases h
    simp only [Hk.mk.injEq, and_true]
    omega
theorem cut_le {t : List D} {a b : Nat} : (cut t a b).length ≤ t.length := by
  unfold cut
  rw [List.length_take, List.length_drop]
  omega
theorem ap_len {t : List D} {B : Nat} : ∀ {hs : List Hk} {d : Int}, (∀ h ∈ hs, h.n.length ≤ B) → (ap t d hs).length ≤ (hs.length + 1) * t.length + hs.length * B
  | [], d, _ => by simp only [ap, List.length_drop, List.length_nil]; omega
  | h :: r, d, hB => by
    have ih := ap_len (t := t) (hs := r) (d := h.e) fun x hx => hB x (by simp [hx])
    have h1 := hB h (by simp)
    have h2 : (cut t d.toNat h.s.toNat).length ≤ t.length := cut_le
    simp only [ap, List.length_append, List.length_cons]
    rw [Nat.add_mul (r.length + 1) 1, Nat.add_mul r.length 1 B]
    omega
theorem inv_mem : ∀ {hs : List Hk} {g : Int} {x : Hk}, x ∈ inv g hs → ∃ h ∈ hs, x.o = h.n ∧ x.n = h.o
  | h :: r, g, x, hx => by
    rcases List.mem_cons.mp hx with rfl | hx
    · exact ⟨h, by simp, rfl, rfl⟩
    · obtain ⟨y, hy, q⟩ := inv_mem hx
      exact ⟨y, by simp [hy], q⟩
theorem fit_edit {hs : List Hk} (hl : hs.length ≤ 10000) (h : ∀ h ∈ hs, txs h.o = true ∧ txs h.n = true ∧ h.o.length ≤ 10000 ∧ h.n.length ≤ 10000) : fit 6 (.tup (hs.map Hk.d)) := by
  refine ⟨by rw [List.length_map]; omega, fun d hd => ?_⟩
  obtain ⟨x, hx, rfl⟩ := List.mem_map.mp hd
  obtain ⟨a, b, c, e⟩ := h x hx
  refine ⟨show 3 ≤ 16777216 by decide, fun y hy => ?_⟩
  simp only [List.mem_cons, List.not_mem_nil, or_false] at hy
  have tx : ∀ xs : List D, txs xs = true → xs.length ≤ 10000 → fit 4 (.tup xs) := fun xs q l => ⟨by omega, fun z hz => by obtain ⟨s, rfl⟩ := txs_iff.mp q z hz; trivial⟩
  rcases hy with rfl | rfl | rfl
  · trivial
  · exact tx _ a c
  · exact tx _ b e
theorem fit_txs {xs : List D} (q : txs xs = true) (l : xs.length ≤ 10000000) : fit 6 (.tup xs) := ⟨by omega, fun z hz => by obtain ⟨s, rfl⟩ := txs_iff.mp q z hz; trivial⟩
theorem fit_ints {ns : List Int} (l : ns.length ≤ 10000000) : fit 6 (.tup (ns.map D.int)) := ⟨by rw [List.length_map]; omega, fun z hz => by obtain ⟨s, _, rfl⟩ := List.mem_map.mp hz; trivial⟩
theorem ap_txs {t : List D} (ht : txs t = true) : ∀ {hs : List Hk} {d : Int}, (∀ h ∈ hs, txs h.n = true) → txs (ap t d hs) = true
  | [], d, _ => txs_drop ht
  | h :: r, d, hn => by
    simp only [ap]
    exact txs_app (txs_app (txs_take (txs_drop ht)) (hn h (by simp))) (ap_txs ht fun x hx => hn x (by simp [hx]))
theorem ap_okt {t : List D} (ht : okt t = true) : ∀ {hs : List Hk} {d : Int}, (∀ h ∈ hs, okt h.n = true) → okt (ap t d hs) = true
  | [], d, _ => okt_iff.mpr fun x hx => okt_iff.mp ht x (List.mem_of_mem_drop hx)
  | h :: r, d, hn => by
    simp only [ap]
    exact okt_app (okt_app (okt_cut ht) (hn h (by simp))) (ap_okt ht fun x hx => hn x (by simp [hx]))
end SG

set_option maxHeartbeats 1000000
namespace SG
open PySem PySem.Spec L2 DN
/-! ### trees and patches in plain Lean -/
theorem len_sub {α : Type} [DecidableEq α] : ∀ {l m : List α}, l.Nodup → (∀ x ∈ l, x ∈ m) → l.length ≤ m.length
  | [], _, _, _ => Nat.zero_le _
  | a :: t, m, nd, h => by
    obtain ⟨n1, n2⟩ := List.nodup_cons.mp nd
    have ha := h a (by simp)
    have ih := len_sub (l := t) (m := m.erase a) n2 fun x hx => by
      have hne : x ≠ a := fun e => n1 (by rw [← e]; exact hx)
      exact (List.mem_erase_of_ne hne).mpr (h x (by simp [hx]))
    rw [List.length_erase_of_mem ha] at ih
    have := List.length_pos_of_mem ha
    simp
    omega
/-- a tree over these paths, its texts not longer than B -/
structure GT (zs : List Str) (B : Nat) (T : Tr) : Prop where
  up : asc T
  sub : ∀ e ∈ T, e.1 ∈ zs
  txt : ∀ e ∈ T, okt e.2 = true ∧ e.2.length ≤ B
theorem GT.len {zs : List Str} {B : Nat} {T : Tr} (h : GT zs B T) : T.length ≤ zs.length := by
  have := len_sub (asc_nd h.up) (m := zs) fun x hx => by
    obtain ⟨e, he, rfl⟩ := List.mem_map.mp hx
    exact h.sub e he
  rwa [List.length_map] at this
theorem GT.ok {zs : List Str} {B : Nat} {T : Tr} (h : GT zs B T) (hz : zs.length ≤ 7) (hB : B ≤ 62) : okT T := ⟨by have := h.len; omega, fun e he => ⟨(h.txt e he).1, by have := (h.txt e he).2; omega⟩, asc_nd h.up⟩
theorem GT.mono {zs : List Str} {B C : Nat} {T : Tr} (h : GT zs B T) (l : B ≤ C) : GT zs C T := ⟨h.up, h.sub, fun e he => ⟨(h.txt e he).1, by have := (h.txt e he).2; omega⟩⟩
theorem GT.at {zs : List Str} {B : Nat} (p : Str) : ∀ {T : Tr}, (∀ e ∈ T, okt e.2 = true ∧ e.2.length ≤ B) → okt (textAt T p) = true ∧ (textAt T p).length ≤ B
  | [], _ => ⟨rfl, by simp [textAt]⟩
  | e :: r, h => by
    rw [textAt]
    split
    · exact h e (by simp)
    · exact GT.at (zs := zs) p fun x hx => h x (by simp [hx])
theorem put_mem {T : Tr} {p : Str} {ts : List D} {e : Str × List D} (h : e ∈ putT T p ts) : e ∈ T ∨ e = (p, ts) := by
  rcases List.mem_append.mp (put_perm.mem_iff.mpr h) with he | he
  · exact .inl (List.mem_filter.mp he).1
  · exact .inr (mid_mem he).1
theorem GT.put {zs : List Str} {B : Nat} {T : Tr} {p : Str} {ts : List D} (h : GT zs B T) (hp : p ∈ zs) (ht : okt ts = true) (hl : ts.length ≤ B) : GT zs B (putT T p ts) where
  up := put_asc h.up
  sub := fun e he => by
    rcases put_mem he with he | rfl
    · exact h.sub e he
    · exact hp
  txt := fun e he => by
    rcases put_mem he with he | rfl
    · exact h.txt e he
    · exact ⟨ht, hl⟩
theorem textAt_filter {q : Str} {f : Str × List D → Bool} : ∀ {T : Tr}, (∀ e, e.1 = q → f e = true) → textAt (T.filter f) q = textAt T q
  | [], _ => rfl
  | e :: r, h => by
    have ih := textAt_filter (T := r) h
    rw [List.filter_cons]
    by_cases hq : e.1 = q
    · rw [if_pos (h e hq), textAt, textAt, if_pos hq, if_pos hq]
    · split
      · rw [textAt, textAt, if_neg hq, if_neg hq, ih]
      · rw [textAt, if_neg hq, ih]
theorem put_ne {T : Tr} {p q : Str} {ts : List D} (h : p ≠ q) : textAt (putT T p ts) q = textAt T q := by
  unfold putT
  have mid : ∀ B : Tr, textAt (midT p ts ++ B) q = textAt B q := fun B => textAt_skip fun e he => by rw [(mid_mem he).1]; exact h
  cases h1 : ltS q p with
  | true =>
    have h2 := ltS_asym h1
    have key : ∀ {A B : Tr}, (∀ e ∈ B, e.1 ≠ q) → textAt (A ++ B) q = textAt A q := by
      intro A B hB
      induction A with
      | nil => exact textAt_none hB
      | cons e r ih => rw [List.cons_append, textAt, textAt, ih]
    rw [List.append_assoc, key (fun e he => ?_)]
    · exact textAt_filter fun e he => by rw [he]; exact h1
    · rcases List.mem_append.mp he with he | he
      · rw [(mid_mem he).1]; exact h
      · intro z
        have := (List.mem_filter.mp he).2
        rw [z, h2] at this
        cases this
  | false =>
    have h2 : ltS p q = true := by
      cases h2 : ltS p q with
      | true => rfl
      | false => exact absurd (ltS_tot h2 h1) h
    rw [List.append_assoc, textAt_skip fun e he z => by
      have := (List.mem_filter.mp he).2
      rw [z, h1] at this
      cases this]
    rw [mid]
    exact textAt_filter fun e he => by rw [he]; exact h2
/-! ### patches -/
abbrev Pa := List (Str × List Hk)
def partK (e : Str × List Hk) : D := .tup [.str e.1, .tup (e.2.map Hk.d)]
def paD (P : Pa) : D := .tup (P.map partK)
/-- a patch put to a tree: each edit to the text that stood there -/
def apP (T0 : Tr) : Tr → Pa → Tr
  | R, [] => R
  | R, e :: r => apP T0 (putT R e.1 (ap (textAt T0 e.1) 0 e.2)) r
structure PaOk (zs : List Str) (T : Tr) (P : Pa) : Prop where
  nd : (P.map (·.1)).Nodup
  sub : ∀ e ∈ P, e.1 ∈ zs
  val : ∀ e ∈ P, Valid (textAt T e.1) 0 e.2
  hk : ∀ e ∈ P, e.2.length ≤ 2 ∧ ∀ h ∈ e.2, okt h.n = true ∧ h.n.length ≤ 3
theorem ap_len3 {t : List D} : ∀ {hs : List Hk} {d : Int}, (∀ h ∈ hs, h.n.length ≤ 3) → Valid t d hs → 0 ≤ d → (ap t d hs).length ≤ t.length + 3 * hs.length
  | [], d, _, _, _ => by simp only [ap, List.length_drop, List.length_nil]; omega
  | h :: r, d, hB, v, h0 => by
    obtain ⟨v1, v2, v3, v4, v5⟩ := v
    have hse := h.se
    have key : ∀ {hs : List Hk} {d : Int}, (∀ h ∈ hs, h.n.length ≤ 3) → Valid t d hs → 0 ≤ d → (ap t d hs).length ≤ (t.length - d.toNat) + 3 * hs.length := by
      intro hs
      induction hs with
      | nil => intro d _ _ _; simp only [ap, List.length_drop, List.length_nil]; omega
      | cons h r ih =>
        intro d hB v h0
        obtain ⟨v1, v2, v3, v4, v5⟩ := v
        have hse := h.se
        have := ih (d := h.e) (fun x hx => hB x (by simp [hx])) (v5.mono (by omega)) (by omega)
        have hn := hB h (by simp)
        simp only [ap, List.length_append, List.length_cons]
        rw [cut_len (by omega)]
        omega
    have := key (hs := h :: r) (d := d) hB ⟨v1, v2, v3, v4, v5⟩ h0
    omega
theorem apP_ok {zs : List Str} {B : Nat} {T0 : Tr} (h0 : GT zs B T0) : ∀ {P : Pa} {R : Tr}, PaOk zs T0 P → GT zs (B + 6) R → GT zs (B + 6) (apP T0 R P)
  | [], R, _, hR => hR
  | e :: r, R, q, hR => by
    obtain ⟨n1, n2⟩ := List.nodup_cons.mp q.nd
    have q2 : PaOk zs T0 r := ⟨n2, fun x hx => q.sub x (by simp [hx]), fun x hx => q.val x (by simp [hx]), fun x hx => q.hk x (by simp [hx])⟩
    obtain ⟨a, b⟩ := GT.at (zs := zs) e.1 h0.txt
    obtain ⟨l, g⟩ := q.hk e (by simp)
    have v := q.val e (by simp)
    refine apP_ok (P := r) (R := putT R e.1 (ap (textAt T0 e.1) 0 e.2)) h0 q2 (hR.put (q.sub e (by simp)) (ap_okt a fun h hh => (g h hh).1) ?_)
    have := ap_len3 (fun h hh => (g h hh).2) v (by omega)
    omega
theorem GT.apP {zs : List Str} {B : Nat} {T : Tr} (h : GT zs B T) {P : Pa} (q : PaOk zs T P) : GT zs (B + 6) (apP T T P) := apP_ok h q (h.mono (by omega))
/-- hunks put one by one, the last one first -/
def rv (t : List D) : List Hk → List D
  | [] => t
  | h :: r => (rv t r).take h.s.toNat ++ h.n ++ (rv t r).drop h.e.toNat
theorem rv_ap {t : List D} : ∀ {hs : List Hk} {low : Int} {d : Nat}, Valid t low hs → (d : Int) ≤ low → d ≤ t.length → rv t hs = t.take d ++ ap t d hs
  | [], low, d, _, _, _ => by simp only [rv, ap, Int.toNat_natCast, List.take_append_drop]
  | h :: r, low, d, v, hd, hl => by
    obtain ⟨v1, v2, v3, v4, v5⟩ := v
    have hse := h.se
    have ih := rv_ap (hs := r) (low := h.e + 1) (d := h.e.toNat) v5 (by omega) (by omega)
    have e1 : ((h.e.toNat : Nat) : Int) = h.e := by omega
    have ls : (t.take h.e.toNat).length = h.e.toNat := by rw [List.length_take]; omega
    rw [e1] at ih
    rw [rv, ih, List.take_append_of_le_length (by omega), List.take_take, Nat.min_eq_left (by omega)]
    rw [List.drop_append_of_le_length (by omega), List.drop_eq_nil_of_le (by omega), List.nil_append]
    simp only [ap, Int.toNat_natCast]
    rw [← List.append_assoc, ← List.append_assoc]
    congr 2
    have c := cut_drop (t := t.take h.s.toNat) (a := 0) (b := d) (by omega)
    unfold cut
    rw [← List.take_append_drop d (t.take h.s.toNat), List.take_take, Nat.min_eq_left (by omega), List.drop_take]
/-! ### changes in a row -/
structure Ch where
  nm : Str
  pa : Pa
def Ch.d (c : Ch) : D := .tup [.str c.nm, .str "ann", paD c.pa]
def trs (T : Tr) : List Ch → List Tr
  | [] => [T]
  | c :: r => T :: trs (apP T T c.pa) r
def Chn (zs : List Str) : Tr → List Ch → Prop
  | _, [] => True
  | T, c :: r => PaOk zs T c.pa ∧ Chn zs (apP T T c.pa) r
theorem trs_len : ∀ {cs : List Ch} {T : Tr}, (trs T cs).length = cs.length + 1
  | [], _ => rfl
  | c :: r, T => by rw [trs, List.length_cons, trs_len, List.length_cons]
theorem trs_ok {zs : List Str} : ∀ {cs : List Ch} {B : Nat} {T : Tr}, GT zs B T → Chn zs T cs → ∀ S ∈ trs T cs, GT zs (B + 6 * cs.length) S
  | [], B, T, h, _, S, hS => by
    simp only [trs, List.mem_cons, List.not_mem_nil, or_false] at hS
    subst hS
    exact h
  | c :: r, B, T, h, q, S, hS => by
    rcases List.mem_cons.mp hS with rfl | hS
    · exact h.mono (by omega)
    · have := trs_ok (h.apP q.1) q.2 S hS
      rw [List.length_cons]
      exact this.mono (by omega)
def lastT (T : Tr) : List Ch → Tr
  | [] => T
  | c :: r => lastT (apP T T c.pa) r
theorem Chn.snoc {zs : List Str} {c : Ch} : ∀ {cs : List Ch} {T : Tr}, Chn zs T cs → PaOk zs (lastT T cs) c.pa → Chn zs T (cs ++ [c])
  | [], T, _, q => ⟨q, trivial⟩
  | x :: r, T, h, q => ⟨h.1, Chn.snoc h.2 q⟩
theorem lastT_snoc {c : Ch} : ∀ {cs : List Ch} {T : Tr}, lastT T (cs ++ [c]) = apP (lastT T cs) (lastT T cs) c.pa
  | [], T => rfl
  | x :: r, T => by rw [List.cons_append, lastT, lastT, lastT_snoc]
theorem lastT_ok {zs : List Str} : ∀ {cs : List Ch} {B : Nat} {T : Tr}, GT zs B T → Chn zs T cs → GT zs (B + 6 * cs.length) (lastT T cs)
  | [], B, T, h, _ => h
  | c :: r, B, T, h, q => by
    have := lastT_ok (h.apP q.1) q.2
    rw [List.length_cons]
    exact this.mono (by omega)
end SG

set_option maxHeartbeats 1000000
namespace SG
open PySem PySem.Spec L2 DN
theorem cut_to {xs : List D} {i : Int} (h : 0 ≤ i) : cutL xs none (some i) = xs.take i.toNat := by
  obtain ⟨n, rfl⟩ := Int.eq_ofNat_of_zero_le h
  unfold cutL
  rw [show HT.sIx xs.length 0 none = 0 from rfl, HT.sIx_nat]
  simp
theorem cut_from {xs : List D} {i : Int} (h : 0 ≤ i) : cutL xs (some i) none = xs.drop i.toNat := by
  unfold cutL
  rw [sIx_lo h]
  rw [show HT.sIx xs.length xs.length none = xs.length from rfl]
  by_cases h : i.toNat ≤ xs.length
  · rw [show min i.toNat xs.length = i.toNat by omega, List.take_of_length_le (by rw [List.length_drop]; omega)]
  · rw [List.drop_eq_nil_of_le (by omega), List.drop_eq_nil_of_le (by omega), List.take_nil]
theorem w_put_text {T : Tr} {p : Str} {ts : List D} {M R Ex} (hT : okT T) (ha : asc T) (op : okT (putT T p ts)) (ht : okt ts = true) (k : ∀ M', Fr [] M M' → R (treeD (putT T p ts)) M') : F_put_text [treeD T, .str p, .tup ts] M R Ex := by
  unfold F_put_text
  have sub : (T.filter fun e => !decide (e.1 = p)).Sublist T := List.filter_sublist
  have len := sub.length_le
  have hTl := hT.len
  have fin : ∀ (x4 : Option D) (M2 : Mem), mlst M2 M.length = some (((T.filter fun e => !decide (e.1 = p)) ++ midT p ts).map entD) → Fr [] M M2 → r_put_text_1 (SD.top R Ex) [some (treeD T), some (.str p), some (.tup ts), some (.ref M.length), x4] M2 := by
    intro x4 M2 m2 f2
    have hall : ∀ e ∈ (T.filter fun e => !decide (e.1 = p)) ++ midT p ts, txOk e := fun e he => op.txt e (put_perm.mem_iff.mp he)
    conv => whnf
    rw [lstAt_of m2]
    refine sortK_ents hall (by rw [put_perm.length_eq]; have := op.len; omega) fun T' hp hw => ?_
    have hp2 := hp.trans put_perm
    have e : T' = putT T p ts := asc_uniq (asc_sorted (fun e he => op.txt e (hp2.mem_iff.mp he)) ((hp2.map _).nodup_iff.mpr op.nd) hw) (put_asc ha) hp2
    subst e
    exact cnTuple_ok mlst_new (k _ (f2.tr0 Fr.app))
  refine lcL_pure entD (fun e => !decide (e.1 = p)) entD (by simp) T (fun _ _ => trivial) (fun e M3 Kt Kf he f3 hT' hF => ?_) (acc := []) mlst_new (Nat.le_trans (show 0 + T.length ≤ 1000 by omega) (by decide)) fun M3 f3 m3 => ?_
  · refine ⟨_, rfl, ?_⟩
    conv => whnf
    rw [eqS]
    cases h : decide (e.1 = p) with
    | true => exact hF (by rw [h]; rfl) _ Fr.refl
    | false => exact hT' (by rw [h]; rfl) _ Fr.refl
  · rw [List.nil_append] at m3
    have fr3 : Fr [] M M3 := ((Fr.app (S := [])).trans f3 (fun i hi hl => by simp at hi; subst hi; simp at hl)).mono fun _ h => by cases h
    refine ⟨sz rfl, eqM_nil (txs_norefs (okt_txs ht)) ?_⟩
    cases h : decide (ts = []) with
    | true =>
      refine fin _ _ ?_ fr3
      rw [m3]
      unfold midT
      rw [if_pos (of_decide_eq_true h), List.append_nil]
    | false =>
      refine ⟨rcv_lst m3, sz rfl, ?_⟩
      conv => whnf
      rw [m3]
      refine ⟨Nat.lt_of_lt_of_le (show _ < 100 by rw [List.length_map]; omega) (by decide), ?_⟩
      refine fin _ _ ?_ (fr3.set (.inr (Nat.le_refl _)))
      rw [mlst_set (mlst_lt m3), List.map_append]
      unfold midT
      rw [if_neg (of_decide_eq_false h)]
      rfl
theorem w_law_putX {T : Tr} {p : Str} {ts : List D} {M R Ex} (hT : okT T) (ha : asc T) (op : okT (putT T p ts)) (ht : okt ts = true) (k : ∀ M', Fr [] M M' → R (treeD (putT T p ts)) M') : F_law_put [treeD T, .str p, .tup ts] M R Ex := by
  unfold F_law_put
  have sub : (T.filter fun e => !decide (e.1 = p)).Sublist T := List.filter_sublist
  have len := sub.length_le
  have hTl := hT.len
  have fin : ∀ (x4 : Option D) (M2 : Mem), mlst M2 M.length = some (((T.filter fun e => !decide (e.1 = p)) ++ midT p ts).map entD) → Fr [] M M2 → r_law_put_1 (SD.top R Ex) [some (treeD T), some (.str p), some (.tup ts), some (.ref M.length), x4] M2 := by
    intro x4 M2 m2 f2
    have hall : ∀ e ∈ (T.filter fun e => !decide (e.1 = p)) ++ midT p ts, txOk e := fun e he => op.txt e (put_perm.mem_iff.mp he)
    conv => whnf
    rw [lstAt_of m2]
    refine sortK_ents hall (by rw [put_perm.length_eq]; have := op.len; omega) fun T' hp hw => ?_
    have hp2 := hp.trans put_perm
    have e : T' = putT T p ts := asc_uniq (asc_sorted (fun e he => op.txt e (hp2.mem_iff.mp he)) ((hp2.map _).nodup_iff.mpr op.nd) hw) (put_asc ha) hp2
    subst e
    exact cnTuple_ok mlst_new (k _ (f2.tr0 Fr.app))
  refine lcL_pure entD (fun e => !decide (e.1 = p)) entD (by simp) T (fun _ _ => trivial) (fun e M3 Kt Kf he f3 hT' hF => ?_) (acc := []) mlst_new (Nat.le_trans (show 0 + T.length ≤ 1000 by omega) (by decide)) fun M3 f3 m3 => ?_
  · refine ⟨_, rfl, ?_⟩
    conv => whnf
    rw [eqS]
    cases h : decide (e.1 = p) with
    | true => exact hF (by rw [h]; rfl) _ Fr.refl
    | false => exact hT' (by rw [h]; rfl) _ Fr.refl
  · rw [List.nil_append] at m3
    have fr3 : Fr [] M M3 := ((Fr.app (S := [])).trans f3 (fun i hi hl => by simp at hi; subst hi; simp at hl)).mono fun _ h => by cases h
    refine ⟨sz rfl, eqM_nil (txs_norefs (okt_txs ht)) ?_⟩
    cases h : decide (ts = []) with
    | true =>
      refine fin _ _ ?_ fr3
      rw [m3]
      unfold midT
      rw [if_pos (of_decide_eq_true h), List.append_nil]
    | false =>
      refine ⟨rcv_lst m3, sz rfl, ?_⟩
      conv => whnf
      rw [m3]
      refine ⟨Nat.lt_of_lt_of_le (show _ < 100 by rw [List.length_map]; omega) (by decide), ?_⟩
      refine fin _ _ ?_ (fr3.set (.inr (Nat.le_refl _)))
      rw [mlst_set (mlst_lt m3), List.map_append]
      unfold midT
      rw [if_neg (of_decide_eq_false h)]
      rfl
theorem w_law_textX {T : Tr} {p : Str} {M R Ex} (k : R (.tup (textAt T p)) M) : F_law_text [treeD T, .str p] M R Ex := by
  unfold F_law_text
  refine forL_map entD (fun r ρ M' => M' = M ∧ textAt r p = textAt T p ∧ ∃ (x : Option D), ρ = [some (treeD T), some (.str p), x]) (fun _ _ _ _ => trivial) ?_ ?_ T _ _ ⟨rfl, rfl, _, rfl⟩
  · rintro e r ρ M1 Kn ⟨rfl, ht, x, rfl⟩ hK
    rw [textAt] at ht
    refine ⟨_, rfl, ?_⟩
    conv => whnf
    rw [eqS]
    cases h : decide (e.1 = p) with
    | true =>
      rw [if_pos (of_decide_eq_true h)] at ht
      rw [← ht] at k
      exact k
    | false =>
      rw [if_neg (of_decide_eq_false h)] at ht
      exact hK _ _ ⟨rfl, ht, _, rfl⟩
  · rintro ρ M1 ⟨rfl, ht, x, rfl⟩
    refine ⟨sz rfl, ?_⟩
    rw [← ht] at k
    exact k
/-! ### a patch put to a tree -/
theorem w_patch_misfit {zs : List Str} {B : Nat} {T : Tr} {P : Pa} {M R Ex} (h : GT zs B T) (q : PaOk zs T P) (k : R .non M) : F_patch_misfit [paD P, treeD T] M R Ex := by
  unfold F_patch_misfit
  have w1 := @w_misfit; obtain ⟨Fw1, qw1⟩ := op F_misfit; rw [← qw1] at w1 ⊢; clear qw1
  have w2 := @w_text_at; obtain ⟨Fw2, qw2⟩ := op F_text_at; rw [← qw2] at w2 ⊢; clear qw2
  refine forL_map partK (fun r ρ M' => M' = M ∧ (∀ e ∈ r, e ∈ P) ∧ ∃ (x2 x3 x4 : Option D), ρ = [some (paD P), some (treeD T), x2, x3, x4]) (fun _ _ _ _ => trivial) ?_ ?_ P _ _ ⟨rfl, fun _ h => h, _, _, _, rfl⟩
  · rintro e r ρ M1 Kn ⟨rfl, hin, x2, x3, x4, rfl⟩ hK
    have v := q.val e (hin e (by simp))
    obtain ⟨a, b⟩ := GT.at (zs := zs) e.1 h.txt
    refine ⟨_, rfl, ?_⟩
    refine w2 ?_
    refine w1 (okt_txs a) (valid_ok (okt_txs a) (by omega) v) ?_
    rw [show misD (textAt T e.1) e.2 = .non by unfold misD; rw [valid_mis (okt_txs a) v]]
    exact hK _ _ ⟨rfl, fun x hx => hin x (by simp [hx]), _, _, _, rfl⟩
  · rintro ρ M1 ⟨rfl, hin, x2, x3, x4, rfl⟩
    exact k
theorem w_apply_patch {zs : List Str} {B : Nat} {T : Tr} {P : Pa} {M R Ex} (hz : zs.length ≤ 7) (hB : B + 6 ≤ 62) (h : GT zs B T) (q : PaOk zs T P) (k : ∀ M', Fr [] M M' → R (treeD (apP T T P)) M') : F_apply_patch [paD P, treeD T] M R Ex := by
  unfold F_apply_patch
  have w1 := @w_patch_misfit; obtain ⟨Fw1, qw1⟩ := op F_patch_misfit; rw [← qw1] at w1 ⊢; clear qw1
  have w2 := @w_text_at; obtain ⟨Fw2, qw2⟩ := op F_text_at; rw [← qw2] at w2 ⊢; clear qw2
  have w3 := @w_apply_edit; obtain ⟨Fw3, qw3⟩ := op F_apply_edit; rw [← qw3] at w3 ⊢; clear qw3
  have w4 := @w_put_text; obtain ⟨Fw4, qw4⟩ := op F_put_text; rw [← qw4] at w4 ⊢; clear qw4
  refine w1 h q ?_
  conv => whnf
  refine forL_map partK (fun r ρ M' => Fr [] M M' ∧ (∀ e ∈ r, e ∈ P) ∧ ∃ (R : Tr) (x4 x5 : Option D), GT zs (B + 6) R ∧ apP T R r = apP T T P ∧ ρ = [some (paD P), some (treeD T), some .non, some (treeD R), x4, x5]) (fun _ _ _ _ => trivial) ?_ ?_ P _ _ ⟨Fr.refl, fun _ h => h, T, _, _, h.mono (by omega), rfl, rfl⟩
  · rintro e r ρ M1 Kn ⟨f, hin, R', x4, x5, hR, ha, rfl⟩ hK
    have v := q.val e (hin e (by simp))
    obtain ⟨l, g⟩ := q.hk e (hin e (by simp))
    obtain ⟨a, b⟩ := GT.at (zs := zs) e.1 h.txt
    have lap := ap_len3 (fun h hh => (g h hh).2) v (by omega)
    have oap : okt (ap (textAt T e.1) 0 e.2) = true := ap_okt a fun h hh => (g h hh).1
    have hR2 := hR.put (q.sub e (hin e (by simp))) oap (by omega)
    refine ⟨_, rfl, ?_⟩
    refine w2 ?_
    refine w3 (okt_txs a) (valid_ok (okt_txs a) (by omega) v) (fun _ => by omega) (fun _ M2 f2 => ?_) (fun i e => by rw [valid_mis (okt_txs a) v] at e; cases e)
    refine w4 (hR.ok hz hB) hR.up (hR2.ok hz hB) oap fun M3 f3 => ?_
    exact hK _ _ ⟨(f.tr0 f2).tr0 f3, fun x hx => hin x (by simp [hx]), _, _, _, hR2, ha, rfl⟩
  · rintro ρ M1 ⟨f, hin, R', x4, x5, hR, ha, rfl⟩
    have ha : R' = apP T T P := ha
    rw [← ha] at k
    exact k _ f
theorem rv_len {t : List D} : ∀ {hs : List Hk}, (∀ h ∈ hs, h.n.length ≤ 3) → (rv t hs).length ≤ t.length + 3 * hs.length
  | [], _ => by simp [rv]
  | h :: r, hB => by
    have ih := rv_len (t := t) (hs := r) fun x hx => hB x (by simp [hx])
    have := hB h (by simp)
    have hse := h.se
    simp only [rv, List.length_append, List.length_take, List.length_drop, List.length_cons]
    omega
theorem w_law_apply {zs : List Str} {B : Nat} {T : Tr} {P : Pa} {M R Ex} (hz : zs.length ≤ 7) (hB : B + 6 ≤ 62) (h : GT zs B T) (q : PaOk zs T P) (k : ∀ M', Fr [] M M' → R (treeD (apP T T P)) M') : F_law_apply [paD P, treeD T] M R Ex := by
  unfold F_law_apply
  have w1 := @w_law_textX; obtain ⟨Fw1, qw1⟩ := op F_law_text; rw [← qw1] at w1 ⊢; clear qw1
  have w4 := @w_law_putX; obtain ⟨Fw4, qw4⟩ := op F_law_put; rw [← qw4] at w4 ⊢; clear qw4
  have sl : (1000000 : Nat) ≤ sizeLine := by decide
  refine forL_map partK (fun r ρ M' => Fr [] M M' ∧ (∀ e ∈ r, e ∈ P) ∧ (r.map (·.1)).Nodup ∧ ∃ (R : Tr) (x2 x3 x4 : Option D), GT zs (B + 6) R ∧ apP T R r = apP T T P ∧ (∀ e ∈ r, textAt R e.1 = textAt T e.1) ∧ ρ = [some (paD P), some (treeD R), x2, x3, x4]) (fun _ _ _ _ => trivial) ?_ ?_ P _ _ ⟨Fr.refl, fun _ h => h, q.nd, T, _, _, _, h.mono (by omega), rfl, fun _ _ => rfl, rfl⟩
  · rintro e r ρ M1 Kn ⟨f, hin, nd, R', x2, x3, x4, hR, ha, hat, rfl⟩ hK
    obtain ⟨n1, n2⟩ := List.nodup_cons.mp nd
    have v := q.val e (hin e (by simp))
    obtain ⟨l, g⟩ := q.hk e (hin e (by simp))
    obtain ⟨a, b⟩ := GT.at (zs := zs) e.1 h.txt
    have lap := ap_len3 (fun h hh => (g h hh).2) v (by omega)
    have oap : okt (ap (textAt T e.1) 0 e.2) = true := ap_okt a fun h hh => (g h hh).1
    have hR2 := hR.put (q.sub e (hin e (by simp))) oap (by omega)
    have hrv : rv (textAt T e.1) e.2 = ap (textAt T e.1) 0 e.2 := by
      have := rv_ap (d := 0) v (by omega) (by omega)
      simpa using this
    refine ⟨_, rfl, ?_⟩
    refine w1 ?_
    rw [hat e (by simp)]
    conv => whnf
    rw [← List.map_reverse]
    refine forL_map Hk.d (fun r' ρ M' => M' = M1 ∧ ∃ (suf : List Hk) (x4 : Option D), e.2 = r'.reverse ++ suf ∧ ρ = [some (paD P), some (treeD R'), some (partK e), some (.tup (rv (textAt T e.1) suf)), x4]) (fun _ _ _ _ => trivial) ?_ ?_ _ _ _ ⟨rfl, [], _, by simp, rfl⟩
    · rintro x r' ρ M2 Kn2 ⟨rfl, suf, x4, es, rfl⟩ hK2
      have hx : x ∈ e.2 := by rw [es]; simp
      obtain ⟨u1, u2, _⟩ := v.mem x hx
      have hse := x.se
      have lsuf := rv_len (t := textAt T e.1) (hs := suf) fun y hy => (g y (by rw [es]; simp [hy])).2
      have ls : suf.length ≤ 2 := by have := congrArg List.length es; simp at this; omega
      have hn := (g x hx).2
      refine ⟨_, rfl, ?_⟩
      have eN : rv (textAt T e.1) (x :: suf) = cutL (rv (textAt T e.1) suf) none (some x.s) ++ x.n ++ cutL (rv (textAt T e.1) suf) (some (x.s + x.o.length)) none := by
        rw [rv, cut_to u1, cut_from (by unfold Hk.e at hse; omega)]
        rfl
      have l1 : (cutL (rv (textAt T e.1) suf) none (some x.s)).length ≤ (rv (textAt T e.1) suf).length := cutL_le
      have l2 : (cutL (rv (textAt T e.1) suf) (some (x.s + x.o.length)) none).length ≤ (rv (textAt T e.1) suf).length := cutL_le
      refine ⟨by omega, by rw [List.length_append]; omega, ?_⟩
      refine hK2 _ _ ⟨rfl, x :: suf, some x.d, by rw [es]; simp, ?_⟩
      rw [eN]
      rfl
    · rintro ρ M2 ⟨rfl, suf, x4, es, rfl⟩
      have es : e.2 = suf := by simpa using es
      rw [← es, hrv]
      refine w4 (hR.ok hz hB) hR.up (hR2.ok hz hB) oap fun M3 f3 => ?_
      refine hK _ _ ⟨f.tr0 f3, fun x hx => hin x (by simp [hx]), n2, _, _, _, _, hR2, ha, fun y hy => ?_, rfl⟩
      rw [put_ne fun z => n1 (by show e.1 ∈ _; rw [z]; exact List.mem_map.mpr ⟨y, hy, rfl⟩)]
      exact hat y (by simp [hy])
  · rintro ρ M1 ⟨f, hin, nd, R', x2, x3, x4, hR, ha, hat, rfl⟩
    have ha : R' = apP T T P := ha
    rw [← ha] at k
    exact k _ f
/-! ### the trees along the changes -/
theorem trs_snoc {c : Ch} : ∀ {cs : List Ch} {T : Tr}, trs T (cs ++ [c]) = trs T cs ++ [apP (lastT T cs) (lastT T cs) c.pa]
  | [], T => rfl
  | x :: r, T => by rw [List.cons_append, trs, trs, trs_snoc]; rfl
theorem trs_last : ∀ {cs : List Ch} {T : Tr}, ∃ ini, trs T cs = ini ++ [lastT T cs]
  | [], T => ⟨[], rfl⟩
  | x :: r, T => by
    obtain ⟨ini, e⟩ := trs_last (cs := r) (T := apP T T x.pa)
    exact ⟨T :: ini, by rw [trs, e]; rfl⟩
theorem Chn.app {zs : List Str} : ∀ {a b : List Ch} {T : Tr}, Chn zs T (a ++ b) → Chn zs T a ∧ Chn zs (lastT T a) b
  | [], b, T, h => ⟨trivial, h⟩
  | x :: r, b, T, h => by
    obtain ⟨h1, h2⟩ := h
    obtain ⟨h3, h4⟩ := Chn.app (a := r) h2
    exact ⟨⟨h1, h3⟩, h4⟩
theorem w_trees_along {zs : List Str} {B : Nat} {T : Tr} {cs : List Ch} {M R Ex} (hz : zs.length ≤ 7) (hB : B + 6 * cs.length ≤ 62) (h : GT zs B T) (q : Chn zs T cs) (k : ∀ M', Fr [] M M' → R (.tup ((trs T cs).map treeD)) M') : F_trees_along [treeD T, .tup (cs.map Ch.d)] M R Ex := by
  unfold F_trees_along
  have w1 := @w_apply_patch; obtain ⟨Fw1, qw1⟩ := op F_apply_patch; rw [← qw1] at w1 ⊢; clear qw1
  refine ⟨sz rfl, ?_⟩
  refine forL_map Ch.d (fun r ρ M' => ∃ (p : List Ch) (x3 : Option D), mlst M' M.length = some ((trs T p).map treeD) ∧ cs = p ++ r ∧ Fr [] M M' ∧ ρ = [some (treeD T), some (.tup (cs.map Ch.d)), some (.ref M.length), x3]) (fun _ _ _ _ => trivial) ?_ ?_ cs _ _ ⟨[], _, mlst_new, rfl, Fr.app, rfl⟩
  · rintro c r ρ M1 Kn ⟨p, x3, hm, hp, f, rfl⟩ hK
    rw [hp] at q
    obtain ⟨q1, q2⟩ := q.app
    have lc := congrArg List.length hp
    rw [List.length_append, List.length_cons] at lc
    have hl := lastT_ok h q1
    obtain ⟨ini, ei⟩ := trs_last (cs := p) (T := T)
    refine ⟨_, rfl, rcv_lst hm, ?_⟩
    conv => whnf
    rw [lstAt_of hm]
    conv => whnf
    rw [ei, List.map_append, show atI (ini.map treeD ++ [lastT T p].map treeD) (-1) = some (treeD (lastT T p)) from atI_end]
    refine w1 hz (by omega) hl q2.1 fun M2 f2 => ?_
    have m2 := f2.lst hm
    conv => whnf
    rw [m2]
    refine ⟨Nat.lt_of_lt_of_le (show ((trs T p).map treeD).length < 1000 by rw [List.length_map, trs_len]; omega) (by decide), ?_⟩
    refine hK _ _ ⟨p ++ [c], _, ?_, by rw [hp]; simp, (f.tr0 f2).set (.inr (Nat.le_refl _)), rfl⟩
    rw [mlst_set (mlst_lt m2), trs_snoc, List.map_append]
    rfl
  · rintro ρ M1 ⟨p, x3, hm, hp, f, rfl⟩
    have hp : cs = p := by simpa using hp
    subst hp
    exact cnTuple_ok hm (k _ f)
theorem w_law_along {zs : List Str} {B : Nat} {T : Tr} {cs : List Ch} {M R Ex} (hz : zs.length ≤ 7) (hB : B + 6 * cs.length ≤ 62) (h : GT zs B T) (q : Chn zs T cs) (k : ∀ j M', M.length ≤ j → Fr [] M M' → mlst M' j = some ((trs T cs).map treeD) → R (.ref j) M') : F_law_along [treeD T, .tup (cs.map Ch.d)] M R Ex := by
  unfold F_law_along
  have w1 := @w_law_apply; obtain ⟨Fw1, qw1⟩ := op F_law_apply; rw [← qw1] at w1 ⊢; clear qw1
  refine ⟨sz rfl, ?_⟩
  refine forL_map Ch.d (fun r ρ M' => ∃ (p : List Ch) (x3 : Option D), mlst M' M.length = some ((trs T p).map treeD) ∧ cs = p ++ r ∧ Fr [] M M' ∧ ρ = [some (treeD T), some (.tup (cs.map Ch.d)), some (.ref M.length), x3]) (fun _ _ _ _ => trivial) ?_ ?_ cs _ _ ⟨[], _, mlst_new, rfl, Fr.app, rfl⟩
  · rintro c r ρ M1 Kn ⟨p, x3, hm, hp, f, rfl⟩ hK
    rw [hp] at q
    obtain ⟨q1, q2⟩ := q.app
    have lc := congrArg List.length hp
    rw [List.length_append, List.length_cons] at lc
    have hl := lastT_ok h q1
    obtain ⟨ini, ei⟩ := trs_last (cs := p) (T := T)
    refine ⟨_, rfl, rcv_lst hm, ?_⟩
    conv => whnf
    rw [lstAt_of hm]
    conv => whnf
    rw [ei, List.map_append, show atI (ini.map treeD ++ [lastT T p].map treeD) (-1) = some (treeD (lastT T p)) from atI_end]
    refine w1 hz (by omega) hl q2.1 fun M2 f2 => ?_
    have m2 := f2.lst hm
    conv => whnf
    rw [m2]
    refine ⟨Nat.lt_of_lt_of_le (show ((trs T p).map treeD).length < 1000 by rw [List.length_map, trs_len]; omega) (by decide), ?_⟩
    refine hK _ _ ⟨p ++ [c], _, ?_, by rw [hp]; simp, (f.tr0 f2).set (.inr (Nat.le_refl _)), rfl⟩
    rw [mlst_set (mlst_lt m2), trs_snoc, List.map_append]
    rfl
  · rintro ρ M1 ⟨p, x3, hm, hp, f, rfl⟩
    have hp : cs = p := by simpa using hp
    subst hp
    exact k _ _ (Nat.le_refl _) f hm
end SG

set_option maxHeartbeats 1000000
namespace SG
open PySem PySem.Spec L2 DN
/-! ### what is drawn -/
theorem w_law_pathsU {n m : Nat} {c : Nat} {M R Ex} (h : Bg M n m) (hc : c ≤ 8) (k : ∀ (zs : List Str) (j : Nat) M', M.length ≤ j → mlst M' j = some (zs.map D.str) → zs.length = c → zs.Nodup → (zs.Pairwise fun a b => ltS a b = true) → Bg M' n m → Fr [n, m] M M' → R (.ref j) M') : F_law_paths [.ref n, .int c] M R Ex := by
  unfold F_law_paths
  have w1 := @w_take; obtain ⟨Fw1, qw1⟩ := op F_law_take; rw [← qw1] at w1 ⊢; clear qw1
  refine ⟨sz rfl, ?_⟩
  refine ⟨by omega, by omega, ?_⟩
  have hne := h.ne (Nat.le_refl _)
  have hlt := h.ltn
  have hltm := h.ltm
  have mh : mlst (M ++ [O.lst [D.str "", D.str "src/", D.str "doc/", D.str "src/lib/"]]) M.length = some (hds.map D.str) := mlst_new
  have pB := h.app (L := [O.lst [D.str "", D.str "src/", D.str "doc/", D.str "src/lib/"]])
  have fB : Fr [n, m] M (M ++ [O.lst [D.str "", D.str "src/", D.str "doc/", D.str "src/lib/"]]) := Fr.app
  have lB : (M ++ [O.lst [D.str "", D.str "src/", D.str "doc/", D.str "src/lib/"]]).length = M.length + 1 := by simp
  revert mh pB fB lB
  generalize M ++ [O.lst [D.str "", D.str "src/", D.str "doc/", D.str "src/lib/"]] = MB
  intro mh pB fB lB
  have hne2 := pB.ne (Nat.le_refl _)
  refine lcL_inv (fun i M' => ∃ (acc : List Str), mlst M' MB.length = some (acc.map D.str) ∧ acc.length = i ∧ acc.map keyP = (List.range i).map (97 + ·) ∧ Bg M' n m ∧ Fr [n, m] MB M') _ (fun _ _ _ => trivial) ?_ ?_ _ ⟨[], mlst_new, rfl, rfl, pB.app, Fr.app⟩
  · rintro i d M2 Kc hd ⟨acc, hm, hl, hk, p2, f2⟩ hK
    obtain ⟨hi, rfl⟩ := rngD_get hd
    have hi : i < 8 := by omega
    refine ⟨_, rfl, ?_⟩
    refine w1 p2 (by decide) (by decide) fun x M3 x0 x1 p3 f3 => ?_
    obtain ⟨hs, hhs, a1⟩ := pickS (xs := hds) x0 x1
    have hh3 := f3.lst (f2.lst mh (by simp [hne])) (by simp [hne])
    conv => whnf
    rw [lstAt_of hh3]
    conv => whnf
    rw [a1]
    refine ⟨by decide, ?_⟩
    obtain ⟨c, ec, ec2⟩ := atI_int (xs := abc.cps.toList) (i := 0 + (i : Int)) (by omega) (by show (0 + (i : Int)) < 8; omega)
    rw [show (0 + (i : Int)).toNat = i by omega] at ec2
    conv => whnf
    rw [show atI (Str.ofString "abcdefgh").cps.toList (0 + (i : Int)) = some c from ec]
    have l1 := of_decide_eq_true (List.all_eq_true.mp len_hds hs hhs)
    refine ⟨Nat.le_trans (show hs.length + 1 ≤ 100 by omega) (by decide), ?_⟩
    refine ⟨sz rfl, ?_⟩
    refine w1 p3.app (by decide) (by decide) fun y M4 y0 y1 p4 f4 => ?_
    obtain ⟨t, ht, a2⟩ := pickS (xs := tls) y0 y1
    have l2 := of_decide_eq_true (List.all_eq_true.mp len_tls t ht)
    have m4 := f4.lst (Fr.app (S := []).lst (f3.lst hm (by simp [hne2]))) (by simp [hne2])
    conv => whnf
    rw [lstAt_of (f4.lst mlst_new (p3.nin (Nat.le_refl _)))]
    conv => whnf
    rw [show atI [D.str (Str.ofString ""), D.str (Str.ofString "0"), D.str (Str.ofString ".c"), D.str (Str.ofString "_-x")] y = some (.str t) from a2]
    have e1 : (hs ++ (⟨#[c]⟩ : Str)).length = hs.length + 1 := by rw [appS_len]; rfl
    refine ⟨Nat.le_trans (show (hs ++ (⟨#[c]⟩ : Str)).length + t.length ≤ 100 by omega) (by decide), ?_⟩
    conv => whnf
    rw [m4]
    refine ⟨Nat.lt_of_lt_of_le (show (acc.map D.str).length < 100 by rw [List.length_map]; omega) (by decide), hK _ ⟨acc ++ [(hs ++ ⟨#[c]⟩) ++ t], ?_, by simp [hl], ?_, p4.set hne2.1 hne2.2, (((f2.tr f3).trans (Fr.app (S := [])) (fun _ h => by cases h)).tr f4).set (.inr (Nat.le_refl _))⟩⟩
    · rw [mlst_set (mlst_lt m4), List.map_append]; rfl
    · rw [List.map_append, hk, List.range_succ, List.map_append]
      show _ ++ [keyP _] = _
      rw [keyP_of hhs ht hi ec2]
      rfl
  · rintro M2 ⟨acc, hm, hl, hk, p2, f2⟩
    rw [rngD_len, Int.toNat_natCast] at hl hk
    have nd : acc.Nodup := by
      have : (acc.map keyP).Nodup := by rw [hk]; exact List.Pairwise.map _ (fun a b h e => h (by omega)) List.nodup_range
      exact List.Pairwise.of_map keyP (fun a b h e => h (by rw [e])) this
    conv => whnf
    rw [lstAt_of hm]
    refine sortK_strs (by omega) fun zs hp hso => ?_
    have hle := f2.le
    exact k zs _ _ (by omega) mlst_new (by rw [hp.length_eq, hl]) (hp.nodup_iff.mpr nd) (strict_of (hp.nodup_iff.mpr nd) hso) p2.app ((fB.tr f2).tr0 Fr.app)
theorem w_law_baseU {n m j : Nat} {wd : Int} {zs : List Str} {M R Ex} (h : Bg M n m) (hm : mlst M j = some (zs.map D.str)) (hj : j ≠ n ∧ j ≠ m) (hl : zs.length ≤ 8) (up : zs.Pairwise fun a b => ltS a b = true) (k : ∀ (T : Tr) M', GT zs 5 T → Bg M' n m → Fr [n, m] M M' → R (treeD T) M') : F_law_base [.ref n, .ref j, .int wd] M R Ex := by
  unfold F_law_base
  have w1 := @w_take; obtain ⟨Fw1, qw1⟩ := op F_law_take; rw [← qw1] at w1 ⊢; clear qw1
  have w2 := @w_law_line; obtain ⟨Fw2, qw2⟩ := op F_law_line; rw [← qw2] at w2 ⊢; clear qw2
  have hne := h.ne (Nat.le_refl _)
  have hjl := mlst_lt hm
  refine ⟨sz rfl, ?_⟩
  conv => whnf
  rw [lstAt_of (Fr.app (S := []).lst hm)]
  refine forL_map D.str (fun r ρ M' => ∃ (T : Tr) (p : List Str), mlst M' M.length = some (T.map entD) ∧ zs = p ++ r ∧ (T.map (·.1)).Sublist p ∧ (∀ e ∈ T, okt e.2 = true ∧ e.2.length ≤ 5) ∧ mlst M' j = some (zs.map D.str) ∧ Bg M' n m ∧ Fr [n, m] M M' ∧ ∃ (x y : Option D), ρ = [some (.ref n), some (.ref j), some (.int wd), some (.ref M.length), x, y, none])
    (fun r ρ M' h => by obtain ⟨T, p, _, _, _, _, h, _⟩ := h; exact lstAt_of h) ?_ ?_ zs _ _ ⟨[], [], mlst_new, rfl, List.Sublist.refl _, fun _ h => by simp at h, Fr.app (S := []).lst hm, h.app, Fr.app, _, _, rfl⟩
  · rintro z r ρ M1 Kn ⟨T, p, mT, hz, hs, hT, hj1, p1, f1, x, y, rfl⟩ hK
    have hle := f1.le
    refine ⟨_, rfl, ?_⟩
    refine w1 p1 (by decide) (by decide) fun c M2 c0 c1 p2 f2 => ?_
    refine ⟨by omega, by omega, ?_⟩
    have hne2 := p2.ne (Nat.le_refl _)
    have hle2 := f2.le
    have hlt := mlst_lt mT
    refine lcL_inv (fun i M' => ∃ acc, mlst M' M2.length = some acc ∧ acc.length = i ∧ okt acc = true ∧ Bg M' n m ∧ Fr [n, m] M2 M') _ (fun _ _ _ => trivial) ?_ ?_ _ ⟨[], mlst_new, rfl, rfl, p2.app, Fr.app⟩
    · rintro i d M3 Kc hd ⟨acc, ha, hl, hg, p3, f3⟩ hK2
      obtain ⟨hi, rfl⟩ := rngD_get hd
      refine ⟨_, rfl, ?_⟩
      refine w2 p3 fun x M4 hx p4 f4 => ?_
      have a4 := f4.lst ha (by simp [hne2])
      conv => whnf
      rw [a4]
      refine ⟨Nat.lt_of_lt_of_le (show acc.length < 100 by omega) (by decide), hK2 _ ⟨_, mlst_set (mlst_lt a4), by simp [hl], okt_app hg (by simp [okt, hx]), p4.set hne2.1 hne2.2, (f3.tr f4).set (.inr (Nat.le_refl _))⟩⟩
    · rintro M3 ⟨acc, ha, hal, hg, p3, f3⟩
      rw [rngD_len] at hal
      have m3 := f3.lst (f2.lst mT (by simp [hne])) (by simp [hne])
      have j3 := f3.lst (f2.lst hj1 (by simp [hj])) (by simp [hj])
      conv => whnf
      rw [lstAt_of ha]
      conv => whnf
      refine ⟨sz rfl, eqM_nil (txs_norefs (okt_txs hg)) ?_⟩
      cases acc with
      | nil =>
        refine hK _ _ ⟨T, p ++ [z], m3, by rw [hz]; simp, hs.trans (List.sublist_append_left _ _), hT, j3, p3, (f1.tr f2).tr f3, _, _, rfl⟩
      | cons a0 ar =>
        have hTl : T.length ≤ 8 := by
          have := hs.length_le
          rw [List.length_map] at this
          have hz2 := congrArg List.length hz
          rw [List.length_append] at hz2
          omega
        refine ⟨rcv_lst m3, sz rfl, ?_⟩
        conv => whnf
        rw [m3]
        refine ⟨Nat.lt_of_lt_of_le (show (T.map entD).length < 100 by rw [List.length_map]; omega) (by decide), ?_⟩
        refine hK _ _ ⟨T ++ [(z, a0 :: ar)], p ++ [z], ?_, by rw [hz]; simp, ?_, ?_, ?_, p3.set hne.1 hne.2, ((f1.tr f2).tr f3).set (.inr (Nat.le_refl _)), _, _, rfl⟩
        · rw [mlst_set (mlst_lt m3), List.map_append]; rfl
        · rw [List.map_append]; exact hs.append (List.Sublist.refl _)
        · intro e he
          rcases List.mem_append.mp he with he | he
          · exact hT e he
          · simp at he; subst he; exact ⟨hg, by show (a0 :: ar).length ≤ 5; omega⟩
        · exact mlst_setne j3 (by omega)
  · rintro ρ M1 ⟨T, p, mT, hz, hs, hT, hj1, p1, f1, x, y, rfl⟩
    rw [List.append_nil] at hz
    subst hz
    have hTl := hs.length_le
    rw [List.length_map] at hTl
    exact cnTuple_ok mT (k T _ ⟨List.pairwise_map.mp (up.sublist hs), fun e he => hs.subset (List.mem_map.mpr ⟨e, he, rfl⟩), hT⟩ p1 f1)
def HkS (h : Hk) : Prop := okt h.n = true ∧ h.n.length ≤ 3
theorem w_law_editX {n m : Nat} {t : List D} {wd most : Int} {M R Ex} (h : Bg M n m) (ht : okt t = true) (hl : t.length ≤ 60) (h0 : 0 ≤ most) (h1 : most ≤ 2)
    (k : ∀ (hs : List Hk) M', Valid t 0 hs → (∀ h ∈ hs, HkS h) → hs.length ≤ 2 → Bg M' n m → Fr [n, m] M M' → R (.tup (hs.map Hk.d)) M') : F_law_edit [.ref n, .tup t, .int wd, .int most] M R Ex := by
  unfold F_law_edit
  have w1 := @w_take; obtain ⟨Fw1, qw1⟩ := op F_law_take; rw [← qw1] at w1 ⊢; clear qw1
  have w2 := @w_law_line; obtain ⟨Fw2, qw2⟩ := op F_law_line; rw [← qw2] at w2 ⊢; clear qw2
  have hne := h.ne (Nat.le_refl _)
  refine ⟨sz rfl, by omega, by omega, ?_⟩
  refine forL_ix (fun i ρ M' => ∃ (acc : List Hk) (start : Int) (x6 x7 x8 x9 : Option D), mlst M' M.length = some (acc.map Hk.d) ∧ Valid t 0 acc ∧ (∀ x ∈ acc, x.e + 1 ≤ start) ∧ 0 ≤ start ∧ (∀ x ∈ acc, HkS x) ∧ acc.length ≤ i ∧ (i : Int) ≤ most ∧ Bg M' n m ∧ Fr [n, m] M M' ∧ ρ = [some (.ref n), some (.tup t), some (.int wd), some (.int most), some (.ref M.length), some (.int start), x6, x7, x8, x9, none]) _ (fun _ _ _ _ => trivial) ?_ ?_ _ _
    ⟨[], 0, _, _, _, _, mlst_new, trivial, (fun _ h => by cases h), by omega, (fun _ h => by cases h), Nat.le_refl _, by omega, h.app, Fr.app, rfl⟩
  · rintro i d ρ M1 Kn hd ⟨acc, start, x6, x7, x8, x9, hm, hv, hst, s0, hg, hal, him, p1, f1, rfl⟩ hK
    obtain ⟨hi, rfl⟩ := rngD_get hd
    refine ⟨_, rfl, ?_⟩
    refine w1 p1 (by decide) (by decide) fun a M2 a0 a1 p2 f2 => ?_
    have body : ∀ at_ : Int, start ≤ at_ ∨ (acc = [] ∧ 0 ≤ at_) → r_law_edit_2 Fw1 Fw2 (SD.lp (SD.sq (SD.top R Ex) (sRet (eCallB cnTuple (aCons (eVar 4) aNil)))) Kn) [some (.ref n), some (.tup t), some (.int wd), some (.int most), some (.ref M.length), some (.int start), some (.int (0 + (i : Int))), some (.int at_), x8, x9, none] M2 := by
      intro at_ hat
      have hat0 : 0 ≤ at_ := by rcases hat with q | q <;> omega
      have hacc : ∀ x ∈ acc, x.e + 1 ≤ at_ := fun x hx => by
        rcases hat with q | ⟨q, _⟩
        · have := hst x hx; omega
        · rw [q] at hx; cases hx
      have m2 := f2.lst hm (by simp [hne])
      conv => whnf
      refine bm (fun e1 => ?_) (fun e1 => ?_)
      · exact cnTuple_ok m2 (k acc M2 hv hg (by omega) p2 (f1.tr f2))
      · have e1 : ¬ (t.length : Int) < at_ := of_decide_eq_false e1
        refine w1 p2 (by decide) (by decide) fun b M3 b0 b1 p3 f3 => ?_
        obtain ⟨size, hsize, z0, z1⟩ : ∃ size : Int, (if (t.length : Int) - at_ < b then (t.length : Int) - at_ else b) = size ∧ 0 ≤ size ∧ at_ + size ≤ t.length := ⟨_, rfl, by split <;> omega, by split <;> omega⟩
        conv => whnf
        rw [hsize]
        refine w1 p3 (by decide) (by decide) fun c M4 c0 c1 p4 f4 => ?_
        refine ⟨by omega, by omega, ?_⟩
        have hne4 := p4.ne (Nat.le_refl _)
        refine lcL_inv (fun i M' => ∃ ls, mlst M' M4.length = some ls ∧ ls.length = i ∧ okt ls = true ∧ Bg M' n m ∧ Fr [n, m] M4 M') _ (fun _ _ _ => trivial) ?_ ?_ _ ⟨[], mlst_new, rfl, rfl, p4.app, Fr.app⟩
        · rintro i2 d M5 Kc hd ⟨ls, ha, hl2, hg2, p5, f5⟩ hK2
          obtain ⟨hi2, rfl⟩ := rngD_get hd
          refine ⟨_, rfl, ?_⟩
          refine w2 p5 fun x M6 hx p6 f6 => ?_
          have a6 := f6.lst ha (by simp [hne4])
          conv => whnf
          rw [a6]
          refine ⟨Nat.lt_of_lt_of_le (show ls.length < 100 by omega) (by decide), hK2 _ ⟨_, mlst_set (mlst_lt a6), by simp [hl2], okt_app hg2 (by simp [okt, hx]), p6.set hne4.1 hne4.2, (f5.tr f6).set (.inr (Nat.le_refl _))⟩⟩
        · rintro M5 ⟨ls, ha, hl2, hg2, p5, f5⟩
          rw [rngD_len] at hl2
          have m5 := f5.lst (f4.lst (f3.lst m2 (by simp [hne])) (by simp [hne])) (by simp [hne])
          have t5 : Fr [n, m] M M5 := f1.tr (f2.tr (f3.tr (f4.tr f5)))
          have hold : okt (cut t at_.toNat (at_ + size).toNat) = true := okt_cut ht
          have ecut : cutL t (some at_) (some (at_ + size)) = cut t at_.toNat (at_ + size).toNat := cutL_int hat0 (by omega) (by omega)
          have lcut : (cut t at_.toNat (at_ + size).toNat).length = size.toNat := by rw [cut_len (by omega)]; omega
          have fin : ∀ nw : List D, okt nw = true → nw.length ≤ 3 → r_law_edit_1 Fw1 Fw2 (SD.lp (SD.sq (SD.top R Ex) (sRet (eCallB cnTuple (aCons (eVar 4) aNil)))) Kn) [some (.ref n), some (.tup t), some (.int wd), some (.int most), some (.ref M.length), some (.int start), some (.int (0 + (i : Int))), some (.int at_), some (.int size), some (.tup nw), none] M5 := by
            intro nw q1 q2
            have he : (⟨at_, cut t at_.toNat (at_ + size).toNat, nw⟩ : Hk).e = at_ + size := by unfold Hk.e; simp only [lcut]; omega
            refine ⟨rcv_lst m5, ?_⟩
            conv => whnf
            rw [ecut]
            refine ⟨sz rfl, ?_⟩
            conv => whnf
            rw [m5]
            refine ⟨Nat.lt_of_lt_of_le (show (acc.map Hk.d).length < 100 by rw [List.length_map]; omega) (by decide), ?_⟩
            refine hK _ _ ⟨acc ++ [⟨at_, cut t at_.toNat (at_ + size).toNat, nw⟩], at_ + size + 1, _, _, _, _, ?_, ?_, ?_, by omega, ?_, by simp; omega, by omega, p5.set hne.1 hne.2, t5.set (.inr (Nat.le_refl _)), rfl⟩
            · rw [mlst_set (mlst_lt m5)]; simp [Hk.d]
            · refine hv.snoc (fun x hx => by have := hacc x hx; show x.e + 1 ≤ at_; omega) (by show 0 ≤ at_; omega) (by rw [he]; omega) (by rw [he]) (okt_txs q1)
            · intro x hx
              rcases List.mem_append.mp hx with hx | hx
              · have := hacc x hx; omega
              · simp at hx; subst hx; rw [he]; omega
            · intro x hx
              rcases List.mem_append.mp hx with hx | hx
              · exact hg x hx
              · simp at hx; subst hx; exact ⟨q1, q2⟩
          conv => whnf
          rw [lstAt_of ha]
          conv => whnf
          rw [ecut, pyM_txs (okt_txs hg2), pyM_txs (okt_txs hold)]
          refine ⟨dep_txs (okt_txs hg2), ?_⟩
          rw [eqv_tup (txs_norefs (okt_txs hg2)) (txs_norefs (okt_txs hold))]
          cases eqL ls (cut t at_.toNat (at_ + size).toNat) with
          | true =>
            refine ⟨sz rfl, Nat.le_trans (show ls.length + 1 ≤ 10 by omega) (by decide), ?_⟩
            exact fin (ls ++ [.str "new"]) (okt_app hg2 (by decide)) (by simp; omega)
          | false => exact fin ls hg2 (by omega)
    conv => whnf
    rw [eqI]
    refine bm (fun e0 => ?_) (fun e0 => ?_)
    · have e0 : (0 : Int) + (i : Int) = 0 := of_decide_eq_true e0
      have ha : acc = [] := List.length_eq_zero_iff.mp (by omega)
      have g : 0 ≤ (if (t.length : Int) < start + a then (t.length : Int) else start + a) := by split <;> omega
      conv => whnf
      exact body _ (.inr ⟨ha, g⟩)
    · exact body _ (.inl (by omega))
  · rintro ρ M1 ⟨acc, start, x6, x7, x8, x9, hm, hv, hst, s0, hg, hal, him, p1, f1, rfl⟩
    rw [rngD_len] at hal
    exact cnTuple_ok hm (k acc M1 hv hg (by omega) p1 f1)
theorem part_nr {zs : List Str} {B : Nat} {T : Tr} {P : Pa} (h : GT zs B T) (q : PaOk zs T P) : norefs (P.map partK) = true := norefs_of fun d hd => by
  obtain ⟨e, he, rfl⟩ := List.mem_map.mp hd
  obtain ⟨a, _⟩ := GT.at (zs := zs) e.1 h.txt
  have v := q.val e he
  have g := (q.hk e he).2
  have : norefs (e.2.map Hk.d) = true := norefs_of fun d hd => by
    obtain ⟨x, hx, rfl⟩ := List.mem_map.mp hd
    obtain ⟨_, _, v3, _⟩ := v.mem x hx
    have o1 := txs_norefs (okt_txs (g x hx).1)
    have o2 : norefs x.o = true := by rw [v3]; exact txs_norefs (okt_txs (okt_cut a))
    show norefs [.int x.s, .tup x.o, .tup x.n] = true
    simp [norefs, noref, o1, o2]
  show norefs [.str e.1, .tup (e.2.map Hk.d)] = true
  simp [norefs, noref, this]
theorem w_law_patch {n m j : Nat} {wd : Int} {zs : List Str} {B : Nat} {T : Tr} {M R Ex} (h : Bg M n m) (hj : mlst M j = some (zs.map D.str)) (hjn : j ≠ n ∧ j ≠ m) (hz0 : 0 < zs.length) (hz : zs.length ≤ 7) (nd : zs.Nodup) (hB : B ≤ 60) (hT : GT zs B T)
    (k : ∀ (P : Pa) M', PaOk zs T P → Bg M' n m → Fr [n, m] M M' → R (paD P) M') : F_law_patch [.ref n, treeD T, .ref j, .int wd] M R Ex := by
  unfold F_law_patch
  have w1 := @w_take; obtain ⟨Fw1, qw1⟩ := op F_law_take; rw [← qw1] at w1 ⊢; clear qw1
  have w2 := @w_law_editX; obtain ⟨Fw2, qw2⟩ := op F_law_edit; rw [← qw2] at w2 ⊢; clear qw2
  have w3 := @w_law_textX; obtain ⟨Fw3, qw3⟩ := op F_law_text; rw [← qw3] at w3 ⊢; clear qw3
  have hne := h.ne (Nat.le_refl _)
  have hjl := mlst_lt hj
  refine ⟨sz rfl, ?_⟩
  conv => whnf
  rw [lstAt_of (Fr.app (S := []).lst hj)]
  have one : ∀ (p : Str) (hs : List Hk), p ∈ zs → Valid (textAt T p) 0 hs → (∀ h ∈ hs, HkS h) → hs.length ≤ 2 → PaOk zs T [(p, hs)] := fun p hs a b c d => ⟨by simp, fun e he => by simp at he; subst he; exact a, fun e he => by simp at he; subst he; exact b, fun e he => by simp at he; subst he; exact ⟨d, c⟩⟩
  refine forL_map D.str (fun r ρ M' => ∃ (P : Pa) (p : List Str) (x5 : Option D), mlst M' M.length = some (P.map partK) ∧ zs = p ++ r ∧ (P.map (·.1)).Sublist p ∧ PaOk zs T P ∧ mlst M' j = some (zs.map D.str) ∧ Bg M' n m ∧ Fr [n, m] M M' ∧ ρ = [some (.ref n), some (treeD T), some (.ref j), some (.int wd), some (.ref M.length), x5])
    (fun r ρ M' h => by obtain ⟨_, _, _, _, _, _, _, h, _⟩ := h; exact lstAt_of h) ?_ ?_ zs _ _ ⟨[], [], _, mlst_new, rfl, List.Sublist.refl _, ⟨by simp, (fun _ h => by cases h), (fun _ h => by cases h), (fun _ h => by cases h)⟩, Fr.app (S := []).lst hj, h.app, Fr.app, rfl⟩
  · rintro z r ρ M1 Kn ⟨P, p, x5, mP, hzp, hs, hP, hj1, p1, f1, rfl⟩ hK
    have lP := hs.length_le
    rw [List.length_map] at lP
    have lz := congrArg List.length hzp
    rw [List.length_append] at lz
    refine ⟨_, rfl, ?_⟩
    refine w1 p1 (by decide) (by decide) fun c M2 c0 c1 p2 f2 => ?_
    have hj2 := f2.lst hj1 (by simp [hjn])
    have mP2 := f2.lst mP (by simp [hne])
    conv => whnf
    rw [eqI]
    refine bm (fun e0 => ?_) (fun e0 => ?_)
    · refine ⟨rcv_lst mP2, ?_⟩
      refine w3 ?_
      refine w1 p2 (by decide) (by decide) fun c M3 c0 c1 p3 f3 => ?_
      obtain ⟨a, b⟩ := GT.at (zs := zs) z hT.txt
      refine w2 p3 a (by omega) (by omega) (by omega) fun es M4 v hg les p4 f4 => ?_
      have mP4 := f4.lst (f3.lst mP2 (by simp [hne])) (by simp [hne])
      have hj4 := f4.lst (f3.lst hj2 (by simp [hjn])) (by simp [hjn])
      refine ⟨sz rfl, ?_⟩
      conv => whnf
      rw [mP4]
      refine ⟨Nat.lt_of_lt_of_le (show (P.map partK).length < 100 by rw [List.length_map]; omega) (by decide), ?_⟩
      have hzm : z ∈ zs := by rw [hzp]; simp
      have q1 := one z es hzm v hg les
      have hs2 : ((P ++ [(z, es)]).map (·.1)).Sublist (p ++ [z]) := by rw [List.map_append]; exact hs.append (List.Sublist.refl _)
      have nd2 : (p ++ [z]).Nodup := by
        have : (p ++ [z]).Sublist zs := by rw [hzp]; exact (List.Sublist.refl p).append (List.singleton_sublist.mpr (by simp))
        exact this.nodup nd
      refine hK _ _ ⟨P ++ [(z, es)], p ++ [z], _, ?_, by rw [hzp]; simp, hs2, ⟨hs2.nodup nd2, fun e he => ?_, fun e he => ?_, fun e he => ?_⟩, mlst_setne hj4 (by omega), p4.set hne.1 hne.2, (f1.tr (f2.tr (f3.tr f4))).set (.inr (Nat.le_refl _)), rfl⟩
      · rw [mlst_set (mlst_lt mP4), List.map_append]; rfl
      · rcases List.mem_append.mp he with he | he
        · exact hP.sub e he
        · exact q1.sub e he
      · rcases List.mem_append.mp he with he | he
        · exact hP.val e he
        · exact q1.val e he
      · rcases List.mem_append.mp he with he | he
        · exact hP.hk e he
        · exact q1.hk e he
    · exact hK _ _ ⟨P, p ++ [z], _, mP2, by rw [hzp]; simp, hs.trans (List.sublist_append_left _ _), hP, hj2, p2, f1.tr f2, rfl⟩
  · rintro ρ M1 ⟨P, p, x5, mP, hzp, hs, hP, hj1, p1, f1, rfl⟩
    have mP1 : mlst (M1 ++ [O.lst []]) M.length = some (P.map partK) := Fr.app.lst (S := []) mP
    refine ⟨sz rfl, ?_⟩
    conv => whnf
    rw [show pyM (M1 ++ [O.lst []]) (.ref M.length) = some (.list (toPys (P.map partK))) from by simp only [pyM, lstAt_of mP1, part_nr hT hP, if_true], show pyM (M1 ++ [O.lst []]) (.ref M1.length) = some (.list (toPys [])) from by simp only [pyM, lstAt_of mlst_new, norefs, if_true]]
    refine ⟨Nat.le_trans (Nat.min_le_right _ _) (by decide), ?_⟩
    cases P with
    | cons e r =>
      rw [show PyData.eqv (.list (toPys (List.map partK (e :: r)))) (.list (toPys [])) = false from by simp [toPys, PyData.eqv, PyData.eqvAll]]
      exact cnTuple_ok mP1 (k (e :: r) _ hP p1.app (f1.tr0 Fr.app))
    | nil =>
      rw [show PyData.eqv (.list (toPys (List.map partK []))) (.list (toPys [])) = true from by simp [toPys, PyData.eqv, PyData.eqvAll]]
      have hj2 : mlst (M1 ++ [O.lst []]) j = some (zs.map D.str) := Fr.app.lst (S := []) hj1
      conv => whnf
      rw [lstAt_of hj2]
      conv => whnf
      rw [List.length_map]
      refine w1 p1.app (by omega) (by omega) fun c M2 c0 c1 p2 f2 => ?_
      obtain ⟨z, hzm, ez⟩ := pickS (xs := zs) c0 c1
      have hj3 := f2.lst hj2 (by simp [hjn])
      have mP3 := f2.lst mP1 (by simp [hne])
      conv => whnf
      rw [lstAt_of hj3]
      conv => whnf
      rw [ez]
      refine ⟨rcv_lst mP3, ?_⟩
      refine w3 ?_
      refine w1 p2 (by decide) (by decide) fun c M3 c0 c1 p3 f3 => ?_
      obtain ⟨a, b⟩ := GT.at (zs := zs) z hT.txt
      refine w2 p3 a (by omega) (by omega) (by omega) fun es M4 v hg les p4 f4 => ?_
      have mP4 := f4.lst (f3.lst mP3 (by simp [hne])) (by simp [hne])
      refine ⟨sz rfl, ?_⟩
      conv => whnf
      rw [mP4]
      refine ⟨by decide, ?_⟩
      refine cnTuple_ok (mlst_set (mlst_lt mP4)) (k [(z, es)] _ (one z es hzm v hg les) (p4.set hne.1 hne.2) (((f1.tr0 Fr.app).tr (f2.tr (f3.tr f4))).set (.inr (Nat.le_refl _))))
theorem w_law_changes {n m j q u : Nat} {wd : Int} {zs ys : List Str} {B : Nat} {T : Tr} {M R Ex} (h : Bg M n m) (hj : mlst M j = some (zs.map D.str)) (hjn : j ≠ n ∧ j ≠ m) (hq : mlst M q = some (ys.map D.str)) (hqn : q ≠ n ∧ q ≠ m) (hu : mlst M u = some [.str "ann"]) (hun : u ≠ n ∧ u ≠ m)
    (hz0 : 0 < zs.length) (hz : zs.length ≤ 7) (nd : zs.Nodup) (hB : B + 6 * ys.length ≤ 60) (hT : GT zs B T) (k : ∀ (cs : List Ch) M', Chn zs T cs → cs.length = ys.length → Bg M' n m → Fr [n, m] M M' → R (.tup (cs.map Ch.d)) M') : F_law_changes [.ref n, treeD T, .ref j, .ref q, .ref u, .int wd] M R Ex := by
  unfold F_law_changes
  have w1 := @w_take; obtain ⟨Fw1, qw1⟩ := op F_law_take; rw [← qw1] at w1 ⊢; clear qw1
  have w2 := @w_law_patch; obtain ⟨Fw2, qw2⟩ := op F_law_patch; rw [← qw2] at w2 ⊢; clear qw2
  have w3 := @w_law_apply; obtain ⟨Fw3, qw3⟩ := op F_law_apply; rw [← qw3] at w3 ⊢; clear qw3
  have hne := h.ne (Nat.le_refl _)
  have hjl := mlst_lt hj
  have hql := mlst_lt hq
  have hul := mlst_lt hu
  refine ⟨sz rfl, ?_⟩
  conv => whnf
  rw [lstAt_of (Fr.app (S := []).lst hq)]
  refine forL_map D.str (fun r ρ M' => ∃ (cs : List Ch) (p : List Str) (x7 x8 : Option D), mlst M' M.length = some (cs.map Ch.d) ∧ ys = p ++ r ∧ cs.length = p.length ∧ Chn zs T cs ∧ mlst M' j = some (zs.map D.str) ∧ mlst M' q = some (ys.map D.str) ∧ mlst M' u = some [.str "ann"] ∧ Bg M' n m ∧ Fr [n, m] M M' ∧ ρ = [some (.ref n), some (treeD (lastT T cs)), some (.ref j), some (.ref q), some (.ref u), some (.int wd), some (.ref M.length), x7, x8])
    (fun r ρ M' h => by obtain ⟨_, _, _, _, _, _, _, _, _, h, _⟩ := h; exact lstAt_of h) ?_ ?_ ys _ _ ⟨[], [], _, _, mlst_new, rfl, rfl, trivial, Fr.app (S := []).lst hj, Fr.app (S := []).lst hq, Fr.app (S := []).lst hu, h.app, Fr.app, rfl⟩
  · rintro y r ρ M1 Kn ⟨cs, p, x7, x8, hm, hy, lc, hc, hj1, hq1, hu1, p1, f1, rfl⟩ hK
    have ly := congrArg List.length hy
    rw [List.length_append, List.length_cons] at ly
    have hL := lastT_ok hT hc
    refine ⟨_, rfl, ?_⟩
    refine w2 p1 hj1 hjn hz0 hz nd (by omega) hL fun P M2 hP p2 f2 => ?_
    refine w3 hz (by omega) hL hP fun M3 f3 => ?_
    have p3 := p2.fr f3
    have m3 := f3.lst (f2.lst hm (by simp [hne]))
    have j3 := f3.lst (f2.lst hj1 (by simp [hjn]))
    have q3 := f3.lst (f2.lst hq1 (by simp [hqn]))
    have u3 := f3.lst (f2.lst hu1 (by simp [hun]))
    refine ⟨rcv_lst m3, ?_⟩
    conv => whnf
    rw [lstAt_of u3]
    refine w1 p3 (by decide) (by decide) fun c M4 c0 c1 p4 f4 => ?_
    have m4 := f4.lst m3 (by simp [hne])
    have j4 := f4.lst j3 (by simp [hjn])
    have q4 := f4.lst q3 (by simp [hqn])
    have u4 := f4.lst u3 (by simp [hun])
    have c00 : c = 0 := by have : c < 1 := c1; omega
    subst c00
    conv => whnf
    rw [lstAt_of u4]
    refine ⟨sz rfl, ?_⟩
    conv => whnf
    rw [m4]
    refine ⟨Nat.lt_of_lt_of_le (show (cs.map Ch.d).length < 100 by rw [List.length_map]; omega) (by decide), ?_⟩
    have t4 : Fr [n, m] M M4 := (f1.tr (f2.tr0 f3)).tr f4
    refine hK _ _ ⟨cs ++ [⟨y, P⟩], p ++ [y], some (.str y), some (paD P), ?_, by rw [hy]; simp, by simp [lc], hc.snoc hP, mlst_setne j4 (by omega), mlst_setne q4 (by omega), mlst_setne u4 (by omega), p4.set hne.1 hne.2, t4.set (.inr (Nat.le_refl _)), ?_⟩
    · rw [mlst_set (mlst_lt m4), List.map_append]; rfl
    · rw [lastT_snoc]; rfl
  · rintro ρ M1 ⟨cs, p, x7, x8, hm, hy, lc, hc, hj1, hq1, hu1, p1, f1, rfl⟩
    have hy : ys = p := by simpa using hy
    exact cnTuple_ok hm (k cs _ hc (by rw [lc, hy]) p1 f1)
end SG

set_option maxHeartbeats 1000000
namespace SG
open PySem PySem.Spec L2 DN
theorem w_law_spots9 {t : Nat} {Ts : List Tr} {M R Ex} (ht : mlst M t = some (Ts.map treeD)) (hT : ∀ T ∈ Ts, okT T) (hl : Ts.length ≤ 9) (k : ∀ (sp : List D) (j : Nat) M', M.length ≤ j → mlst M' j = some sp → (∀ d ∈ sp, spotD d) → sp.length ≤ 4464 → Fr [] M M' → R (.ref j) M') : F_law_spots [.ref t] M R Ex := by
  unfold F_law_spots
  refine ⟨sz rfl, ?_⟩
  have htl := mlst_lt ht
  conv => whnf
  rw [lstAt_of (Fr.app (S := []).lst ht)]
  refine forL_map treeD (fun r ρ M' => (∀ T ∈ r, okT T) ∧ (∃ (acc : List D), mlst M' M.length = some acc ∧ acc.length + 496 * r.length ≤ 4464 ∧ ∀ d ∈ acc, spotD d) ∧ Fr [] M M' ∧ ∃ (x y : Option D), ρ = [some (.ref t), some (.ref M.length), x, y, none])
    (fun r ρ M' h => lstAt_of (h.2.2.1.lst ht)) ?_ ?_ Ts _ _ ⟨hT, ⟨[], mlst_new, by simp; omega, fun _ h => by simp at h⟩, Fr.app, _, _, rfl⟩
  · rintro T r ρ M1 Kn ⟨hr, ⟨acc, hm, hl, hg⟩, f, x, y, rfl⟩ hK
    have oT := hr T (by simp)
    have o8 := oT.len
    simp only [List.length_cons] at hl
    refine ⟨_, rfl, ?_⟩
    refine forL_map entD (fun s ρ M' => (∀ e ∈ s, txOk e) ∧ (∃ (acc : List D), mlst M' M.length = some acc ∧ acc.length + 62 * s.length + 496 * r.length ≤ 4464 ∧ ∀ d ∈ acc, spotD d) ∧ Fr [] M M' ∧ ∃ (y : Option D), ρ = [some (.ref t), some (.ref M.length), some (treeD T), y, none])
      (fun _ _ _ _ => trivial) ?_ ?_ T _ _ ⟨oT.txt, ⟨acc, hm, by omega, hg⟩, f, _, rfl⟩
    · rintro e s ρ M2 Kn2 ⟨hs, ⟨acc, hm, hl, hg⟩, f, y, rfl⟩ hK2
      obtain ⟨e1, e2⟩ := hs e (by simp)
      simp only [List.length_cons] at hl
      refine ⟨_, rfl, ?_⟩
      refine ⟨rcv_lst hm, ?_⟩
      refine lcP (fun _ => true) (fun x => .tup [.str e.1, x]) (by simp) e.2 (fun _ _ => trivial) (fun i M3 Kt Kf hi f3 hT hF => ?_) (acc := []) mlst_new (Nat.le_trans (show 0 + e.2.length ≤ 1000 by omega) (by decide)) fun M3 f3 m3 => ?_
      · exact ⟨_, rfl, sz rfl, hT rfl _ Fr.refl⟩
      · have m3' := f3.lst (Fr.app (S := []).lst hm) (by have := mlst_lt hm; simp; omega)
        rw [ft, List.nil_append] at m3
        conv => whnf
        rw [m3', m3]
        refine ⟨Nat.le_trans (show acc.length + (e.2.map _).length ≤ 5000 by rw [List.length_map]; omega) (by decide), ?_⟩
        refine hK2 _ _ ⟨fun x hx => hs x (by simp [hx]), ⟨_, mlst_set (mlst_lt m3'), by rw [List.length_append, List.length_map]; omega, fun d hd => ?_⟩, ?_, _, rfl⟩
        · rcases List.mem_append.mp hd with hd | hd
          · exact hg d hd
          · obtain ⟨z, hz, rfl⟩ := List.mem_map.mp hd
            obtain ⟨w, rfl, hw⟩ := okt_iff.mp e1 z hz
            exact ⟨_, _, hw, rfl⟩
        · exact (f.tr0 (((Fr.app (S := [])).trans f3 (fun i hi hl => by simp at hi; subst hi; simp at hl)).mono fun _ h => by cases h)).set (.inr (Nat.le_refl _))
    · rintro ρ M2 ⟨_, ⟨acc, hm, hl, hg⟩, f, y, rfl⟩
      exact hK _ _ ⟨fun T hT => hr T (by simp [hT]), ⟨acc, hm, by simp at hl; omega, hg⟩, f, _, _, rfl⟩
  · rintro ρ M1 ⟨_, ⟨acc, hm, hl, hg⟩, f, x, y, rfl⟩
    exact k acc _ _ (Nat.le_refl _) hm hg (by omega) f
theorem w_law_check9 {n m j q : Nat} {wd : Int} {zs : List Str} {sp : List D} {M R Ex} (h : Bg M n m) (hj : mlst M j = some (zs.map D.str)) (hjn : j ≠ n ∧ j ≠ m) (hz : 0 < zs.length ∧ zs.length ≤ 8) (hq : mlst M q = some sp) (hqn : q ≠ n ∧ q ≠ m) (hs : ∀ d ∈ sp, spotD d) (hsl : sp.length ≤ 4464)
    (k : ∀ (c : Chk) M', Bg M' n m → Fr [n, m] M M' → R (chkD c) M') : F_law_check [.ref n, .ref j, .ref q, .int wd] M R Ex := by
  unfold F_law_check
  have w1 := @w_law_line; obtain ⟨Fw1, qw1⟩ := op F_law_line; rw [← qw1] at w1 ⊢; clear qw1
  have w2 := @w_take; obtain ⟨Fw2, qw2⟩ := op F_law_take; rw [← qw2] at w2 ⊢; clear qw2
  have rest2 : ∀ (w : Str) (x4 x5 x6 : Option D) (M1 : Mem), Bg M1 n m → Fr [n, m] M M1 → r_law_check_2 Fw1 Fw2 (SD.top R Ex) [some (.ref n), some (.ref j), some (.ref q), some (.int wd), x4, x5, x6, some (.str w)] M1 := by
    intro w x4 x5 x6 M1 p1 f1
    have rest1 : ∀ w : Str, r_law_check_1 Fw1 Fw2 (SD.top R Ex) [some (.ref n), some (.ref j), some (.ref q), some (.int wd), x4, x5, x6, some (.str w)] M1 := by
      intro w
      refine w2 p1 (by decide) (by decide) fun x M2 x0 x1 p2 f2 => ?_
      refine ⟨sz rfl, ?_⟩
      have := k (.most w x.toNat) M2 p2 (f1.tr f2)
      simp only [chkD] at this
      rw [Int.toNat_of_nonneg x0] at this
      exact this
    conv => whnf
    rw [eqS]
    refine bm (fun e => ?_) (fun e => ?_)
    · exact rest1 _
    · exact rest1 _
  have rest3 : ∀ (p l a b : Str) (x6 x7 : Option D) (M1 : Mem), okl l = true → Bg M1 n m → Fr [n, m] M M1 → r_law_check_3 Fw1 Fw2 (SD.top R Ex) [some (.ref n), some (.ref j), some (.ref q), some (.int wd), some (.tup [.str p, .str l]), some (.tup [.str a, .str b]), x6, x7] M1 := by
    intro p l a b x6 x7 M1 hl p1 f1
    refine w2 p1 (by decide) (by decide) fun x M2 x0 x1 p2 f2 => ?_
    conv => whnf
    rw [eqI]
    refine bm (fun e0 => ?_) (fun e0 => ?_)
    · exact ⟨sz rfl, k (.has p l) _ p2 (f1.tr f2)⟩
    conv => whnf
    rw [eqI]
    refine bm (fun e1 => ?_) (fun e1 => ?_)
    · exact ⟨sz rfl, k (.lacks p l) _ p2 (f1.tr f2)⟩
    conv => whnf
    rw [eqI]
    refine bm (fun e3 => ?_) (fun e3 => ?_)
    · exact ⟨sz rfl, k (.ties l b) _ p2 (f1.tr f2)⟩
    refine w2 p2 (by decide) (by decide) fun y M3 y0 y1 p3 f3 => ?_
    conv => whnf
    rw [eqI]
    refine bm (fun e4 => ?_) (fun e4 => ?_)
    · have := okl_len hl
      exact ⟨Nat.le_trans (show l.length ≤ 100 by omega) (by decide), rest2 _ _ _ _ _ p3 ((f1.tr f2).tr f3)⟩
    · exact rest2 _ _ _ _ _ p3 ((f1.tr f2).tr f3)
  have draw : ∀ (M1 : Mem) (R' : KD) (X : XC), Bg M1 n m → Fr [n, m] M M1 → (0 : Int) < (sp.length : Int) → (∀ p l M2, okl l = true → Bg M2 n m → Fr [n, m] M M2 → R' (.tup [.str p, .str l]) M2) → eBin opIx (eVar 2) (eCall Fw2 (aCons (eVar 0) (aCons (eCallB cnLen (aCons (eVar 2) aNil)) aNil))) X [some (.ref n), some (.ref j), some (.ref q), some (.int wd)] M1 R' := by
    intro M1 R' X p1 f1 h0 k'
    conv => whnf
    rw [lstAt_of (f1.lst hq (by simp [hqn]))]
    refine w2 p1 h0 (by omega) fun x M2 x0 x1 p2 f2 => ?_
    obtain ⟨d, hd, a1⟩ := pick_D x0 x1
    obtain ⟨p, l, hl, rfl⟩ := hs d hd
    conv => whnf
    rw [lstAt_of ((f1.tr f2).lst hq (by simp [hqn]))]
    conv => whnf
    rw [a1]
    exact k' _ _ _ hl p2 (f1.tr f2)
  have rest4 : ∀ (p l a b : Str) (x6 x7 : Option D) (M1 : Mem), okl l = true → Bg M1 n m → Fr [n, m] M M1 → r_law_check_4 Fw1 Fw2 (SD.top R Ex) [some (.ref n), some (.ref j), some (.ref q), some (.int wd), some (.tup [.str p, .str l]), some (.tup [.str a, .str b]), x6, x7] M1 := by
    intro p l a b x6 x7 M1 hl p1 f1
    conv => whnf
    rw [lstAt_of (f1.lst hq (by simp [hqn]))]
    conv => whnf
    refine bm (fun e0 => ?_) (fun e0 => ?_)
    · refine w2 p1 (by decide) (by decide) fun x M2 x0 x1 p2 f2 => ?_
      conv => whnf
      refine bm (fun e1 => ?_) (fun e1 => ?_)
      · refine draw M2 _ _ p2 (f1.tr f2) (of_decide_eq_true e0) fun a b M3 hb p3 f3 => ?_
        exact rest3 _ _ _ _ _ _ _ hl p3 f3
      · exact rest3 _ _ _ _ _ _ _ hl p2 (f1.tr f2)
    · exact rest3 _ _ _ _ _ _ _ hl p1 f1
  conv => whnf
  rw [lstAt_of hj]
  refine w2 h (by rw [List.length_map]; omega) (by rw [List.length_map]; omega) fun x M1 x0 x1 p1 f1 => ?_
  rw [List.length_map] at x1
  obtain ⟨p, hp, a1⟩ := pickS x0 x1
  conv => whnf
  rw [lstAt_of (f1.lst hj (by simp [hjn]))]
  conv => whnf
  rw [a1]
  refine w1 p1 fun l M2 hl p2 f2 => ?_
  refine ⟨sz rfl, ?_⟩
  have f12 := f1.tr f2
  conv => whnf
  rw [lstAt_of (f12.lst hq (by simp [hqn]))]
  conv => whnf
  refine bm (fun e0 => ?_) (fun e0 => ?_)
  · refine w2 p2 (by decide) (by decide) fun x M3 x0 x1 p3 f3 => ?_
    conv => whnf
    refine bm (fun e1 => ?_) (fun e1 => ?_)
    · refine draw M3 _ _ p3 (f12.tr f3) (of_decide_eq_true e0) fun a b M4 hb p4 f4 => ?_
      exact rest4 _ _ _ _ _ _ _ hb p4 f4
    · exact rest4 _ _ _ _ _ _ _ hl p3 (f12.tr f3)
  · exact rest4 _ _ _ _ _ _ _ hl p2 f12
/-! ### drawn names -/
theorem w_take_signs {n m : Nat} {lim : Int} {A : Nat} {z : Str} {M : Mem} {R : KD} {Ex : XC} {ρ : DN.Env} {te : SE} (h : Bg M n m) : True := trivial
theorem w_law_names {n m : Nat} {M R Ex} (h : Bg M n m) (k : ∀ (ys : List Str) (j : Nat) M', M.length ≤ j → mlst M' j = some (ys.map D.str) → ys.length = 8 → Bg M' n m → Fr [n, m] M M' → R (.ref j) M') : F_law_names [.ref n, .int 8] M R Ex := by
  unfold F_law_names
  have w1 := @w_take; obtain ⟨Fw1, qw1⟩ := op F_law_take; rw [← qw1] at w1 ⊢; clear qw1
  have e36 : (Str.ofString "abcdefghijklmnopqrstuvwxyz0123456789").length = 36 := by decide +kernel
  have e36b : (Str.ofString "abcdefghijklmnopqrstuvwxyz0123456789").cps.toList.length = 36 := by decide +kernel
  have hne := h.ne (Nat.le_refl _)
  refine ⟨rfl, ?_⟩
  refine w1 h (by decide) (by decide) fun c M1 c0 c1 p1 f1 => ?_
  refine ⟨by omega, by omega, ?_⟩
  have hne1 := p1.ne (Nat.le_refl _)
  refine lcL_inv (fun i M' => ∃ (ys : List Str), mlst M' M1.length = some (ys.map D.str) ∧ ys.length = i ∧ (∀ y ∈ ys, y.length ≤ 1) ∧ Bg M' n m ∧ Fr [n, m] M1 M') _ (fun _ _ _ => trivial) ?_ ?_ _ ⟨[], mlst_new, rfl, (fun _ h => by cases h), p1.app, Fr.app⟩
  · rintro i d M2 Kc hd ⟨ys, hy, hl, hg, p2, f2⟩ hK
    obtain ⟨hi, rfl⟩ := rngD_get hd
    refine ⟨_, rfl, ?_⟩
    refine w1 p2 (by decide) (by decide) fun y M3 y0 y1 p3 f3 => ?_
    obtain ⟨sg, es⟩ := ascii_ix (z := Str.ofString "abcdefghijklmnopqrstuvwxyz0123456789") y0 (by omega)
    have m3 := f3.lst hy (by simp [hne1])
    refine ⟨by rw [e36]; decide, ?_⟩
    conv => whnf
    rw [es]
    conv => whnf
    rw [m3]
    refine ⟨Nat.lt_of_lt_of_le (show (ys.map D.str).length < 100 by rw [List.length_map]; omega) (by decide), hK _ ⟨ys ++ [⟨#[sg]⟩], ?_, by simp [hl], fun z hz => ?_, p3.set hne1.1 hne1.2, (f2.tr f3).set (.inr (Nat.le_refl _))⟩⟩
    · rw [mlst_set (mlst_lt m3), List.map_append]; rfl
    · rcases List.mem_append.mp hz with hz | hz
      · exact hg z hz
      · simp at hz; subst hz; exact Nat.le_refl 1
  · rintro M2 ⟨ys, hy, hl, hg, p2, f2⟩
    rw [rngD_len] at hl
    have hsum := sum_le (ys := ys) hg
    conv => whnf
    rw [lstAt_of hy]
    conv => whnf
    rw [show (some (ys.map D.str)).bind strsD = some ys from strsD_map ys]
    refine ⟨show (ys.map (·.length)).sum + ys.length * 0 ≤ 16777216 by omega, ?_⟩
    have lhead : (Txt.join (Str.ofString "") ys).length ≤ 10 := by rw [joinS_len]; omega
    generalize Txt.join (Str.ofString "") ys = head at lhead
    have p2' := p2
    refine ⟨rfl, ?_⟩
    refine w1 p2 (by decide) (by decide) fun c M3 c0 c1 p3 f3 => ?_
    refine ⟨by omega, by omega, ?_⟩
    have hne3 := p3.ne (Nat.le_refl _)
    refine lcL_inv (fun i M' => ∃ (ys : List Str), mlst M' M3.length = some (ys.map D.str) ∧ ys.length = i ∧ (∀ y ∈ ys, y.length ≤ 1) ∧ Bg M' n m ∧ Fr [n, m] M3 M') _ (fun _ _ _ => trivial) ?_ ?_ _ ⟨[], mlst_new, rfl, (fun _ h => by cases h), p3.app, Fr.app⟩
    · rintro i d M4 Kc hd ⟨ys, hy, hl, hg, p4, f4⟩ hK
      obtain ⟨hi, rfl⟩ := rngD_get hd
      refine ⟨_, rfl, ?_⟩
      refine w1 p4 (by decide) (by decide) fun y M5 y0 y1 p5 f5 => ?_
      obtain ⟨sg, es⟩ := ascii_ix (z := Str.ofString "abcdefghijklmnopqrstuvwxyz0123456789") y0 (by omega)
      have m5 := f5.lst hy (by simp [hne3])
      refine ⟨by rw [e36]; decide, ?_⟩
      conv => whnf
      rw [es]
      conv => whnf
      rw [m5]
      refine ⟨Nat.lt_of_lt_of_le (show (ys.map D.str).length < 100 by rw [List.length_map]; omega) (by decide), hK _ ⟨ys ++ [⟨#[sg]⟩], ?_, by simp [hl], fun z hz => ?_, p5.set hne3.1 hne3.2, (f4.tr f5).set (.inr (Nat.le_refl _))⟩⟩
      · rw [mlst_set (mlst_lt m5), List.map_append]; rfl
      · rcases List.mem_append.mp hz with hz | hz
        · exact hg z hz
        · simp at hz; subst hz; exact Nat.le_refl 1
    · rintro M4 ⟨ys, hy, hl, hg, p4, f4⟩
      rw [rngD_len] at hl
      have hsum := sum_le (ys := ys) hg
      conv => whnf
      rw [lstAt_of hy]
      conv => whnf
      rw [show (some (ys.map D.str)).bind strsD = some ys from strsD_map ys]
      refine ⟨show (ys.map (·.length)).sum + ys.length * 0 ≤ 16777216 by omega, ?_⟩
      have ltail : (Txt.join (Str.ofString "") ys).length ≤ 10 := by rw [joinS_len]; omega
      generalize Txt.join (Str.ofString "") ys = tail at ltail
      refine w1 p4 (by decide) (by decide) fun a M5 a0 a1 p5 f5 => ?_
      have a1 : a < 19 := a1
      refine ⟨by decide, by decide, ?_⟩
      have fr5 : Fr [n, m] M M5 := f1.tr (f2.tr (f3.tr (f4.tr f5)))
      have hle := fr5.le
      refine lcL_inv (fun i M' => ∃ (ys : List Str), mlst M' M5.length = some (ys.map D.str) ∧ ys.length = i ∧ Bg M' n m ∧ Fr [n, m] M5 M') _ (fun _ _ _ => trivial) ?_ ?_ _ ⟨[], mlst_new, rfl, p5.app, Fr.app⟩
      · rintro i d M6 Kc hd ⟨ys, hy, hl, p6, f6⟩ hK
        obtain ⟨hi, rfl⟩ := rngD_get hd
        have hi : i < 8 := hi
        obtain ⟨sg, es⟩ := ascii_ix (z := Str.ofString "abcdefghijklmnopqrstuvwxyz0123456789") (i := a + (0 + (i : Int))) (by omega) (by omega)
        refine ⟨_, rfl, ?_⟩
        refine ⟨by rw [e36]; decide, ?_⟩
        conv => whnf
        rw [es]
        have hc := cutS_length tail none (some ((2 * (0 + (i : Int)) + 3) % 4))
        have l1 : (head ++ (⟨#[sg]⟩ : Str)).length = head.length + 1 := by rw [appS_len]; rfl
        refine ⟨Nat.le_trans (show head.length + 1 ≤ 100 by omega) (by decide), mul_l (by decide), by decide, Nat.le_trans (show tail.length ≤ 100 by omega) (by decide), ?_⟩
        refine ⟨Nat.le_trans (show (head ++ (⟨#[sg]⟩ : Str)).length + (cutS tail none (some ((2 * (0 + (i : Int)) + 3) % 4))).length ≤ 100 by omega) (by decide), ?_⟩
        conv => whnf
        rw [hy]
        have hne5 := p5.ne (Nat.le_refl _)
        refine ⟨Nat.lt_of_lt_of_le (show (ys.map D.str).length < 100 by rw [List.length_map]; omega) (by decide), hK _ ⟨ys ++ [(head ++ ⟨#[sg]⟩) ++ cutS tail none (some ((2 * (0 + (i : Int)) + 3) % 4))], ?_, by simp [hl], p6.set hne5.1 hne5.2, f6.set (.inr (Nat.le_refl _))⟩⟩
        rw [mlst_set (mlst_lt hy), List.map_append]
        rfl
      · rintro M6 ⟨ys, hy, hl, p6, f6⟩
        exact k ys _ _ (by omega) hy hl p6 (fr5.tr f6)
/-! ### the search -/
def bis (f : Nat → Bool) : Nat → Nat → Nat → List Nat → Nat × List Nat
  | 0, lo, _, l => (lo, l)
  | n + 1, lo, hi, l => if lo + 1 < hi then (if f ((lo + hi) / 2) = true then bis f n ((lo + hi) / 2) hi (l ++ [(lo + hi) / 2]) else bis f n lo ((lo + hi) / 2) (l ++ [(lo + hi) / 2])) else (lo, l)
theorem bis_stop {f : Nat → Bool} {n lo hi : Nat} {l : List Nat} (h : ¬ lo + 1 < hi) : bis f n lo hi l = (lo, l) := by
  cases n with
  | zero => rfl
  | succ n => rw [bis, if_neg h]
def rd (Ts : List Tr) (cks : List Chk) (i : Nat) : D := match Ts[i]? with | some T => redC T 0 cks | none => .non
def intsN (l : List Nat) : List D := l.map fun (i : Nat) => D.int (i : Int)
def backD (b : Nat × List Nat) : D := .tup [.int b.1, .tup (intsN b.2)]
def dueC (r0 rN : D) (b : Nat × List Nat) : D := match r0 with
  | .tup (x :: _) => .tup [.str "NotGreen", x]
  | _ => if isNon rN = true then .tup [.str "NotRed"] else .tup [.str "back", backD b]
theorem redC_form {T : Tr} : ∀ (cs : List Chk) (i : Int), redC T i cs = .non ∨ ∃ j d, redC T i cs = .tup [.int j, d]
  | [], i => .inl rfl
  | c :: r, i => by
    rcases failC_non T c with h | ⟨xs, h⟩
    · rw [redC_non h]; exact redC_form r _
    · rw [redC_tup h]; exact .inr ⟨_, _, rfl⟩
theorem rd_form (Ts : List Tr) (cks : List Chk) (i : Nat) : rd Ts cks i = .non ∨ ∃ j d, rd Ts cks i = .tup [.int j, d] := by
  unfold rd
  split
  · exact redC_form _ _
  · exact .inl rfl
theorem rd_at {Ts : List Tr} {cks : List Chk} {i : Nat} (h : i < Ts.length) : rd Ts cks i = redC Ts[i] 0 cks := by unfold rd; rw [List.getElem?_eq_getElem h]
theorem isNon_rd {Ts : List Tr} {cks : List Chk} {i : Nat} (h : isNon (rd Ts cks i) = true) : rd Ts cks i = .non := by
  rcases rd_form Ts cks i with e | ⟨j, d, e⟩
  · exact e
  · rw [e] at h; cases h
theorem w_culprit {zs : List Str} {B : Nat} {T : Tr} {cs : List Ch} {cks : List Chk} {M R Ex} (hz : zs.length ≤ 7) (lc : cs.length ≤ 8) (hB : B + 6 * cs.length ≤ 62) (h : GT zs B T) (q : Chn zs T cs)
    (k : rd (trs T cs) cks 0 = .non → isNon (rd (trs T cs) cks cs.length) = false → ∀ M', Fr [] M M' → R (backD (bis (fun i => isNon (rd (trs T cs) cks i)) 9 0 cs.length [])) M')
    (kg : ∀ j d, rd (trs T cs) cks 0 = .tup [.int j, d] → ∀ M', Fr [] M M' → Ex ⟨"NotGreen", ["check"], [.int j]⟩ M')
    (kr : rd (trs T cs) cks 0 = .non → isNon (rd (trs T cs) cks cs.length) = true → ∀ M', Fr [] M M' → Ex ⟨"NotRed", [], []⟩ M') : F_culprit [treeD T, .tup (cs.map Ch.d), .tup (cks.map chkD)] M R Ex := by
  unfold F_culprit
  have w1 := @w_trees_along; obtain ⟨Fw1, qw1⟩ := op F_trees_along; rw [← qw1] at w1 ⊢; clear qw1
  have w2 := @w_first_red; obtain ⟨Fw2, qw2⟩ := op F_first_red; rw [← qw2] at w2 ⊢; clear qw2
  have w3 := @w_green; obtain ⟨Fw3, qw3⟩ := op F_green; rw [← qw3] at w3 ⊢; clear qw3
  refine w1 hz hB h q fun M1 f1 => ?_
  have lT := trs_len (cs := cs) (T := T)
  have okS : ∀ i (hi : i < (trs T cs).length), okT (trs T cs)[i] := fun i hi => (trs_ok h q _ (List.getElem_mem hi)).ok hz hB
  have at_ : ∀ (v : Int) (i : Nat) (hi : i < (trs T cs).length), v = i → atI ((trs T cs).map treeD) v = some (treeD (trs T cs)[i]) := fun v i hi e => atI_get (j := i) e (by rw [List.getElem?_map, List.getElem?_eq_getElem hi]; rfl)
  have h0 : 0 < (trs T cs).length := by omega
  have hN : cs.length < (trs T cs).length := by omega
  have atN : atI ((trs T cs).map treeD) (-1) = some (treeD (trs T cs)[cs.length]) := by
    obtain ⟨ini, ei⟩ := trs_last (cs := cs) (T := T)
    have li := congrArg List.length ei
    rw [List.length_append, lT] at li
    have li : ini.length = cs.length := by simp at li; omega
    have e2 : (trs T cs)[cs.length] = lastT T cs := by
      have : (trs T cs)[cs.length]? = some (lastT T cs) := by rw [ei, List.getElem?_append_right (by omega), li, Nat.sub_self]; rfl
      rw [List.getElem?_eq_getElem hN] at this
      exact Option.some.inj this
    rw [e2, ei, List.map_append]
    exact atI_end
  conv => whnf
  rw [at_ 0 0 h0 rfl]
  refine w2 (okS 0 h0) fun M2 f2 => ?_
  have fr2 := f1.tr f2
  rw [← rd_at (cks := cks) h0]
  rcases rd_form (trs T cs) cks 0 with e0 | ⟨j, d, e0⟩
  · rw [e0]
    conv => whnf
    rw [atN]
    refine w3 (okS _ hN) fun M3 f3 => ?_
    have fr3 := fr2.tr f3
    rw [← rd_at (cks := cks) hN]
    cases eN : isNon (rd (trs T cs) cks cs.length) with
    | true => exact kr e0 eN M3 fr3
    | false =>
      have k := k e0 eN
      obtain ⟨Hb, hHb⟩ : ∃ H, bis (fun i => isNon (rd (trs T cs) cks i)) 9 0 cs.length [] = H := ⟨_, rfl⟩
      rw [hHb] at k
      conv => whnf
      rw [List.length_map]
      refine ⟨sz rfl, 10, ?_⟩
      refine while_ok (fun n ρ M' => ∃ (lo hi : Nat) (l : List Nat) (x8 : Option D), lo ≤ hi ∧ hi ≤ cs.length ∧ hi - lo < n ∧ l.length + n ≤ 10 ∧ Hb = bis (fun i => isNon (rd (trs T cs) cks i)) (n - 1) lo hi l ∧ mlst M' M3.length = some (intsN l) ∧ Fr [] M3 M' ∧ ρ = [some (treeD T), some (.tup (cs.map Ch.d)), some (.tup (cks.map chkD)), some (.tup ((trs T cs).map treeD)), some .non, some (.int lo), some (.int hi), some (.ref M3.length), x8]) ?_ ?_ 10 _ _ ⟨0, cs.length, [], _, by omega, by omega, by omega, by simp, hHb.symm, mlst_new, Fr.app, rfl⟩
      · rintro ρ M' ⟨lo, hi, l, x8, a, b, c, _⟩
        omega
      · rintro n ρ M4 Kn ⟨lo, hi, l, x8, a, b, c, ln, e, hm, f4, rfl⟩ hK
        conv => whnf
        refine bm (fun ew => ?_) (fun ew => ?_)
        · have ew : (1 : Int) < (hi : Int) - lo := of_decide_eq_true ew
          have hlt : lo + 1 < hi := by omega
          have hmd : (lo + hi) / 2 < (trs T cs).length := by omega
          have emd : (((lo : Int) + (hi : Int)) / 2) = (((lo + hi) / 2 : Nat) : Int) := by omega
          have em : Int.fdiv ((lo : Int) + (hi : Int)) 2 = (((lo + hi) / 2 : Nat) : Int) := by rw [Int.fdiv_eq_ediv_of_nonneg _ (by decide)]; exact emd
          obtain ⟨n, rfl⟩ : ∃ n', n = n' + 1 := ⟨n - 1, by omega⟩
          rw [show n + 1 + 1 - 1 = n + 1 by omega, bis, if_pos hlt] at e
          refine ⟨by decide, by decide, rcv_lst hm, ?_⟩
          conv => whnf
          rw [hm]
          refine ⟨Nat.lt_of_lt_of_le (show (intsN l).length < 100 by unfold intsN; rw [List.length_map]; omega) (by decide), ?_⟩
          conv => whnf
          first | rw [em] | skip
          rw [at_ _ ((lo + hi) / 2) hmd (by first | rfl | exact em | exact emd)]
          refine w3 (okS _ hmd) fun M5 f5 => ?_
          have m4 := mlst_set (xs := intsN l ++ [.int (((lo + hi) / 2 : Nat) : Int)]) (mlst_lt hm)
          have fr5 : Fr [] M3 M5 := (f4.set (.inr (Nat.le_refl _))).tr0 f5
          rw [← rd_at (cks := cks) hmd]
          have m5 : mlst M5 M3.length = some (intsN (l ++ [(lo + hi) / 2])) := by
            have := f5.lst m4
            rw [this]
            unfold intsN
            simp
          cases ef : isNon (rd (trs T cs) cks ((lo + hi) / 2)) with
          | true =>
            rw [if_pos ef] at e
            exact hK _ _ ⟨(lo + hi) / 2, hi, l ++ [(lo + hi) / 2], _, by omega, b, by omega, by simp; omega, by rw [show n + 1 - 1 = n by omega]; exact e, m5, fr5, rfl⟩
          | false =>
            rw [if_neg (by rw [ef]; simp)] at e
            exact hK _ _ ⟨lo, (lo + hi) / 2, l ++ [(lo + hi) / 2], _, by omega, by omega, by omega, by simp; omega, by rw [show n + 1 - 1 = n by omega]; exact e, m5, fr5, rfl⟩
        · have ew : ¬ (1 : Int) < (hi : Int) - lo := of_decide_eq_false ew
          rw [bis_stop (by omega)] at e
          have k := k M4 (fr3.tr f4)
          rw [e] at k
          conv => whnf
          rw [lstAt_of hm]
          exact ⟨sz rfl, k⟩
  · rw [e0]
    exact kg j d e0 M2 fr2
theorem w_law_told {zs : List Str} {B : Nat} {T : Tr} {cs : List Ch} {cks : List Chk} {M R Ex} (hz : zs.length ≤ 7) (lc : cs.length ≤ 8) (hB : B + 6 * cs.length ≤ 62) (h : GT zs B T) (q : Chn zs T cs)
    (k : ∀ M', Fr [] M M' → R (dueC (rd (trs T cs) cks 0) (rd (trs T cs) cks cs.length) (bis (fun i => isNon (rd (trs T cs) cks i)) 9 0 cs.length [])) M') : F_law_told_v12 [treeD T, .tup (cs.map Ch.d), .tup (cks.map chkD)] M R Ex := by
  unfold F_law_told_v12
  have w1 := @w_culprit; obtain ⟨Fw1, qw1⟩ := op F_culprit; rw [← qw1] at w1 ⊢; clear qw1
  refine w1 hz lc hB h q (fun e0 eN M' f => ?_) (fun j d e0 M' f => ?_) (fun e0 eN M' f => ?_)
  · have k := k M' f
    rw [e0] at k
    unfold dueC at k
    rw [if_neg (by rw [eN]; simp)] at k
    exact ⟨sz rfl, k⟩
  · have k := k M' f
    rw [e0] at k
    exact ⟨by show (3 : Nat) < 4; decide, sz rfl, k⟩
  · have k := k M' f
    rw [e0] at k
    unfold dueC at k
    rw [if_pos eN] at k
    exact ⟨by show (3 : Nat) < 4; decide, sz rfl, k⟩
theorem w_law_due {r : Nat} {Ts : List Tr} {cks : List Chk} {N : Nat} {M R Ex} (hN : Ts.length = N + 1) (l8 : N ≤ 8) (hr : mlst M r = some (Ts.map fun S => redC S 0 cks)) (k : R (dueC (rd Ts cks 0) (rd Ts cks N) (bis (fun i => isNon (rd Ts cks i)) 9 0 N [])) M) : F_law_due_v13 [.ref r] M R Ex := by
  unfold F_law_due_v13
  have at_ : ∀ (v : Int) (i : Nat), i < Ts.length → v = i → atI (Ts.map fun S => redC S 0 cks) v = some (rd Ts cks i) := fun v i hi e => atI_get (j := i) e (by rw [List.getElem?_map, List.getElem?_eq_getElem hi, rd_at hi]; rfl)
  have atN : atI (Ts.map fun S => redC S 0 cks) (-1) = some (rd Ts cks N) := by
    rcases List.eq_nil_or_concat Ts with e | ⟨ini, l, e⟩
    · rw [e] at hN; simp at hN
    · have e : Ts = ini ++ [l] := by simpa using e
      have li : ini.length = N := by rw [e, List.length_append] at hN; simp at hN; exact hN
      have : rd Ts cks N = redC l 0 cks := by
        unfold rd
        rw [e, List.getElem?_append_right (by omega), li, Nat.sub_self]
        rfl
      rw [this, e, List.map_append]
      exact atI_end
  conv => whnf
  rw [lstAt_of hr]
  conv => whnf
  rw [at_ 0 0 (by omega) rfl]
  rcases rd_form Ts cks 0 with e0 | ⟨j, d, e0⟩
  · rw [e0] at k
    rw [e0]
    unfold dueC at k
    simp only at k
    conv => whnf
    rw [lstAt_of hr]
    conv => whnf
    rw [atN]
    conv => whnf
    cases eN : isNon (rd Ts cks N) with
    | true =>
      rw [eN, if_pos rfl] at k
      exact ⟨sz rfl, k⟩
    | false =>
      rw [eN, if_neg (by simp)] at k
      obtain ⟨Hb, hHb⟩ : ∃ H, bis (fun i => isNon (rd Ts cks i)) 9 0 N [] = H := ⟨_, rfl⟩
      rw [hHb] at k
      conv => whnf
      rw [lstAt_of hr]
      conv => whnf
      rw [List.length_map]
      refine ⟨sz rfl, by decide, by decide, ?_⟩
      rw [show (((Ts.length : Nat) : Int) - 1) = ((N : Nat) : Int) by omega]
      refine forL_ix (fun i ρ M' => M' = M ∧ ∃ (lo hi : Nat) (l : List Nat) (x4 x5 : Option D), lo ≤ hi ∧ hi ≤ N ∧ l.length ≤ i ∧ Hb = bis (fun i => isNon (rd Ts cks i)) (9 - i) lo hi l ∧ ρ = [some (.ref r), some (.int lo), some (.int hi), some (.tup (intsN l)), x4, x5]) _ (fun _ _ _ _ => trivial) ?_ ?_ _ _ ⟨rfl, 0, N, [], _, _, by omega, by omega, by simp, hHb.symm, rfl⟩
      · rintro i d ρ M1 Kn hd ⟨rfl, lo, hi, l, x4, x5, a, b, ll, e, rfl⟩ hK
        obtain ⟨hi9, rfl⟩ := rngD_get hd
        have hi9 : i < 9 := hi9
        refine ⟨_, rfl, ?_⟩
        conv => whnf
        refine bm (fun ew => ?_) (fun ew => ?_)
        · have ew : (1 : Int) < (hi : Int) - lo := of_decide_eq_true ew
          have hlt : lo + 1 < hi := by omega
          have hmd : (lo + hi) / 2 < Ts.length := by omega
          have emd : (((lo : Int) + (hi : Int)) / 2) = (((lo + hi) / 2 : Nat) : Int) := by omega
          have em : Int.fdiv ((lo : Int) + (hi : Int)) 2 = (((lo + hi) / 2 : Nat) : Int) := by rw [Int.fdiv_eq_ediv_of_nonneg _ (by decide)]; exact emd
          rw [show 9 - i = (9 - (i + 1)) + 1 by omega, bis, if_pos hlt] at e
          refine ⟨by decide, by decide, sz rfl, Nat.le_trans (show (intsN l).length + 1 ≤ 100 by unfold intsN; rw [List.length_map]; omega) (by decide), ?_⟩
          conv => whnf
          rw [lstAt_of hr]
          conv => whnf
          first | rw [em] | skip
          rw [at_ _ ((lo + hi) / 2) hmd (by first | rfl | exact em | exact emd)]
          conv => whnf
          have el : intsN l ++ [.int (((lo + hi) / 2 : Nat) : Int)] = intsN (l ++ [(lo + hi) / 2]) := by unfold intsN; simp
          cases ef : isNon (rd Ts cks ((lo + hi) / 2)) with
          | true =>
            rw [if_pos ef] at e
            exact hK _ _ ⟨rfl, (lo + hi) / 2, hi, l ++ [(lo + hi) / 2], _, _, by omega, b, by simp; omega, e, by rw [← el]; rfl⟩
          | false =>
            rw [if_neg (by rw [ef]; simp)] at e
            exact hK _ _ ⟨rfl, lo, (lo + hi) / 2, l ++ [(lo + hi) / 2], _, _, by omega, by omega, by simp; omega, e, by rw [← el]; rfl⟩
        · have ew : ¬ (1 : Int) < (hi : Int) - lo := of_decide_eq_false ew
          refine hK _ _ ⟨rfl, lo, hi, l, _, _, a, b, by omega, ?_, rfl⟩
          rw [e, bis_stop (by omega), bis_stop (by omega)]
      · rintro ρ M1 ⟨rfl, lo, hi, l, x4, x5, a, b, ll, e, rfl⟩
        rw [rngD_len] at e
        have e : Hb = (lo, l) := e
        rw [e] at k
        exact ⟨sz rfl, sz rfl, k⟩
  · rw [e0] at k
    rw [e0]
    conv => whnf
    rw [lstAt_of hr]
    conv => whnf
    rw [at_ 0 0 (by omega) rfl, e0]
    exact ⟨sz rfl, k⟩
end SG

set_option maxHeartbeats 1000000
namespace SG
open PySem PySem.Spec L2 DN
theorem w_is_index {v N : Int} {M R Ex} (k : R (.bl (decide (0 ≤ v) && decide (v < N))) M) : F_is_index [.int v, .int N] M R Ex := by
  unfold F_is_index
  have w1 := @w_is_whole; obtain ⟨Fw1, qw1⟩ := op F_is_whole; rw [← qw1] at w1 ⊢; clear qw1
  refine w1 (r := 0) trivial ?_
  conv => whnf
  cases e : decide ((0 : Int) ≤ v) with
  | true =>
    rw [e, Bool.true_and] at k
    exact k
  | false =>
    rw [e, Bool.false_and] at k
    exact k
theorem w_is_index_o {d : D} {N : Int} {M R Ex} (h : sm 5 d) (hw : wholeD d = false) (k : R (.bl false) M) : F_is_index [d, .int N] M R Ex := by
  unfold F_is_index
  have w1 := @w_is_whole; obtain ⟨Fw1, qw1⟩ := op F_is_whole; rw [← qw1] at w1 ⊢; clear qw1
  refine w1 (r := 4) h ?_
  rw [hw]
  exact k
def turnB (f : Nat → Bool) (N : Nat) (v : Int) : Bool := decide (0 ≤ v) && (decide (v < N) && (f v.toNat && !f (v.toNat + 1)))
theorem w_is_culprit {zs : List Str} {B : Nat} {T : Tr} {cs : List Ch} {cks : List Chk} {v : Int} {M R Ex} (hz : zs.length ≤ 7) (hB : B + 6 * cs.length ≤ 62) (h : GT zs B T) (q : Chn zs T cs) (k : ∀ M', Fr [] M M' → R (.bl (turnB (fun i => isNon (rd (trs T cs) cks i)) cs.length v)) M') : F_is_culprit [treeD T, .tup (cs.map Ch.d), .tup (cks.map chkD), .int v] M R Ex := by
  unfold F_is_culprit
  have w0 := @w_is_index; obtain ⟨Fw0, qw0⟩ := op F_is_index; rw [← qw0] at w0 ⊢; clear qw0
  have w1 := @w_trees_along; obtain ⟨Fw1, qw1⟩ := op F_trees_along; rw [← qw1] at w1 ⊢; clear qw1
  have w3 := @w_green; obtain ⟨Fw3, qw3⟩ := op F_green; rw [← qw3] at w3 ⊢; clear qw3
  have lT := trs_len (cs := cs) (T := T)
  have okS : ∀ i (hi : i < (trs T cs).length), okT (trs T cs)[i] := fun i hi => (trs_ok h q _ (List.getElem_mem hi)).ok hz hB
  have at_ : ∀ (v : Int) (i : Nat) (hi : i < (trs T cs).length), v = i → atI ((trs T cs).map treeD) v = some (treeD (trs T cs)[i]) := fun v i hi e => atI_get (j := i) e (by rw [List.getElem?_map, List.getElem?_eq_getElem hi]; rfl)
  unfold turnB at k
  conv => whnf
  rw [List.length_map]
  refine w0 ?_
  show (match (generalizing := false) !(decide ((0 : Int) ≤ v) && decide (v < (cs.length : Int))) with | true => _ | false => _)
  cases e1 : decide ((0 : Int) ≤ v) with
  | false =>
    have k := k M Fr.refl
    rw [e1] at k
    exact k
  | true =>
    cases e2 : decide (v < (cs.length : Int)) with
    | false =>
      have k := k M Fr.refl
      rw [e1, e2] at k
      exact k
    | true =>
      have e1 := of_decide_eq_true e1
      have e2 := of_decide_eq_true e2
      have h1 : v.toNat < (trs T cs).length := by omega
      have h2 : v.toNat + 1 < (trs T cs).length := by omega
      refine w1 hz hB h q fun M1 f1 => ?_
      conv => whnf
      rw [at_ v v.toNat h1 (by omega)]
      refine w3 (okS _ h1) fun M2 f2 => ?_
      rw [← rd_at (cks := cks) h1]
      have k : ∀ M', Fr [] M M' → R (.bl (decide (0 ≤ v) && (decide (v < (cs.length : Int)) && (isNon (rd (trs T cs) cks v.toNat) && !isNon (rd (trs T cs) cks (v.toNat + 1)))))) M' := k
      cases e3 : isNon (rd (trs T cs) cks v.toNat) with
      | false =>
        have k := k M2 (f1.tr f2)
        rw [e3, decide_eq_true e1, decide_eq_true e2] at k
        exact k
      | true =>
        conv => whnf
        rw [at_ (v + 1) (v.toNat + 1) h2 (by omega)]
        refine w3 (okS _ h2) fun M3 f3 => ?_
        rw [← rd_at (cks := cks) h2]
        have k := k M3 ((f1.tr f2).tr f3)
        rw [e3, decide_eq_true e1, decide_eq_true e2] at k
        exact k
theorem w_is_culprit_o {T : Tr} {cs : List Ch} {cks : List Chk} {d : D} {M R Ex} (h : sm 5 d) (hw : wholeD d = false) (k : R (.bl false) M) : F_is_culprit [treeD T, .tup (cs.map Ch.d), .tup (cks.map chkD), d] M R Ex := by
  unfold F_is_culprit
  have w0 := @w_is_index_o; obtain ⟨Fw0, qw0⟩ := op F_is_index; rw [← qw0] at w0 ⊢; clear qw0
  conv => whnf
  exact w0 h hw k
theorem fit_dueC {Ts : List Tr} {cks : List Chk} {i : Nat} {rN : D} {b : Nat × List Nat} (hb : b.2.length ≤ 1000) : fit 6 (dueC (rd Ts cks i) rN b) := by
  rcases rd_form Ts cks i with e | ⟨j, d, e⟩
  · rw [e]
    unfold dueC
    simp only
    split
    · refine ⟨show 1 ≤ 16777216 by decide, fun y hy => ?_⟩
      simp only [List.mem_cons, List.not_mem_nil, or_false] at hy
      subst hy
      trivial
    · refine ⟨show 2 ≤ 16777216 by decide, fun y hy => ?_⟩
      simp only [List.mem_cons, List.not_mem_nil, or_false] at hy
      rcases hy with rfl | rfl
      · trivial
      refine ⟨show 2 ≤ 16777216 by decide, fun y hy => ?_⟩
      simp only [List.mem_cons, List.not_mem_nil, or_false] at hy
      rcases hy with rfl | rfl
      · trivial
      · refine ⟨by unfold intsN; rw [List.length_map]; omega, fun z hz => ?_⟩
        obtain ⟨x, _, rfl⟩ := List.mem_map.mp hz
        trivial
  · rw [e]
    refine ⟨show 2 ≤ 16777216 by decide, fun y hy => ?_⟩
    simp only [List.mem_cons, List.not_mem_nil, or_false] at hy
    rcases hy with rfl | rfl <;> trivial
theorem bis_len {f : Nat → Bool} : ∀ {n lo hi : Nat} {l : List Nat}, (bis f n lo hi l).2.length ≤ l.length + n
  | 0, lo, hi, l => Nat.le_refl _
  | n + 1, lo, hi, l => by
    rw [bis]
    split
    · split
      · have := bis_len (f := f) (n := n) (lo := (lo + hi) / 2) (hi := hi) (l := l ++ [(lo + hi) / 2])
        rw [List.length_append] at this
        simp at this
        omega
      · have := bis_len (f := f) (n := n) (lo := lo) (hi := (lo + hi) / 2) (l := l ++ [(lo + hi) / 2])
        rw [List.length_append] at this
        simp at this
        omega
    · show l.length ≤ l.length + (n + 1)
      omega
theorem w_law_3 {zs : List Str} {T : Tr} {cs : List Ch} {cks : List Chk} {a b : Nat} {s0 s1 s2 s3 s6 s9 s13 s15 s16 : Option D} {M : Mem} {R : KD} {Ex : XC} (hz : zs.length ≤ 7) (lc : cs.length ≤ 8) (h : GT zs 5 T) (q : Chn zs T cs) (lk : cks.length ≤ 100) (ma : mlst M a = some ((trs T cs).map treeD)) (mb : mlst M b = some (cks.map chkD)) (k : ∀ M', R (.bl true) M') :
    r_law_3 F_law_bag F_law_take F_law_paths F_law_base F_law_names F_law_changes F_law_along F_law_spots F_law_check F_law_fails F_law_red F_law_same F_law_due_v13 F_law_told_v12 F_is_culprit (SD.top R Ex) [s0, s1, s2, s3, some (treeD T), some (.int cs.length), s6, some (.tup (cs.map Ch.d)), some (.ref a), s9, some (.ref b), none, none, s13, none, s15, s16] M := by
  have v8 := @w_is_culprit
  have v9 := @w_is_culprit_o
  unfold r_law_3
  have v1 := @w_law_red; obtain ⟨Fv1, qv1⟩ := op F_law_red; rw [← qv1] at v1 ⊢; clear qv1
  have v2 := @w_same0; obtain ⟨Fv2, qv2⟩ := op F_law_same; rw [← qv2] at v2 ⊢; clear qv2
  have v3 := @w_law_told; obtain ⟨Fv3, qv3⟩ := op F_law_told_v12; rw [← qv3] at v3 ⊢; clear qv3
  have v4 := @w_law_due; obtain ⟨Fv4, qv4⟩ := op F_law_due_v13; rw [← qv4] at v4 ⊢; clear qv4
  obtain ⟨FC, qC⟩ : ∃ F, F = F_is_culprit := ⟨_, rfl⟩
  rw [← qC] at v8 v9 ⊢
  clear qC
  generalize F_law_bag = G1
  generalize F_law_take = G2
  generalize F_law_paths = G3
  generalize F_law_base = G4
  generalize F_law_names = G5
  generalize F_law_changes = G6
  generalize F_law_along = G7
  generalize F_law_spots = G8
  generalize F_law_check = G9
  generalize F_law_fails = G10
  have lT := trs_len (cs := cs) (T := T)
  conv => whnf
  rw [lstAt_of mb]
  conv => whnf
  rw [lstAt_of ma]
  conv => whnf
  have hal := mlst_lt ma
  refine lcL_pure treeD (fun _ => true) (fun S => redC S 0 cks) (by simp) (trs T cs) (fun M' f => lstAt_of (f.lst (Fr.app (S := []).lst ma) (by simp; omega))) (fun S M1 Kt Kf hS f1 hT hF => ?_) (acc := []) mlst_new (Nat.le_trans (show 0 + (trs T cs).length ≤ 100 by omega) (by decide)) fun M1 f1 m1 => ?_
  · exact ⟨_, rfl, v1 ((trs_ok h q S hS).ok hz (by omega)) (by omega) fun M2 f2 => hT rfl _ f2⟩
  · have f01 : Fr [] M M1 := ((Fr.app (S := [])).trans f1 (fun i hi hl => by simp at hi; subst hi; simp at hl)).mono fun _ h => by cases h
    rw [List.nil_append, ft] at m1
    refine v3 hz lc (by omega) h q fun M2 f2 => ?_
    have m2 := f2.lst m1
    refine v4 lT lc m2 ?_
    refine v2 rfl (fit_dueC (by have := bis_len (f := fun i => isNon (rd (trs T cs) cks i)) (n := 9) (lo := 0) (hi := cs.length) (l := []); simp at this; omega)) ?_
    refine ⟨⟨by omega, by omega, by omega, by omega⟩, ?_⟩
    have rget : ∀ (v : Int) (i : Nat), i < (trs T cs).length → v = i → atI ((trs T cs).map fun S => redC S 0 cks) v = some (rd (trs T cs) cks i) := fun v i hi e => atI_get (j := i) e (by rw [List.getElem?_map, List.getElem?_eq_getElem hi, rd_at hi]; rfl)
    refine forL_ix (fun i ρ M' => (∃ x15 x16, ρ = [s0, s1, s2, s3, some (treeD T), some (.int cs.length), s6, some (.tup (cs.map Ch.d)), some (.ref a), s9, some (.tup (cks.map chkD)), none, none, some (.ref (M.length)), none, x15, x16]) ∧ Fr [] M2 M') _ (fun _ _ _ _ => trivial) ?_ ?_ _ _ ⟨⟨_, _, rfl⟩, Fr.refl⟩
    · rintro i d ρ M3 Kn hd ⟨⟨x15, x16, rfl⟩, f3⟩ hK
      obtain ⟨hi, rfl⟩ := rngD_get hd
      have m3 := f3.lst m2
      generalize (-2 : Int) + (i : Int) = v
      have fin : ∀ (x : Bool) (M4 : Mem), x = turnB (fun i => isNon (rd (trs T cs) cks i)) cs.length v → Fr [] M2 M4 → sIf (cNot (cT (eCall Fv2 (aCons (eCall FC (aCons (eVar 4) (aCons (eVar 7) (aCons (eVar 10) (aCons (eVar 15) aNil))))) (aCons (eVar 16) aNil))))) (sRet (eC (.bl false))) sNop (SD.lp (SD.sq (SD.top R Ex) (sSeq (sFor (iSeq (eLst (aCons (eC .non) (aCons (eC (.bl true)) (aCons (eC (.bl false)) (aCons (eC (.str "")) (aCons (eC (.str "0")) (aCons (eTup aNil) (aCons (eTup (aCons (eC (.int 0)) aNil)) (aCons (eTup (aCons (eTup (aCons (eC (.int 0)) aNil)) (aCons (eC (.str "a")) aNil))) aNil)))))))))) (.nm 15) (b_law_2 G1 G2 G3 G4 G5 G6 G7 G8 G9 G10 Fv1 Fv2 Fv4 Fv3 FC)) (sRet (eC (.bl true))))) Kn) [s0, s1, s2, s3, some (treeD T), some (.int cs.length), s6, some (.tup (cs.map Ch.d)), some (.ref a), s9, some (.tup (cks.map chkD)), none, none, some (.ref M.length), none, some (.int v), some (.bl x)] M4 := by
        intro x M4 hx f4
        refine v8 hz (by omega) h q fun M5 f5 => ?_
        refine v2 (d := .bl (turnB (fun i => isNon (rd (trs T cs) cks i)) cs.length v)) (congrArg D.bl hx.symm) trivial ?_
        exact hK _ _ ⟨⟨_, _, rfl⟩, f4.tr f5⟩
      refine ⟨_, rfl, ?_⟩
      cases e1 : decide ((0 : Int) ≤ v) with
      | false =>
        conv => whnf
        rw [e1]
        exact fin false _ (by unfold turnB; rw [e1]; rfl) f3
      | true =>
        cases e2 : decide (v < (cs.length : Int)) with
        | false =>
          conv => whnf
          rw [e1]
          conv => whnf
          rw [e2]
          exact fin false _ (by unfold turnB; rw [e1, e2]; rfl) f3
        | true =>
          have d1 := of_decide_eq_true e1
          have d2 := of_decide_eq_true e2
          have h1 : v.toNat < (trs T cs).length := by omega
          have h2 : v.toNat + 1 < (trs T cs).length := by omega
          conv => whnf
          rw [e1]
          conv => whnf
          rw [e2]
          conv => whnf
          rw [lstAt_of m3]
          conv => whnf
          rw [rget v v.toNat h1 (by omega)]
          conv => whnf
          cases e3 : isNon (rd (trs T cs) cks v.toNat) with
          | false => exact fin false _ (by unfold turnB; rw [e1, e2]; simp only [e3]; rfl) f3
          | true =>
            conv => whnf
            rw [lstAt_of m3]
            conv => whnf
            rw [rget (v + 1) (v.toNat + 1) h2 (by omega)]
            exact fin _ _ (by unfold turnB; rw [e1, e2]; simp only [e3]; rfl) f3
    · rintro ρ M3 ⟨⟨x15, x16, rfl⟩, f3⟩
      refine ⟨sz rfl, sz rfl, sz rfl, sz rfl, sz rfl, ?_⟩
      have ml : mlst (M3 ++ [O.lst [.non, .bl true, .bl false, .str "", .str "0", .tup [], .tup [.int 0], .tup [.tup [.int 0], .str "a"]]]) M3.length = some [.non, .bl true, .bl false, .str "", .str "0", .tup [], .tup [.int 0], .tup [.tup [.int 0], .str "a"]] := mlst_new
      conv => whnf
      rw [lstAt_of ml]
      refine forL_l (fun r ρ M' => (∃ x15, ρ = [s0, s1, s2, s3, some (treeD T), some (.int cs.length), s6, some (.tup (cs.map Ch.d)), some (.ref a), s9, some (.tup (cks.map chkD)), none, none, some (.ref (M.length)), none, x15, x16]) ∧ M' = M3 ++ [O.lst [.non, .bl true, .bl false, .str "", .str "0", .tup [], .tup [.int 0], .tup [.tup [.int 0], .str "a"]]] ∧ ∀ w ∈ r, smB 5 w = true ∧ wholeD w = false) (fun _ _ M' h => by rw [h.2.1]; exact lstAt_of ml) ?_ ?_ _ _ _ ⟨⟨_, rfl⟩, rfl, fun w hw => ?_⟩
      · rintro w r ρ M4 Kn ⟨⟨x15, rfl⟩, e4, hw⟩ hK
        obtain ⟨w1, w2⟩ := hw w (by simp)
        refine ⟨_, rfl, ?_⟩
        refine v9 (sm_of w1) w2 ?_
        exact hK _ _ ⟨⟨_, rfl⟩, e4, fun y hy => hw y (by simp [hy])⟩
      · rintro ρ M4 ⟨⟨x15, rfl⟩, e4, _⟩
        exact k _
      · have : ([.non, .bl true, .bl false, .str "", .str "0", .tup [], .tup [.int 0], .tup [.tup [.int 0], .str "a"]] : List D).all (fun w => smB 5 w && !wholeD w) = true := by decide +kernel
        have := List.all_eq_true.mp this w hw
        simpa using this
theorem law_true : ∀ ns : List Int, ns.length ≤ 63 → F_law [.con (ns.map D.int)] [] (fun d _ => d = .bl true) fun _ _ => False := by
  intro ns hns
  have r3 := @w_law_3
  unfold F_law t_law r_law_4
  obtain ⟨RR, qR⟩ : ∃ RR, RR = r_law_3 F_law_bag F_law_take F_law_paths F_law_base F_law_names F_law_changes F_law_along F_law_spots F_law_check F_law_fails F_law_red F_law_same F_law_due_v13 F_law_told_v12 F_is_culprit := ⟨_, rfl⟩
  rw [← qR] at r3 ⊢
  clear qR
  have v1 := @w_law_bag; obtain ⟨Fv1, qv1⟩ := op F_law_bag; rw [← qv1] at v1 ⊢; clear qv1
  have v2 := @w_take; obtain ⟨Fv2, qv2⟩ := op F_law_take; rw [← qv2] at v2 ⊢; clear qv2
  have v3 := @w_law_pathsU; obtain ⟨Fv3, qv3⟩ := op F_law_paths; rw [← qv3] at v3 ⊢; clear qv3
  have v4 := @w_law_baseU; obtain ⟨Fv4, qv4⟩ := op F_law_base; rw [← qv4] at v4 ⊢; clear qv4
  have v5 := @w_law_names; obtain ⟨Fv5, qv5⟩ := op F_law_names; rw [← qv5] at v5 ⊢; clear qv5
  have v6 := @w_law_changes; obtain ⟨Fv6, qv6⟩ := op F_law_changes; rw [← qv6] at v6 ⊢; clear qv6
  have v7 := @w_law_along; obtain ⟨Fv7, qv7⟩ := op F_law_along; rw [← qv7] at v7 ⊢; clear qv7
  have v8 := @w_law_spots9; obtain ⟨Fv8, qv8⟩ := op F_law_spots; rw [← qv8] at v8 ⊢; clear qv8
  have v9 := @w_law_check9; obtain ⟨Fv9, qv9⟩ := op F_law_check; rw [← qv9] at v9 ⊢; clear qv9
  have v10 := @w_law_fails; obtain ⟨Fv10, qv10⟩ := op F_law_fails; rw [← qv10] at v10 ⊢; clear qv10
  refine v1 hns fun M0 n m _ _ p0 f0 => ?_
  refine v2 p0 (by decide) (by decide) fun wd M1 wd0 wd1 p1 f1 => ?_
  refine v2 p1 (by decide) (by decide) fun c M2 c0 c1 p2 f2 => ?_
  obtain ⟨c, rfl⟩ : ∃ w : Nat, c = w := ⟨c.toNat, by omega⟩
  conv => whnf
  rw [show (1 : Int) + (c : Int) = ((1 + c : Nat) : Int) by omega]
  refine v3 p2 (by omega) fun zs j M3 hj mj lj nj up p3 f3 => ?_
  have hjn : j ≠ n ∧ j ≠ m := p2.ne hj
  refine v4 p3 mj hjn (by omega) up fun T M4 hT p4 f4 => ?_
  have mj4 := f4.lst mj (by simp [hjn])
  refine v2 p4 (by decide) (by decide) fun mn M5 mn0 mn1 p5 f5 => ?_
  have mj5 := f5.lst mj4 (by simp [hjn])
  refine v2 p5 (by decide) (by decide) fun e8 M6 e80 e81 p6 f6 => ?_
  have mj6 := f6.lst mj5 (by simp [hjn])
  have rest : ∀ many : Nat, many ≤ 8 → sSeq (sAsg (eSl (eCall Fv5 (aCons (eVar 1) (aCons (eC (.int 8)) aNil))) oNo (oSome (eVar 5))) (.nm 6))
      (sSeq (sAsg (eCall Fv6 (aCons (eVar 1) (aCons (eVar 4) (aCons (eVar 3) (aCons (eVar 6) (aCons (eLst (aCons (eC (.str "ann")) aNil)) (aCons (eVar 2) aNil))))))) (.nm 7))
      (sSeq (sAsg (eCall Fv7 (aCons (eVar 4) (aCons (eVar 7) aNil))) (.nm 8))
      (sSeq (sAsg (eCall Fv8 (aCons (eVar 8) aNil)) (.nm 9))
      (sSeq (sAsg (eLc (iRange1 (aCons (eCall Fv2 (aCons (eVar 1) (aCons (eC (.int 7)) aNil))) aNil)) (.nm 11) cYes (eCall Fv9 (aCons (eVar 1) (aCons (eVar 3) (aCons (eVar 9) (aCons (eVar 2) aNil))))) [11]) (.nm 10))
      (sSeq (sIf (cB (eBin opGt (eCall Fv2 (aCons (eVar 1) (aCons (eC (.int 4)) aNil))) (eC (.int 0)))) (sAsg (eLc (iSeq (eVar 10)) (.nm 12) (cB (eBin opIs (eCall Fv10 (aCons (eVar 12) (aCons (eVar 4) aNil))) (eC .non))) (eVar 12) [12]) (.nm 10)) sNop)
      RR))))) (SD.top (fun d _ => d = .bl true) fun _ _ => False) [some (.con (ns.map D.int)), some (.ref n), some (.int wd), some (.ref j), some (treeD T), some (.int many), none, none, none, none, none, none, none, none, none, none, none] M6 := by
    intro many hm8
    refine v5 p6 fun ys q M7 hq mq lq p7 f7 => ?_
    have mj7 := f7.lst mj6 (by simp [hjn])
    conv => whnf
    rw [lstAt_of mq]
    conv => whnf
    have ecut : cutL (ys.map D.str) none (some (many : Int)) = (ys.take many).map D.str := by
      unfold cutL
      rw [HT.sIx_nat, show HT.sIx (ys.map D.str).length 0 none = 0 from rfl, List.drop_zero, Nat.sub_zero, List.length_map, lq, Nat.min_eq_left (by omega), List.map_take]
    rw [ecut]
    have l8 : (ys.take many).length = many := by rw [List.length_take]; omega
    have mq8 : mlst (M7 ++ [O.lst ((ys.take many).map D.str)]) M7.length = some ((ys.take many).map D.str) := mlst_new
    have p8 : Bg (M7 ++ [O.lst ((ys.take many).map D.str)]) n m := p7.app
    have hq8 := p7.ne (Nat.le_refl _)
    have mj8 : mlst (M7 ++ [O.lst ((ys.take many).map D.str)]) j = some (zs.map D.str) := Fr.app.lst (S := []) mj7
    revert mq8 p8 mj8
    generalize M7 ++ [O.lst ((ys.take many).map D.str)] = M8
    generalize M7.length = q8 at hq8
    generalize ys.take many = ns8 at l8
    intro mq8 p8 mj8
    refine ⟨sz rfl, ?_⟩
    refine v6 (B := 5) p8.app (Fr.app.lst (S := []) mj8) hjn (Fr.app.lst (S := []) mq8) hq8 mlst_new (p8.ne (Nat.le_refl _)) (by omega) (by omega) nj (by omega) hT fun cs M9 hcs lcs p9 f9 => ?_
    have mj9 := f9.lst (Fr.app.lst (S := []) mj8) (by simp [hjn])
    refine v7 (B := 5) (zs := zs) (by omega) (by omega) hT hcs fun a M10 ha f10 ma => ?_
    have p10 := p9.fr f10
    have mj10 := f10.lst mj9
    have lT := trs_len (cs := cs) (T := T)
    refine v8 ma (fun S hS => (trs_ok hT hcs S hS).ok (by omega) (by omega)) (by omega) fun sp s M11 hs ms hsp lsp f11 => ?_
    have p11 := p10.fr f11
    have mj11 := f11.lst mj10
    have ma11 := f11.lst ma
    have hsn : s ≠ n ∧ s ≠ m := p10.ne hs
    have han : a ≠ n ∧ a ≠ m := p9.ne ha
    refine v2 p11 (by decide) (by decide) fun x M12 x0 x1 p12 f12 => ?_
    have mj12 := f12.lst mj11 (by simp [hjn])
    have ma12 := f12.lst ma11 (by simp [han])
    have ms12 := f12.lst ms (by simp [hsn])
    refine ⟨by omega, by omega, ?_⟩
    have hne := p12.ne (Nat.le_refl _)
    refine lcL_inv (fun i M' => ∃ ck : List Chk, mlst M' M12.length = some (ck.map chkD) ∧ ck.length = i ∧ Bg M' n m ∧ Fr [n, m] M12 M') _ (fun _ _ _ => trivial) ?_ ?_ _ ⟨[], mlst_new, rfl, p12.app, Fr.app⟩
    · rintro i d M13 Kc hd ⟨ck, hck, lck, p13, f13⟩ hK
      obtain ⟨hi, rfl⟩ := rngD_get hd
      refine ⟨_, rfl, ?_⟩
      refine v9 p13 (f13.lst mj12 (by simp [hjn])) hjn (by omega) (f13.lst ms12 (by simp [hsn])) hsn hsp lsp fun c M14 p14 f14 => ?_
      have m14 := f14.lst hck (by simp [hne])
      conv => whnf
      rw [m14]
      refine ⟨Nat.lt_of_lt_of_le (show (ck.map chkD).length < 100 by rw [List.length_map]; omega) (by decide), hK _ ⟨ck ++ [c], ?_, by simp [lck], p14.set hne.1 hne.2, (f13.tr f14).set (.inr (Nat.le_refl _))⟩⟩
      rw [mlst_set (mlst_lt m14), List.map_append]
      rfl
    · rintro M13 ⟨ck, hck, lck, p13, f13⟩
      rw [rngD_len] at lck
      refine v2 p13 (by decide) (by decide) fun y M14 y0 y1 p14 f14 => ?_
      have m14 := f14.lst hck (by simp [hne])
      have ma14 := f14.lst (f13.lst ma12 (by simp [han])) (by simp [han])
      have hml := mlst_lt m14
      have hmal := mlst_lt ma14
      have hm : many = cs.length := by omega
      subst hm
      conv => whnf
      refine bm (fun e0 => ?_) (fun e0 => ?_)
      · conv => whnf
        rw [lstAt_of m14]
        conv => whnf
        refine lcL_pure chkD (fun c => isNon (failC T c)) chkD (by simp) ck (fun M' f => lstAt_of (f.lst (Fr.app (S := []).lst m14) (by simp; omega))) (fun c M15 Kt Kf hc f15 hT' hF => ?_) (acc := []) mlst_new (Nat.le_trans (show 0 + ck.length ≤ 100 by omega) (by decide)) fun M15 f15 m15 => ?_
        · refine ⟨_, rfl, ?_⟩
          refine v10 (hT.ok (by omega) (by omega)) fun M16 f16 => ?_
          conv => whnf
          cases e : isNon (failC T c) with
          | true => exact hT' e _ f16
          | false => exact hF e _ f16
        · rw [List.nil_append] at m15
          exact r3 (by omega) (by omega) hT hcs (by have := List.length_filter_le (fun c => isNon (failC T c)) ck; omega) (f15.lst (Fr.app.lst (S := []) ma14) (by simp; omega)) m15 fun _ => rfl
      · exact r3 (by omega) (by omega) hT hcs (by omega) ma14 m14 fun _ => rfl
  conv => whnf
  rw [eqI]
  refine bm (fun e3 => ?_) (fun e3 => ?_)
  · exact rest 8 (by omega)
  · obtain ⟨mn, rfl⟩ : ∃ w : Nat, mn = w := ⟨mn.toNat, by omega⟩
    exact rest mn (by omega)
end SG

set_option maxHeartbeats 0
namespace SG
open PySem PySem.Spec L2 DN
def topS (i : Nat) : Stmt := PySem.Challenge.pw_signoff_k54_culprit_by_halving.main.body.getD i (.Pass ⟨0, 0, 0, 0⟩)
theorem sc_law_bag : FnScope ["script", "seed", "cell", "cells"] ["script"] (defScope (topS 38)) := ⟨rfl, rfl, rfl, by decide +kernel, rfl, by decide +kernel, by decide +kernel⟩
theorem c_law_bag : cDef [("int", .blt), ("abs", .blt), ("len", .blt)] 0 ["script", "seed", "cell", "cells"] (topS 38) FL = some (t_law_bag) := by rfl
theorem ge_law_bag {G : GC} (hx : G.xn = none) (hxf : ∀ n C, G.cm n = some C → XfK G.K C FL) {f : Addr} {fd : FuncData} (F : Fun G.K "_law_bag" "_law_bag" (topS 38) f fd) (hm : G.mg "_law_bag" = some (.ref f)) (b_int : GEok G "int" .blt) (b_abs : GEok G "abs" .blt) (b_len : GEok G "len" .blt) : GEok G "_law_bag" (.fn 1 1 (bodyF 4 (t_law_bag))) :=
  ⟨f, fd, ["script"], rfl, hm, F.kp, cDef_ok hx hxf (gok_cons b_int (gok_cons b_abs (gok_cons b_len gok_nil))) F sc_law_bag c_law_bag, F.binds fun _ _ _ _ _ _ us hl => match us, hl with | [_], _ => rfl⟩
theorem sc_law_take : FnScope ["bag", "limit", "digit"] ["bag", "limit"] (defScope (topS 39)) := ⟨rfl, rfl, rfl, by decide +kernel, rfl, by decide +kernel, by decide +kernel⟩
theorem c_law_take : cDef [("len", .blt), ("int", .blt)] 0 ["bag", "limit", "digit"] (topS 39) FL = some (t_law_take) := by rfl
theorem ge_law_take {G : GC} (hx : G.xn = none) (hxf : ∀ n C, G.cm n = some C → XfK G.K C FL) {f : Addr} {fd : FuncData} (F : Fun G.K "_law_take" "_law_take" (topS 39) f fd) (hm : G.mg "_law_take" = some (.ref f)) (b_len : GEok G "len" .blt) (b_int : GEok G "int" .blt) : GEok G "_law_take" (.fn 1 2 (bodyF 3 (t_law_take))) :=
  ⟨f, fd, ["bag", "limit"], rfl, hm, F.kp, cDef_ok hx hxf (gok_cons b_len (gok_cons b_int gok_nil)) F sc_law_take c_law_take, F.binds fun _ _ _ _ _ _ us hl => match us, hl with | [_, _], _ => rfl⟩
theorem sc_law_paths : FnScope ["bag", "many", "heads", "k"] ["bag", "many"] (defScope (topS 42)) := ⟨rfl, rfl, rfl, by decide +kernel, rfl, by decide +kernel, by decide +kernel⟩
theorem c_law_paths {F_law_take : Fn} : cDef [("_law_take", .fn 1 2 F_law_take), ("sorted", .blt), ("range", .blt)] 1 ["bag", "many", "heads", "k"] (topS 42) FL = some (t_law_paths F_law_take) := by rfl
theorem ge_law_paths {G : GC} (hx : G.xn = none) (hxf : ∀ n C, G.cm n = some C → XfK G.K C FL) {f : Addr} {fd : FuncData} (F : Fun G.K "_law_paths" "_law_paths" (topS 42) f fd) (hm : G.mg "_law_paths" = some (.ref f)) {F_law_take : Fn} (g_law_take : GEok G "_law_take" (.fn 1 2 F_law_take)) (b_sorted : GEok G "sorted" .blt) (b_range : GEok G "range" .blt) : GEok G "_law_paths" (.fn 2 2 (bodyF 4 (t_law_paths F_law_take))) :=
  ⟨f, fd, ["bag", "many"], rfl, hm, F.kp, cDef_ok hx hxf (gok_cons g_law_take (gok_cons b_sorted (gok_cons b_range gok_nil))) F sc_law_paths c_law_paths, F.binds fun _ _ _ _ _ _ us hl => match us, hl with | [_, _], _ => rfl⟩
theorem sc_law_line : FnScope ["bag", "wide", "signs", "size", "k"] ["bag", "wide"] (defScope (topS 40)) := ⟨rfl, rfl, rfl, by decide +kernel, rfl, by decide +kernel, by decide +kernel⟩
theorem c_law_line {F_law_take : Fn} : cDef [("_law_take", .fn 1 2 F_law_take), ("range", .blt)] 1 ["bag", "wide", "signs", "size", "k"] (topS 40) FL = some (t_law_line F_law_take) := by rfl
theorem ge_law_line {G : GC} (hx : G.xn = none) (hxf : ∀ n C, G.cm n = some C → XfK G.K C FL) {f : Addr} {fd : FuncData} (F : Fun G.K "_law_line" "_law_line" (topS 40) f fd) (hm : G.mg "_law_line" = some (.ref f)) {F_law_take : Fn} (g_law_take : GEok G "_law_take" (.fn 1 2 F_law_take)) (b_range : GEok G "range" .blt) : GEok G "_law_line" (.fn 2 2 (bodyF 5 (t_law_line F_law_take))) :=
  ⟨f, fd, ["bag", "wide"], rfl, hm, F.kp, cDef_ok hx hxf (gok_cons g_law_take (gok_cons b_range gok_nil)) F sc_law_line c_law_line, F.binds fun _ _ _ _ _ _ us hl => match us, hl with | [_, _], _ => rfl⟩
theorem sc_law_base : FnScope ["bag", "paths", "wide", "rows", "path", "text", "k"] ["bag", "paths", "wide"] (defScope (topS 45)) := ⟨rfl, rfl, rfl, by decide +kernel, rfl, by decide +kernel, by decide +kernel⟩
theorem c_law_base {F_law_take F_law_line : Fn} : cDef [("_law_take", .fn 1 2 F_law_take), ("_law_line", .fn 2 2 F_law_line), ("tuple", .blt), ("range", .blt)] 2 ["bag", "paths", "wide", "rows", "path", "text", "k"] (topS 45) FL = some (t_law_base F_law_take F_law_line) := by rfl
theorem ge_law_base {G : GC} (hx : G.xn = none) (hxf : ∀ n C, G.cm n = some C → XfK G.K C FL) {f : Addr} {fd : FuncData} (F : Fun G.K "_law_base" "_law_base" (topS 45) f fd) (hm : G.mg "_law_base" = some (.ref f)) {F_law_take F_law_line : Fn} (g_law_take : GEok G "_law_take" (.fn 1 2 F_law_take)) (g_law_line : GEok G "_law_line" (.fn 2 2 F_law_line)) (b_tuple : GEok G "tuple" .blt) (b_range : GEok G "range" .blt) : GEok G "_law_base" (.fn 3 3 (bodyF 7 (t_law_base F_law_take F_law_line))) :=
  ⟨f, fd, ["bag", "paths", "wide"], rfl, hm, F.kp, cDef_ok hx hxf (gok_cons g_law_take (gok_cons g_law_line (gok_cons b_tuple (gok_cons b_range gok_nil)))) F sc_law_base c_law_base, F.binds fun _ _ _ _ _ _ us hl => match us, hl with | [_, _, _], _ => rfl⟩
theorem sc_law_names : FnScope ["bag", "many", "signs", "head", "k", "tail", "first"] ["bag", "many"] (defScope (topS 41)) := ⟨rfl, rfl, rfl, by decide +kernel, rfl, by decide +kernel, by decide +kernel⟩
theorem c_law_names {F_law_take : Fn} : cDef [("_law_take", .fn 1 2 F_law_take), ("range", .blt), ("int", .blt)] 1 ["bag", "many", "signs", "head", "k", "tail", "first"] (topS 41) FL = some (t_law_names F_law_take) := by rfl
theorem ge_law_names {G : GC} (hx : G.xn = none) (hxf : ∀ n C, G.cm n = some C → XfK G.K C FL) {f : Addr} {fd : FuncData} (F : Fun G.K "_law_names" "_law_names" (topS 41) f fd) (hm : G.mg "_law_names" = some (.ref f)) {F_law_take : Fn} (g_law_take : GEok G "_law_take" (.fn 1 2 F_law_take)) (b_range : GEok G "range" .blt) (b_int : GEok G "int" .blt) : GEok G "_law_names" (.fn 2 2 (bodyF 7 (t_law_names F_law_take))) :=
  ⟨f, fd, ["bag", "many"], rfl, hm, F.kp, cDef_ok hx hxf (gok_cons g_law_take (gok_cons b_range (gok_cons b_int gok_nil))) F sc_law_names c_law_names, F.binds fun _ _ _ _ _ _ us hl => match us, hl with | [_, _], _ => rfl⟩
theorem sc_law_edit : FnScope ["bag", "text", "wide", "most", "hunks", "start", "k", "at", "size", "lines", "j"] ["bag", "text", "wide", "most"] (defScope (topS 46)) := ⟨rfl, rfl, rfl, by decide +kernel, rfl, by decide +kernel, by decide +kernel⟩
theorem c_law_edit {F_law_take F_law_line : Fn} : cDef [("_law_take", .fn 1 2 F_law_take), ("_law_line", .fn 2 2 F_law_line), ("range", .blt), ("min", .blt), ("len", .blt), ("tuple", .blt)] 2 ["bag", "text", "wide", "most", "hunks", "start", "k", "at", "size", "lines", "j"] (topS 46) FL = some (t_law_edit F_law_take F_law_line) := by rfl
theorem ge_law_edit {G : GC} (hx : G.xn = none) (hxf : ∀ n C, G.cm n = some C → XfK G.K C FL) {f : Addr} {fd : FuncData} (F : Fun G.K "_law_edit" "_law_edit" (topS 46) f fd) (hm : G.mg "_law_edit" = some (.ref f)) {F_law_take F_law_line : Fn} (g_law_take : GEok G "_law_take" (.fn 1 2 F_law_take)) (g_law_line : GEok G "_law_line" (.fn 2 2 F_law_line)) (b_range : GEok G "range" .blt) (b_min : GEok G "min" .blt) (b_len : GEok G "len" .blt) (b_tuple : GEok G "tuple" .blt) : GEok G "_law_edit" (.fn 3 4 (bodyF 11 (t_law_edit F_law_take F_law_line))) :=
  ⟨f, fd, ["bag", "text", "wide", "most"], rfl, hm, F.kp, cDef_ok hx hxf (gok_cons g_law_take (gok_cons g_law_line (gok_cons b_range (gok_cons b_min (gok_cons b_len (gok_cons b_tuple gok_nil)))))) F sc_law_edit c_law_edit, F.binds fun _ _ _ _ _ _ us hl => match us, hl with | [_, _, _, _], _ => rfl⟩
theorem sc_law_text : FnScope ["tree", "path", "entry"] ["tree", "path"] (defScope (topS 43)) := ⟨rfl, rfl, rfl, by decide +kernel, rfl, by decide +kernel, by decide +kernel⟩
theorem c_law_text : cDef [] 0 ["tree", "path", "entry"] (topS 43) FL = some (t_law_text) := by rfl
theorem ge_law_text {G : GC} (hx : G.xn = none) (hxf : ∀ n C, G.cm n = some C → XfK G.K C FL) {f : Addr} {fd : FuncData} (F : Fun G.K "_law_text" "_law_text" (topS 43) f fd) (hm : G.mg "_law_text" = some (.ref f)) : GEok G "_law_text" (.fn 1 2 (bodyF 3 (t_law_text))) :=
  ⟨f, fd, ["tree", "path"], rfl, hm, F.kp, cDef_ok hx hxf gok_nil F sc_law_text c_law_text, F.binds fun _ _ _ _ _ _ us hl => match us, hl with | [_, _], _ => rfl⟩
theorem sc_law_patch : FnScope ["bag", "tree", "paths", "wide", "parts", "path"] ["bag", "tree", "paths", "wide"] (defScope (topS 47)) := ⟨rfl, rfl, rfl, by decide +kernel, rfl, by decide +kernel, by decide +kernel⟩
theorem c_law_patch {F_law_take F_law_edit F_law_text : Fn} : cDef [("_law_take", .fn 1 2 F_law_take), ("_law_edit", .fn 3 4 F_law_edit), ("_law_text", .fn 1 2 F_law_text), ("len", .blt), ("tuple", .blt)] 3 ["bag", "tree", "paths", "wide", "parts", "path"] (topS 47) FL = some (t_law_patch F_law_take F_law_edit F_law_text) := by rfl
theorem ge_law_patch {G : GC} (hx : G.xn = none) (hxf : ∀ n C, G.cm n = some C → XfK G.K C FL) {f : Addr} {fd : FuncData} (F : Fun G.K "_law_patch" "_law_patch" (topS 47) f fd) (hm : G.mg "_law_patch" = some (.ref f)) {F_law_take F_law_edit F_law_text : Fn} (g_law_take : GEok G "_law_take" (.fn 1 2 F_law_take)) (g_law_edit : GEok G "_law_edit" (.fn 3 4 F_law_edit)) (g_law_text : GEok G "_law_text" (.fn 1 2 F_law_text)) (b_len : GEok G "len" .blt) (b_tuple : GEok G "tuple" .blt) : GEok G "_law_patch" (.fn 4 4 (bodyF 6 (t_law_patch F_law_take F_law_edit F_law_text))) :=
  ⟨f, fd, ["bag", "tree", "paths", "wide"], rfl, hm, F.kp, cDef_ok hx hxf (gok_cons g_law_take (gok_cons g_law_edit (gok_cons g_law_text (gok_cons b_len (gok_cons b_tuple gok_nil))))) F sc_law_patch c_law_patch, F.binds fun _ _ _ _ _ _ us hl => match us, hl with | [_, _, _, _], _ => rfl⟩
theorem sc_law_put : FnScope ["tree", "path", "text", "rows", "entry"] ["tree", "path", "text"] (defScope (topS 44)) := ⟨rfl, rfl, rfl, by decide +kernel, rfl, by decide +kernel, by decide +kernel⟩
theorem c_law_put : cDef [("tuple", .blt), ("sorted", .blt)] 0 ["tree", "path", "text", "rows", "entry"] (topS 44) FL = some (t_law_put) := by rfl
theorem ge_law_put {G : GC} (hx : G.xn = none) (hxf : ∀ n C, G.cm n = some C → XfK G.K C FL) {f : Addr} {fd : FuncData} (F : Fun G.K "_law_put" "_law_put" (topS 44) f fd) (hm : G.mg "_law_put" = some (.ref f)) (b_tuple : GEok G "tuple" .blt) (b_sorted : GEok G "sorted" .blt) : GEok G "_law_put" (.fn 1 3 (bodyF 5 (t_law_put))) :=
  ⟨f, fd, ["tree", "path", "text"], rfl, hm, F.kp, cDef_ok hx hxf (gok_cons b_tuple (gok_cons b_sorted gok_nil)) F sc_law_put c_law_put, F.binds fun _ _ _ _ _ _ us hl => match us, hl with | [_, _, _], _ => rfl⟩
theorem sc_law_apply : FnScope ["patch", "tree", "part", "text", "hunk"] ["patch", "tree"] (defScope (topS 48)) := ⟨rfl, rfl, rfl, by decide +kernel, rfl, by decide +kernel, by decide +kernel⟩
theorem c_law_apply {F_law_text F_law_put : Fn} : cDef [("_law_text", .fn 1 2 F_law_text), ("_law_put", .fn 1 3 F_law_put), ("len", .blt)] 1 ["patch", "tree", "part", "text", "hunk"] (topS 48) FL = some (t_law_apply F_law_text F_law_put) := by rfl
theorem ge_law_apply {G : GC} (hx : G.xn = none) (hxf : ∀ n C, G.cm n = some C → XfK G.K C FL) {f : Addr} {fd : FuncData} (F : Fun G.K "_law_apply" "_law_apply" (topS 48) f fd) (hm : G.mg "_law_apply" = some (.ref f)) {F_law_text F_law_put : Fn} (g_law_text : GEok G "_law_text" (.fn 1 2 F_law_text)) (g_law_put : GEok G "_law_put" (.fn 1 3 F_law_put)) (b_len : GEok G "len" .blt) : GEok G "_law_apply" (.fn 2 2 (bodyF 5 (t_law_apply F_law_text F_law_put))) :=
  ⟨f, fd, ["patch", "tree"], rfl, hm, F.kp, cDef_ok hx hxf (gok_cons g_law_text (gok_cons g_law_put (gok_cons b_len gok_nil))) F sc_law_apply c_law_apply, F.binds fun _ _ _ _ _ _ us hl => match us, hl with | [_, _], _ => rfl⟩
theorem sc_law_changes : FnScope ["bag", "tree", "paths", "names", "people", "wide", "changes", "name", "patch"] ["bag", "tree", "paths", "names", "people", "wide"] (defScope (topS 49)) := ⟨rfl, rfl, rfl, by decide +kernel, rfl, by decide +kernel, by decide +kernel⟩
theorem c_law_changes {F_law_patch F_law_apply F_law_take : Fn} : cDef [("_law_patch", .fn 4 4 F_law_patch), ("_law_apply", .fn 2 2 F_law_apply), ("_law_take", .fn 1 2 F_law_take), ("len", .blt), ("tuple", .blt)] 4 ["bag", "tree", "paths", "names", "people", "wide", "changes", "name", "patch"] (topS 49) FL = some (t_law_changes F_law_patch F_law_apply F_law_take) := by rfl
theorem ge_law_changes {G : GC} (hx : G.xn = none) (hxf : ∀ n C, G.cm n = some C → XfK G.K C FL) {f : Addr} {fd : FuncData} (F : Fun G.K "_law_changes" "_law_changes" (topS 49) f fd) (hm : G.mg "_law_changes" = some (.ref f)) {F_law_patch F_law_apply F_law_take : Fn} (g_law_patch : GEok G "_law_patch" (.fn 4 4 F_law_patch)) (g_law_apply : GEok G "_law_apply" (.fn 2 2 F_law_apply)) (g_law_take : GEok G "_law_take" (.fn 1 2 F_law_take)) (b_len : GEok G "len" .blt) (b_tuple : GEok G "tuple" .blt) : GEok G "_law_changes" (.fn 5 6 (bodyF 9 (t_law_changes F_law_patch F_law_apply F_law_take))) :=
  ⟨f, fd, ["bag", "tree", "paths", "names", "people", "wide"], rfl, hm, F.kp, cDef_ok hx hxf (gok_cons g_law_patch (gok_cons g_law_apply (gok_cons g_law_take (gok_cons b_len (gok_cons b_tuple gok_nil))))) F sc_law_changes c_law_changes, F.binds fun _ _ _ _ _ _ us hl => match us, hl with | [_, _, _, _, _, _], _ => rfl⟩
theorem sc_law_along : FnScope ["tree", "changes", "trees", "change"] ["tree", "changes"] (defScope (topS 50)) := ⟨rfl, rfl, rfl, by decide +kernel, rfl, by decide +kernel, by decide +kernel⟩
theorem c_law_along {F_law_apply : Fn} : cDef [("_law_apply", .fn 2 2 F_law_apply)] 2 ["tree", "changes", "trees", "change"] (topS 50) FL = some (t_law_along F_law_apply) := by rfl
theorem ge_law_along {G : GC} (hx : G.xn = none) (hxf : ∀ n C, G.cm n = some C → XfK G.K C FL) {f : Addr} {fd : FuncData} (F : Fun G.K "_law_along" "_law_along" (topS 50) f fd) (hm : G.mg "_law_along" = some (.ref f)) {F_law_apply : Fn} (g_law_apply : GEok G "_law_apply" (.fn 2 2 F_law_apply)) : GEok G "_law_along" (.fn 3 2 (bodyF 4 (t_law_along F_law_apply))) :=
  ⟨f, fd, ["tree", "changes"], rfl, hm, F.kp, cDef_ok hx hxf (gok_cons g_law_apply gok_nil) F sc_law_along c_law_along, F.binds fun _ _ _ _ _ _ us hl => match us, hl with | [_, _], _ => rfl⟩
theorem sc_law_spots : FnScope ["trees", "out", "tree", "entry", "line"] ["trees"] (defScope (topS 54)) := ⟨rfl, rfl, rfl, by decide +kernel, rfl, by decide +kernel, by decide +kernel⟩
theorem c_law_spots : cDef [] 0 ["trees", "out", "tree", "entry", "line"] (topS 54) FL = some (t_law_spots) := by rfl
theorem ge_law_spots {G : GC} (hx : G.xn = none) (hxf : ∀ n C, G.cm n = some C → XfK G.K C FL) {f : Addr} {fd : FuncData} (F : Fun G.K "_law_spots" "_law_spots" (topS 54) f fd) (hm : G.mg "_law_spots" = some (.ref f)) : GEok G "_law_spots" (.fn 1 1 (bodyF 5 (t_law_spots))) :=
  ⟨f, fd, ["trees"], rfl, hm, F.kp, cDef_ok hx hxf gok_nil F sc_law_spots c_law_spots, F.binds fun _ _ _ _ _ _ us hl => match us, hl with | [_], _ => rfl⟩
theorem sc_law_check : FnScope ["bag", "paths", "spots", "wide", "one", "other", "kind", "word"] ["bag", "paths", "spots", "wide"] (defScope (topS 53)) := ⟨rfl, rfl, rfl, by decide +kernel, rfl, by decide +kernel, by decide +kernel⟩
theorem c_law_check {F_law_line F_law_take : Fn} : cDef [("_law_line", .fn 2 2 F_law_line), ("_law_take", .fn 1 2 F_law_take), ("len", .blt)] 2 ["bag", "paths", "spots", "wide", "one", "other", "kind", "word"] (topS 53) FL = some (t_law_check F_law_line F_law_take) := by rfl
theorem ge_law_check {G : GC} (hx : G.xn = none) (hxf : ∀ n C, G.cm n = some C → XfK G.K C FL) {f : Addr} {fd : FuncData} (F : Fun G.K "_law_check" "_law_check" (topS 53) f fd) (hm : G.mg "_law_check" = some (.ref f)) {F_law_line F_law_take : Fn} (g_law_line : GEok G "_law_line" (.fn 2 2 F_law_line)) (g_law_take : GEok G "_law_take" (.fn 1 2 F_law_take)) (b_len : GEok G "len" .blt) : GEok G "_law_check" (.fn 3 4 (bodyF 8 (t_law_check F_law_line F_law_take))) :=
  ⟨f, fd, ["bag", "paths", "spots", "wide"], rfl, hm, F.kp, cDef_ok hx hxf (gok_cons g_law_line (gok_cons g_law_take (gok_cons b_len gok_nil))) F sc_law_check c_law_check, F.binds fun _ _ _ _ _ _ us hl => match us, hl with | [_, _, _, _], _ => rfl⟩
theorem sc_law_fails : FnScope ["check", "tree", "rows", "entry", "k", "lines", "row", "here", "bad"] ["check", "tree"] (defScope (topS 51)) := ⟨rfl, rfl, rfl, by decide +kernel, rfl, by decide +kernel, by decide +kernel⟩
theorem c_law_fails : cDef [("range", .blt), ("len", .blt), ("int", .blt)] 0 ["check", "tree", "rows", "entry", "k", "lines", "row", "here", "bad"] (topS 51) FL = some (t_law_fails) := by rfl
theorem ge_law_fails {G : GC} (hx : G.xn = none) (hxf : ∀ n C, G.cm n = some C → XfK G.K C FL) {f : Addr} {fd : FuncData} (F : Fun G.K "_law_fails" "_law_fails" (topS 51) f fd) (hm : G.mg "_law_fails" = some (.ref f)) (b_range : GEok G "range" .blt) (b_len : GEok G "len" .blt) (b_int : GEok G "int" .blt) : GEok G "_law_fails" (.fn 1 2 (bodyF 9 (t_law_fails))) :=
  ⟨f, fd, ["check", "tree"], rfl, hm, F.kp, cDef_ok hx hxf (gok_cons b_range (gok_cons b_len (gok_cons b_int gok_nil))) F sc_law_fails c_law_fails, F.binds fun _ _ _ _ _ _ us hl => match us, hl with | [_, _], _ => rfl⟩
theorem sc_law_red : FnScope ["checks", "tree", "k", "spot"] ["checks", "tree"] (defScope (topS 52)) := ⟨rfl, rfl, rfl, by decide +kernel, rfl, by decide +kernel, by decide +kernel⟩
theorem c_law_red {F_law_fails : Fn} : cDef [("_law_fails", .fn 1 2 F_law_fails), ("range", .blt), ("len", .blt)] 1 ["checks", "tree", "k", "spot"] (topS 52) FL = some (t_law_red F_law_fails) := by rfl
theorem ge_law_red {G : GC} (hx : G.xn = none) (hxf : ∀ n C, G.cm n = some C → XfK G.K C FL) {f : Addr} {fd : FuncData} (F : Fun G.K "_law_red" "_law_red" (topS 52) f fd) (hm : G.mg "_law_red" = some (.ref f)) {F_law_fails : Fn} (g_law_fails : GEok G "_law_fails" (.fn 1 2 F_law_fails)) (b_range : GEok G "range" .blt) (b_len : GEok G "len" .blt) : GEok G "_law_red" (.fn 2 2 (bodyF 4 (t_law_red F_law_fails))) :=
  ⟨f, fd, ["checks", "tree"], rfl, hm, F.kp, cDef_ok hx hxf (gok_cons g_law_fails (gok_cons b_range (gok_cons b_len gok_nil))) F sc_law_red c_law_red, F.binds fun _ _ _ _ _ _ us hl => match us, hl with | [_, _], _ => rfl⟩
theorem sc_law_same : FnScope ["actual", "due", "k"] ["actual", "due"] (defScope (topS 55)) := ⟨rfl, rfl, rfl, by decide +kernel, rfl, by decide +kernel, by decide +kernel⟩
theorem ge_law_same_0 {G : GC} {f : Addr} {fd : FuncData} (F : Fun G.K "_law_same" "_law_same" (topS 55) f fd) (hm : G.mg "_law_same" = some (.ref f)) : GEok G "_law_same" (.fn 0 2 (R_law_same 0)) :=
  ⟨f, fd, ["actual", "due"], rfl, hm, F.kp, fn_bot, F.binds fun _ _ _ _ _ _ us hl => match us, hl with | [_, _], _ => rfl⟩
theorem c_law_same_0 {F_law_same : Fn} : cDef [("_law_same", .fn 0 2 F_law_same), ("isinstance", .blt), ("tuple", .blt), ("len", .blt), ("range", .blt), ("bool", .blt), ("int", .blt), ("str", .blt)] 0 ["actual", "due", "k"] (topS 55) FL = some (t_law_same F_law_same) := by rfl
theorem ge_law_same_1 {G : GC} (hx : G.xn = none) (hxf : ∀ n C, G.cm n = some C → XfK G.K C FL) {f : Addr} {fd : FuncData} (F : Fun G.K "_law_same" "_law_same" (topS 55) f fd) (hm : G.mg "_law_same" = some (.ref f)) (b_isinstance : GEok G "isinstance" .blt) (b_tuple : GEok G "tuple" .blt) (b_len : GEok G "len" .blt) (b_range : GEok G "range" .blt) (b_bool : GEok G "bool" .blt) (b_int : GEok G "int" .blt) (b_str : GEok G "str" .blt) : GEok G "_law_same" (.fn 1 2 (R_law_same 1)) :=
  ⟨f, fd, ["actual", "due"], rfl, hm, F.kp, cDef_ok hx hxf (gok_cons (ge_law_same_0 F hm) (gok_cons b_isinstance (gok_cons b_tuple (gok_cons b_len (gok_cons b_range (gok_cons b_bool (gok_cons b_int (gok_cons b_str gok_nil)))))))) F sc_law_same c_law_same_0, F.binds fun _ _ _ _ _ _ us hl => match us, hl with | [_, _], _ => rfl⟩
theorem c_law_same_1 {F_law_same : Fn} : cDef [("_law_same", .fn 1 2 F_law_same), ("isinstance", .blt), ("tuple", .blt), ("len", .blt), ("range", .blt), ("bool", .blt), ("int", .blt), ("str", .blt)] 1 ["actual", "due", "k"] (topS 55) FL = some (t_law_same F_law_same) := by rfl
theorem ge_law_same_2 {G : GC} (hx : G.xn = none) (hxf : ∀ n C, G.cm n = some C → XfK G.K C FL) {f : Addr} {fd : FuncData} (F : Fun G.K "_law_same" "_law_same" (topS 55) f fd) (hm : G.mg "_law_same" = some (.ref f)) (b_isinstance : GEok G "isinstance" .blt) (b_tuple : GEok G "tuple" .blt) (b_len : GEok G "len" .blt) (b_range : GEok G "range" .blt) (b_bool : GEok G "bool" .blt) (b_int : GEok G "int" .blt) (b_str : GEok G "str" .blt) : GEok G "_law_same" (.fn 2 2 (R_law_same 2)) :=
  ⟨f, fd, ["actual", "due"], rfl, hm, F.kp, cDef_ok hx hxf (gok_cons (ge_law_same_1 hx hxf F hm b_isinstance b_tuple b_len b_range b_bool b_int b_str) (gok_cons b_isinstance (gok_cons b_tuple (gok_cons b_len (gok_cons b_range (gok_cons b_bool (gok_cons b_int (gok_cons b_str gok_nil)))))))) F sc_law_same c_law_same_1, F.binds fun _ _ _ _ _ _ us hl => match us, hl with | [_, _], _ => rfl⟩
theorem c_law_same_2 {F_law_same : Fn} : cDef [("_law_same", .fn 2 2 F_law_same), ("isinstance", .blt), ("tuple", .blt), ("len", .blt), ("range", .blt), ("bool", .blt), ("int", .blt), ("str", .blt)] 2 ["actual", "due", "k"] (topS 55) FL = some (t_law_same F_law_same) := by rfl
theorem ge_law_same_3 {G : GC} (hx : G.xn = none) (hxf : ∀ n C, G.cm n = some C → XfK G.K C FL) {f : Addr} {fd : FuncData} (F : Fun G.K "_law_same" "_law_same" (topS 55) f fd) (hm : G.mg "_law_same" = some (.ref f)) (b_isinstance : GEok G "isinstance" .blt) (b_tuple : GEok G "tuple" .blt) (b_len : GEok G "len" .blt) (b_range : GEok G "range" .blt) (b_bool : GEok G "bool" .blt) (b_int : GEok G "int" .blt) (b_str : GEok G "str" .blt) : GEok G "_law_same" (.fn 3 2 (R_law_same 3)) :=
  ⟨f, fd, ["actual", "due"], rfl, hm, F.kp, cDef_ok hx hxf (gok_cons (ge_law_same_2 hx hxf F hm b_isinstance b_tuple b_len b_range b_bool b_int b_str) (gok_cons b_isinstance (gok_cons b_tuple (gok_cons b_len (gok_cons b_range (gok_cons b_bool (gok_cons b_int (gok_cons b_str gok_nil)))))))) F sc_law_same c_law_same_2, F.binds fun _ _ _ _ _ _ us hl => match us, hl with | [_, _], _ => rfl⟩
theorem c_law_same_3 {F_law_same : Fn} : cDef [("_law_same", .fn 3 2 F_law_same), ("isinstance", .blt), ("tuple", .blt), ("len", .blt), ("range", .blt), ("bool", .blt), ("int", .blt), ("str", .blt)] 3 ["actual", "due", "k"] (topS 55) FL = some (t_law_same F_law_same) := by rfl
theorem ge_law_same_4 {G : GC} (hx : G.xn = none) (hxf : ∀ n C, G.cm n = some C → XfK G.K C FL) {f : Addr} {fd : FuncData} (F : Fun G.K "_law_same" "_law_same" (topS 55) f fd) (hm : G.mg "_law_same" = some (.ref f)) (b_isinstance : GEok G "isinstance" .blt) (b_tuple : GEok G "tuple" .blt) (b_len : GEok G "len" .blt) (b_range : GEok G "range" .blt) (b_bool : GEok G "bool" .blt) (b_int : GEok G "int" .blt) (b_str : GEok G "str" .blt) : GEok G "_law_same" (.fn 4 2 (R_law_same 4)) :=
  ⟨f, fd, ["actual", "due"], rfl, hm, F.kp, cDef_ok hx hxf (gok_cons (ge_law_same_3 hx hxf F hm b_isinstance b_tuple b_len b_range b_bool b_int b_str) (gok_cons b_isinstance (gok_cons b_tuple (gok_cons b_len (gok_cons b_range (gok_cons b_bool (gok_cons b_int (gok_cons b_str gok_nil)))))))) F sc_law_same c_law_same_3, F.binds fun _ _ _ _ _ _ us hl => match us, hl with | [_, _], _ => rfl⟩
theorem c_law_same_4 {F_law_same : Fn} : cDef [("_law_same", .fn 4 2 F_law_same), ("isinstance", .blt), ("tuple", .blt), ("len", .blt), ("range", .blt), ("bool", .blt), ("int", .blt), ("str", .blt)] 4 ["actual", "due", "k"] (topS 55) FL = some (t_law_same F_law_same) := by rfl
theorem ge_law_same_5 {G : GC} (hx : G.xn = none) (hxf : ∀ n C, G.cm n = some C → XfK G.K C FL) {f : Addr} {fd : FuncData} (F : Fun G.K "_law_same" "_law_same" (topS 55) f fd) (hm : G.mg "_law_same" = some (.ref f)) (b_isinstance : GEok G "isinstance" .blt) (b_tuple : GEok G "tuple" .blt) (b_len : GEok G "len" .blt) (b_range : GEok G "range" .blt) (b_bool : GEok G "bool" .blt) (b_int : GEok G "int" .blt) (b_str : GEok G "str" .blt) : GEok G "_law_same" (.fn 5 2 (R_law_same 5)) :=
  ⟨f, fd, ["actual", "due"], rfl, hm, F.kp, cDef_ok hx hxf (gok_cons (ge_law_same_4 hx hxf F hm b_isinstance b_tuple b_len b_range b_bool b_int b_str) (gok_cons b_isinstance (gok_cons b_tuple (gok_cons b_len (gok_cons b_range (gok_cons b_bool (gok_cons b_int (gok_cons b_str gok_nil)))))))) F sc_law_same c_law_same_4, F.binds fun _ _ _ _ _ _ us hl => match us, hl with | [_, _], _ => rfl⟩
theorem c_law_same_5 {F_law_same : Fn} : cDef [("_law_same", .fn 5 2 F_law_same), ("isinstance", .blt), ("tuple", .blt), ("len", .blt), ("range", .blt), ("bool", .blt), ("int", .blt), ("str", .blt)] 5 ["actual", "due", "k"] (topS 55) FL = some (t_law_same F_law_same) := by rfl
theorem ge_law_same_6 {G : GC} (hx : G.xn = none) (hxf : ∀ n C, G.cm n = some C → XfK G.K C FL) {f : Addr} {fd : FuncData} (F : Fun G.K "_law_same" "_law_same" (topS 55) f fd) (hm : G.mg "_law_same" = some (.ref f)) (b_isinstance : GEok G "isinstance" .blt) (b_tuple : GEok G "tuple" .blt) (b_len : GEok G "len" .blt) (b_range : GEok G "range" .blt) (b_bool : GEok G "bool" .blt) (b_int : GEok G "int" .blt) (b_str : GEok G "str" .blt) : GEok G "_law_same" (.fn 6 2 (R_law_same 6)) :=
  ⟨f, fd, ["actual", "due"], rfl, hm, F.kp, cDef_ok hx hxf (gok_cons (ge_law_same_5 hx hxf F hm b_isinstance b_tuple b_len b_range b_bool b_int b_str) (gok_cons b_isinstance (gok_cons b_tuple (gok_cons b_len (gok_cons b_range (gok_cons b_bool (gok_cons b_int (gok_cons b_str gok_nil)))))))) F sc_law_same c_law_same_5, F.binds fun _ _ _ _ _ _ us hl => match us, hl with | [_, _], _ => rfl⟩
theorem sc_law_due_v13 : FnScope ["reds", "low", "high", "looks", "k", "middle"] ["reds"] (defScope (topS 57)) := ⟨rfl, rfl, rfl, by decide +kernel, rfl, by decide +kernel, by decide +kernel⟩
theorem c_law_due_v13 : cDef [("len", .blt), ("range", .blt)] 0 ["reds", "low", "high", "looks", "k", "middle"] (topS 57) FL = some (t_law_due_v13) := by rfl
theorem ge_law_due_v13 {G : GC} (hx : G.xn = none) (hxf : ∀ n C, G.cm n = some C → XfK G.K C FL) {f : Addr} {fd : FuncData} (F : Fun G.K "_law_due" "_law_due" (topS 57) f fd) (hm : G.mg "_law_due" = some (.ref f)) (b_len : GEok G "len" .blt) (b_range : GEok G "range" .blt) : GEok G "_law_due" (.fn 1 1 (bodyF 6 (t_law_due_v13))) :=
  ⟨f, fd, ["reds"], rfl, hm, F.kp, cDef_ok hx hxf (gok_cons b_len (gok_cons b_range gok_nil)) F sc_law_due_v13 c_law_due_v13, F.binds fun _ _ _ _ _ _ us hl => match us, hl with | [_], _ => rfl⟩
theorem sc_hunk_end : FnScope ["hunk"] ["hunk"] (defScope (topS 25)) := ⟨rfl, rfl, rfl, by decide +kernel, rfl, by decide +kernel, by decide +kernel⟩
theorem c_hunk_end : cDef [("len", .blt)] 0 ["hunk"] (topS 25) FL = some (t_hunk_end) := by rfl
theorem ge_hunk_end {G : GC} (hx : G.xn = none) (hxf : ∀ n C, G.cm n = some C → XfK G.K C FL) {f : Addr} {fd : FuncData} (F : Fun G.K "hunk_end" "hunk_end" (topS 25) f fd) (hm : G.mg "hunk_end" = some (.ref f)) (b_len : GEok G "len" .blt) : GEok G "hunk_end" (.fn 1 1 (bodyF 1 (t_hunk_end))) :=
  ⟨f, fd, ["hunk"], rfl, hm, F.kp, cDef_ok hx hxf (gok_cons b_len gok_nil) F sc_hunk_end c_hunk_end, F.binds fun _ _ _ _ _ _ us hl => match us, hl with | [_], _ => rfl⟩
theorem sc_misfit : FnScope ["edit", "text", "index", "hunk"] ["edit", "text"] (defScope (topS 27)) := ⟨rfl, rfl, rfl, by decide +kernel, rfl, by decide +kernel, by decide +kernel⟩
theorem c_misfit {F_hunk_end : Fn} : cDef [("hunk_end", .fn 1 1 F_hunk_end), ("enumerate", .blt), ("len", .blt)] 1 ["edit", "text", "index", "hunk"] (topS 27) FL = some (t_misfit F_hunk_end) := by rfl
theorem ge_misfit {G : GC} (hx : G.xn = none) (hxf : ∀ n C, G.cm n = some C → XfK G.K C FL) {f : Addr} {fd : FuncData} (F : Fun G.K "misfit" "misfit" (topS 27) f fd) (hm : G.mg "misfit" = some (.ref f)) {F_hunk_end : Fn} (g_hunk_end : GEok G "hunk_end" (.fn 1 1 F_hunk_end)) (b_enumerate : GEok G "enumerate" .blt) (b_len : GEok G "len" .blt) : GEok G "misfit" (.fn 2 2 (bodyF 4 (t_misfit F_hunk_end))) :=
  ⟨f, fd, ["edit", "text"], rfl, hm, F.kp, cDef_ok hx hxf (gok_cons g_hunk_end (gok_cons b_enumerate (gok_cons b_len gok_nil))) F sc_misfit c_misfit, F.binds fun _ _ _ _ _ _ us hl => match us, hl with | [_, _], _ => rfl⟩
theorem sc_text_at : FnScope ["tree", "path", "other", "text"] ["tree", "path"] (defScope (topS 12)) := ⟨rfl, rfl, rfl, by decide +kernel, rfl, by decide +kernel, by decide +kernel⟩
theorem c_text_at : cDef [] 0 ["tree", "path", "other", "text"] (topS 12) FL = some (t_text_at) := by rfl
theorem ge_text_at {G : GC} (hx : G.xn = none) (hxf : ∀ n C, G.cm n = some C → XfK G.K C FL) {f : Addr} {fd : FuncData} (F : Fun G.K "text_at" "text_at" (topS 12) f fd) (hm : G.mg "text_at" = some (.ref f)) : GEok G "text_at" (.fn 1 2 (bodyF 4 (t_text_at))) :=
  ⟨f, fd, ["tree", "path"], rfl, hm, F.kp, cDef_ok hx hxf gok_nil F sc_text_at c_text_at, F.binds fun _ _ _ _ _ _ us hl => match us, hl with | [_, _], _ => rfl⟩
theorem sc_patch_misfit : FnScope ["patch", "tree", "path", "edit", "wrong"] ["patch", "tree"] (defScope (topS 30)) := ⟨rfl, rfl, rfl, by decide +kernel, rfl, by decide +kernel, by decide +kernel⟩
theorem c_patch_misfit {F_misfit F_text_at : Fn} : cDef [("misfit", .fn 2 2 F_misfit), ("text_at", .fn 1 2 F_text_at)] 2 ["patch", "tree", "path", "edit", "wrong"] (topS 30) FL = some (t_patch_misfit F_misfit F_text_at) := by rfl
theorem ge_patch_misfit {G : GC} (hx : G.xn = none) (hxf : ∀ n C, G.cm n = some C → XfK G.K C FL) {f : Addr} {fd : FuncData} (F : Fun G.K "patch_misfit" "patch_misfit" (topS 30) f fd) (hm : G.mg "patch_misfit" = some (.ref f)) {F_misfit F_text_at : Fn} (g_misfit : GEok G "misfit" (.fn 2 2 F_misfit)) (g_text_at : GEok G "text_at" (.fn 1 2 F_text_at)) : GEok G "patch_misfit" (.fn 3 2 (bodyF 5 (t_patch_misfit F_misfit F_text_at))) :=
  ⟨f, fd, ["patch", "tree"], rfl, hm, F.kp, cDef_ok hx hxf (gok_cons g_misfit (gok_cons g_text_at gok_nil)) F sc_patch_misfit c_patch_misfit, F.binds fun _ _ _ _ _ _ us hl => match us, hl with | [_, _], _ => rfl⟩
theorem sc_put_text : FnScope ["tree", "path", "text", "entries", "entry"] ["tree", "path", "text"] (defScope (topS 13)) := ⟨rfl, rfl, rfl, by decide +kernel, rfl, by decide +kernel, by decide +kernel⟩
theorem c_put_text : cDef [("tuple", .blt), ("sorted", .blt)] 0 ["tree", "path", "text", "entries", "entry"] (topS 13) FL = some (t_put_text) := by rfl
theorem ge_put_text {G : GC} (hx : G.xn = none) (hxf : ∀ n C, G.cm n = some C → XfK G.K C FL) {f : Addr} {fd : FuncData} (F : Fun G.K "put_text" "put_text" (topS 13) f fd) (hm : G.mg "put_text" = some (.ref f)) (b_tuple : GEok G "tuple" .blt) (b_sorted : GEok G "sorted" .blt) : GEok G "put_text" (.fn 1 3 (bodyF 5 (t_put_text))) :=
  ⟨f, fd, ["tree", "path", "text"], rfl, hm, F.kp, cDef_ok hx hxf (gok_cons b_tuple (gok_cons b_sorted gok_nil)) F sc_put_text c_put_text, F.binds fun _ _ _ _ _ _ us hl => match us, hl with | [_, _, _], _ => rfl⟩
theorem sc_apply_edit : FnScope ["edit", "text", "wrong", "result", "done", "hunk"] ["edit", "text"] (defScope (topS 28)) := ⟨rfl, rfl, rfl, by decide +kernel, rfl, by decide +kernel, by decide +kernel⟩
theorem c_apply_edit {F_misfit F_hunk_end : Fn} : cDef [("misfit", .fn 2 2 F_misfit), ("hunk_end", .fn 1 1 F_hunk_end), ("tuple", .blt), ("Misfit", .exc ["path", "hunk"] 1 Tb_Misfit)] 2 ["edit", "text", "wrong", "result", "done", "hunk"] (topS 28) FL = some (t_apply_edit F_misfit F_hunk_end) := by rfl
theorem ge_apply_edit {G : GC} (hx : G.xn = none) (hxf : ∀ n C, G.cm n = some C → XfK G.K C FL) {f : Addr} {fd : FuncData} (F : Fun G.K "apply_edit" "apply_edit" (topS 28) f fd) (hm : G.mg "apply_edit" = some (.ref f)) {F_misfit F_hunk_end : Fn} (g_misfit : GEok G "misfit" (.fn 2 2 F_misfit)) (g_hunk_end : GEok G "hunk_end" (.fn 1 1 F_hunk_end)) (b_tuple : GEok G "tuple" .blt) (x_Misfit : GEok G "Misfit" (.exc ["path", "hunk"] 1 Tb_Misfit)) : GEok G "apply_edit" (.fn 3 2 (bodyF 6 (t_apply_edit F_misfit F_hunk_end))) :=
  ⟨f, fd, ["edit", "text"], rfl, hm, F.kp, cDef_ok hx hxf (gok_cons g_misfit (gok_cons g_hunk_end (gok_cons b_tuple (gok_cons x_Misfit gok_nil)))) F sc_apply_edit c_apply_edit, F.binds fun _ _ _ _ _ _ us hl => match us, hl with | [_, _], _ => rfl⟩
theorem sc_apply_patch : FnScope ["patch", "tree", "wrong", "result", "path", "edit"] ["patch", "tree"] (defScope (topS 31)) := ⟨rfl, rfl, rfl, by decide +kernel, rfl, by decide +kernel, by decide +kernel⟩
theorem c_apply_patch {F_patch_misfit F_put_text F_apply_edit F_text_at : Fn} : cDef [("patch_misfit", .fn 3 2 F_patch_misfit), ("put_text", .fn 1 3 F_put_text), ("apply_edit", .fn 3 2 F_apply_edit), ("text_at", .fn 1 2 F_text_at), ("Misfit", .exc ["path", "hunk"] 1 Tb_Misfit)] 3 ["patch", "tree", "wrong", "result", "path", "edit"] (topS 31) FL = some (t_apply_patch F_patch_misfit F_put_text F_apply_edit F_text_at) := by rfl
theorem ge_apply_patch {G : GC} (hx : G.xn = none) (hxf : ∀ n C, G.cm n = some C → XfK G.K C FL) {f : Addr} {fd : FuncData} (F : Fun G.K "apply_patch" "apply_patch" (topS 31) f fd) (hm : G.mg "apply_patch" = some (.ref f)) {F_patch_misfit F_put_text F_apply_edit F_text_at : Fn} (g_patch_misfit : GEok G "patch_misfit" (.fn 3 2 F_patch_misfit)) (g_put_text : GEok G "put_text" (.fn 1 3 F_put_text)) (g_apply_edit : GEok G "apply_edit" (.fn 3 2 F_apply_edit)) (g_text_at : GEok G "text_at" (.fn 1 2 F_text_at)) (x_Misfit : GEok G "Misfit" (.exc ["path", "hunk"] 1 Tb_Misfit)) : GEok G "apply_patch" (.fn 4 2 (bodyF 6 (t_apply_patch F_patch_misfit F_put_text F_apply_edit F_text_at))) :=
  ⟨f, fd, ["patch", "tree"], rfl, hm, F.kp, cDef_ok hx hxf (gok_cons g_patch_misfit (gok_cons g_put_text (gok_cons g_apply_edit (gok_cons g_text_at (gok_cons x_Misfit gok_nil))))) F sc_apply_patch c_apply_patch, F.binds fun _ _ _ _ _ _ us hl => match us, hl with | [_, _], _ => rfl⟩
theorem sc_trees_along : FnScope ["tree", "changes", "found", "change"] ["tree", "changes"] (defScope (topS 33)) := ⟨rfl, rfl, rfl, by decide +kernel, rfl, by decide +kernel, by decide +kernel⟩
theorem c_trees_along {F_apply_patch : Fn} : cDef [("apply_patch", .fn 4 2 F_apply_patch), ("tuple", .blt)] 4 ["tree", "changes", "found", "change"] (topS 33) FL = some (t_trees_along F_apply_patch) := by rfl
theorem ge_trees_along {G : GC} (hx : G.xn = none) (hxf : ∀ n C, G.cm n = some C → XfK G.K C FL) {f : Addr} {fd : FuncData} (F : Fun G.K "trees_along" "trees_along" (topS 33) f fd) (hm : G.mg "trees_along" = some (.ref f)) {F_apply_patch : Fn} (g_apply_patch : GEok G "apply_patch" (.fn 4 2 F_apply_patch)) (b_tuple : GEok G "tuple" .blt) : GEok G "trees_along" (.fn 5 2 (bodyF 4 (t_trees_along F_apply_patch))) :=
  ⟨f, fd, ["tree", "changes"], rfl, hm, F.kp, cDef_ok hx hxf (gok_cons g_apply_patch (gok_cons b_tuple gok_nil)) F sc_trees_along c_trees_along, F.binds fun _ _ _ _ _ _ us hl => match us, hl with | [_, _], _ => rfl⟩
theorem sc_fails_has : FnScope ["path", "line", "tree", "text"] ["path", "line", "tree"] (defScope (topS 17)) := ⟨rfl, rfl, rfl, by decide +kernel, rfl, by decide +kernel, by decide +kernel⟩
theorem c_fails_has {F_text_at : Fn} : cDef [("text_at", .fn 1 2 F_text_at), ("len", .blt)] 1 ["path", "line", "tree", "text"] (topS 17) FL = some (t_fails_has F_text_at) := by rfl
theorem ge_fails_has {G : GC} (hx : G.xn = none) (hxf : ∀ n C, G.cm n = some C → XfK G.K C FL) {f : Addr} {fd : FuncData} (F : Fun G.K "fails_has" "fails_has" (topS 17) f fd) (hm : G.mg "fails_has" = some (.ref f)) {F_text_at : Fn} (g_text_at : GEok G "text_at" (.fn 1 2 F_text_at)) (b_len : GEok G "len" .blt) : GEok G "fails_has" (.fn 2 3 (bodyF 4 (t_fails_has F_text_at))) :=
  ⟨f, fd, ["path", "line", "tree"], rfl, hm, F.kp, cDef_ok hx hxf (gok_cons g_text_at (gok_cons b_len gok_nil)) F sc_fails_has c_fails_has, F.binds fun _ _ _ _ _ _ us hl => match us, hl with | [_, _, _], _ => rfl⟩
theorem sc_places : FnScope ["text", "line", "index", "other"] ["text", "line"] (defScope (topS 9)) := ⟨rfl, rfl, rfl, by decide +kernel, rfl, by decide +kernel, by decide +kernel⟩
theorem c_places : cDef [("tuple", .blt), ("enumerate", .blt)] 0 ["text", "line", "index", "other"] (topS 9) FL = some (t_places) := by rfl
theorem ge_places {G : GC} (hx : G.xn = none) (hxf : ∀ n C, G.cm n = some C → XfK G.K C FL) {f : Addr} {fd : FuncData} (F : Fun G.K "places" "places" (topS 9) f fd) (hm : G.mg "places" = some (.ref f)) (b_tuple : GEok G "tuple" .blt) (b_enumerate : GEok G "enumerate" .blt) : GEok G "places" (.fn 1 2 (bodyF 4 (t_places))) :=
  ⟨f, fd, ["text", "line"], rfl, hm, F.kp, cDef_ok hx hxf (gok_cons b_tuple (gok_cons b_enumerate gok_nil)) F sc_places c_places, F.binds fun _ _ _ _ _ _ us hl => match us, hl with | [_, _], _ => rfl⟩
theorem sc_fails_lacks : FnScope ["path", "line", "tree", "found"] ["path", "line", "tree"] (defScope (topS 18)) := ⟨rfl, rfl, rfl, by decide +kernel, rfl, by decide +kernel, by decide +kernel⟩
theorem c_fails_lacks {F_places F_text_at : Fn} : cDef [("places", .fn 1 2 F_places), ("text_at", .fn 1 2 F_text_at)] 1 ["path", "line", "tree", "found"] (topS 18) FL = some (t_fails_lacks F_places F_text_at) := by rfl
theorem ge_fails_lacks {G : GC} (hx : G.xn = none) (hxf : ∀ n C, G.cm n = some C → XfK G.K C FL) {f : Addr} {fd : FuncData} (F : Fun G.K "fails_lacks" "fails_lacks" (topS 18) f fd) (hm : G.mg "fails_lacks" = some (.ref f)) {F_places F_text_at : Fn} (g_places : GEok G "places" (.fn 1 2 F_places)) (g_text_at : GEok G "text_at" (.fn 1 2 F_text_at)) : GEok G "fails_lacks" (.fn 2 3 (bodyF 4 (t_fails_lacks F_places F_text_at))) :=
  ⟨f, fd, ["path", "line", "tree"], rfl, hm, F.kp, cDef_ok hx hxf (gok_cons g_places (gok_cons g_text_at gok_nil)) F sc_fails_lacks c_fails_lacks, F.binds fun _ _ _ _ _ _ us hl => match us, hl with | [_, _, _], _ => rfl⟩
theorem sc_lines_with : FnScope ["text", "word", "index", "line"] ["text", "word"] (defScope (topS 10)) := ⟨rfl, rfl, rfl, by decide +kernel, rfl, by decide +kernel, by decide +kernel⟩
theorem c_lines_with : cDef [("tuple", .blt), ("enumerate", .blt)] 0 ["text", "word", "index", "line"] (topS 10) FL = some (t_lines_with) := by rfl
theorem ge_lines_with {G : GC} (hx : G.xn = none) (hxf : ∀ n C, G.cm n = some C → XfK G.K C FL) {f : Addr} {fd : FuncData} (F : Fun G.K "lines_with" "lines_with" (topS 10) f fd) (hm : G.mg "lines_with" = some (.ref f)) (b_tuple : GEok G "tuple" .blt) (b_enumerate : GEok G "enumerate" .blt) : GEok G "lines_with" (.fn 1 2 (bodyF 4 (t_lines_with))) :=
  ⟨f, fd, ["text", "word"], rfl, hm, F.kp, cDef_ok hx hxf (gok_cons b_tuple (gok_cons b_enumerate gok_nil)) F sc_lines_with c_lines_with, F.binds fun _ _ _ _ _ _ us hl => match us, hl with | [_, _], _ => rfl⟩
theorem sc_word_places : FnScope ["tree", "word", "found", "path", "text", "index"] ["tree", "word"] (defScope (topS 15)) := ⟨rfl, rfl, rfl, by decide +kernel, rfl, by decide +kernel, by decide +kernel⟩
theorem c_word_places {F_lines_with : Fn} : cDef [("lines_with", .fn 1 2 F_lines_with), ("tuple", .blt)] 1 ["tree", "word", "found", "path", "text", "index"] (topS 15) FL = some (t_word_places F_lines_with) := by rfl
theorem ge_word_places {G : GC} (hx : G.xn = none) (hxf : ∀ n C, G.cm n = some C → XfK G.K C FL) {f : Addr} {fd : FuncData} (F : Fun G.K "word_places" "word_places" (topS 15) f fd) (hm : G.mg "word_places" = some (.ref f)) {F_lines_with : Fn} (g_lines_with : GEok G "lines_with" (.fn 1 2 F_lines_with)) (b_tuple : GEok G "tuple" .blt) : GEok G "word_places" (.fn 2 2 (bodyF 6 (t_word_places F_lines_with))) :=
  ⟨f, fd, ["tree", "word"], rfl, hm, F.kp, cDef_ok hx hxf (gok_cons g_lines_with (gok_cons b_tuple gok_nil)) F sc_word_places c_word_places, F.binds fun _ _ _ _ _ _ us hl => match us, hl with | [_, _], _ => rfl⟩
theorem sc_fails_most : FnScope ["word", "count", "tree", "found"] ["word", "count", "tree"] (defScope (topS 19)) := ⟨rfl, rfl, rfl, by decide +kernel, rfl, by decide +kernel, by decide +kernel⟩
theorem c_fails_most {F_word_places : Fn} : cDef [("word_places", .fn 2 2 F_word_places), ("len", .blt)] 2 ["word", "count", "tree", "found"] (topS 19) FL = some (t_fails_most F_word_places) := by rfl
theorem ge_fails_most {G : GC} (hx : G.xn = none) (hxf : ∀ n C, G.cm n = some C → XfK G.K C FL) {f : Addr} {fd : FuncData} (F : Fun G.K "fails_most" "fails_most" (topS 19) f fd) (hm : G.mg "fails_most" = some (.ref f)) {F_word_places : Fn} (g_word_places : GEok G "word_places" (.fn 2 2 F_word_places)) (b_len : GEok G "len" .blt) : GEok G "fails_most" (.fn 3 3 (bodyF 4 (t_fails_most F_word_places))) :=
  ⟨f, fd, ["word", "count", "tree"], rfl, hm, F.kp, cDef_ok hx hxf (gok_cons g_word_places (gok_cons b_len gok_nil)) F sc_fails_most c_fails_most, F.binds fun _ _ _ _ _ _ us hl => match us, hl with | [_, _, _], _ => rfl⟩
theorem sc_line_places : FnScope ["tree", "line", "found", "path", "text", "index"] ["tree", "line"] (defScope (topS 14)) := ⟨rfl, rfl, rfl, by decide +kernel, rfl, by decide +kernel, by decide +kernel⟩
theorem c_line_places {F_places : Fn} : cDef [("places", .fn 1 2 F_places), ("tuple", .blt)] 1 ["tree", "line", "found", "path", "text", "index"] (topS 14) FL = some (t_line_places F_places) := by rfl
theorem ge_line_places {G : GC} (hx : G.xn = none) (hxf : ∀ n C, G.cm n = some C → XfK G.K C FL) {f : Addr} {fd : FuncData} (F : Fun G.K "line_places" "line_places" (topS 14) f fd) (hm : G.mg "line_places" = some (.ref f)) {F_places : Fn} (g_places : GEok G "places" (.fn 1 2 F_places)) (b_tuple : GEok G "tuple" .blt) : GEok G "line_places" (.fn 2 2 (bodyF 6 (t_line_places F_places))) :=
  ⟨f, fd, ["tree", "line"], rfl, hm, F.kp, cDef_ok hx hxf (gok_cons g_places (gok_cons b_tuple gok_nil)) F sc_line_places c_line_places, F.binds fun _ _ _ _ _ _ us hl => match us, hl with | [_, _], _ => rfl⟩
theorem sc_fails_ties : FnScope ["first", "second", "tree", "found"] ["first", "second", "tree"] (defScope (topS 20)) := ⟨rfl, rfl, rfl, by decide +kernel, rfl, by decide +kernel, by decide +kernel⟩
theorem c_fails_ties {F_line_places : Fn} : cDef [("line_places", .fn 2 2 F_line_places)] 2 ["first", "second", "tree", "found"] (topS 20) FL = some (t_fails_ties F_line_places) := by rfl
theorem ge_fails_ties {G : GC} (hx : G.xn = none) (hxf : ∀ n C, G.cm n = some C → XfK G.K C FL) {f : Addr} {fd : FuncData} (F : Fun G.K "fails_ties" "fails_ties" (topS 20) f fd) (hm : G.mg "fails_ties" = some (.ref f)) {F_line_places : Fn} (g_line_places : GEok G "line_places" (.fn 2 2 F_line_places)) : GEok G "fails_ties" (.fn 3 3 (bodyF 4 (t_fails_ties F_line_places))) :=
  ⟨f, fd, ["first", "second", "tree"], rfl, hm, F.kp, cDef_ok hx hxf (gok_cons g_line_places gok_nil) F sc_fails_ties c_fails_ties, F.binds fun _ _ _ _ _ _ us hl => match us, hl with | [_, _, _], _ => rfl⟩
theorem sc_check_failure : FnScope ["check", "tree"] ["check", "tree"] (defScope (topS 21)) := ⟨rfl, rfl, rfl, by decide +kernel, rfl, by decide +kernel, by decide +kernel⟩
theorem c_check_failure {F_fails_has F_fails_lacks F_fails_most F_fails_ties : Fn} : cDef [("fails_has", .fn 2 3 F_fails_has), ("fails_lacks", .fn 2 3 F_fails_lacks), ("fails_most", .fn 3 3 F_fails_most), ("fails_ties", .fn 3 3 F_fails_ties)] 3 ["check", "tree"] (topS 21) FL = some (t_check_failure F_fails_has F_fails_lacks F_fails_most F_fails_ties) := by rfl
theorem ge_check_failure {G : GC} (hx : G.xn = none) (hxf : ∀ n C, G.cm n = some C → XfK G.K C FL) {f : Addr} {fd : FuncData} (F : Fun G.K "check_failure" "check_failure" (topS 21) f fd) (hm : G.mg "check_failure" = some (.ref f)) {F_fails_has F_fails_lacks F_fails_most F_fails_ties : Fn} (g_fails_has : GEok G "fails_has" (.fn 2 3 F_fails_has)) (g_fails_lacks : GEok G "fails_lacks" (.fn 2 3 F_fails_lacks)) (g_fails_most : GEok G "fails_most" (.fn 3 3 F_fails_most)) (g_fails_ties : GEok G "fails_ties" (.fn 3 3 F_fails_ties)) : GEok G "check_failure" (.fn 4 2 (bodyF 2 (t_check_failure F_fails_has F_fails_lacks F_fails_most F_fails_ties))) :=
  ⟨f, fd, ["check", "tree"], rfl, hm, F.kp, cDef_ok hx hxf (gok_cons g_fails_has (gok_cons g_fails_lacks (gok_cons g_fails_most (gok_cons g_fails_ties gok_nil)))) F sc_check_failure c_check_failure, F.binds fun _ _ _ _ _ _ us hl => match us, hl with | [_, _], _ => rfl⟩
theorem sc_first_red : FnScope ["checks", "tree", "index", "check", "place"] ["checks", "tree"] (defScope (topS 22)) := ⟨rfl, rfl, rfl, by decide +kernel, rfl, by decide +kernel, by decide +kernel⟩
theorem c_first_red {F_check_failure : Fn} : cDef [("check_failure", .fn 4 2 F_check_failure), ("enumerate", .blt)] 4 ["checks", "tree", "index", "check", "place"] (topS 22) FL = some (t_first_red F_check_failure) := by rfl
theorem ge_first_red {G : GC} (hx : G.xn = none) (hxf : ∀ n C, G.cm n = some C → XfK G.K C FL) {f : Addr} {fd : FuncData} (F : Fun G.K "first_red" "first_red" (topS 22) f fd) (hm : G.mg "first_red" = some (.ref f)) {F_check_failure : Fn} (g_check_failure : GEok G "check_failure" (.fn 4 2 F_check_failure)) (b_enumerate : GEok G "enumerate" .blt) : GEok G "first_red" (.fn 5 2 (bodyF 5 (t_first_red F_check_failure))) :=
  ⟨f, fd, ["checks", "tree"], rfl, hm, F.kp, cDef_ok hx hxf (gok_cons g_check_failure (gok_cons b_enumerate gok_nil)) F sc_first_red c_first_red, F.binds fun _ _ _ _ _ _ us hl => match us, hl with | [_, _], _ => rfl⟩
theorem sc_green : FnScope ["checks", "tree"] ["checks", "tree"] (defScope (topS 23)) := ⟨rfl, rfl, rfl, by decide +kernel, rfl, by decide +kernel, by decide +kernel⟩
theorem c_green {F_first_red : Fn} : cDef [("first_red", .fn 5 2 F_first_red)] 5 ["checks", "tree"] (topS 23) FL = some (t_green F_first_red) := by rfl
theorem ge_green {G : GC} (hx : G.xn = none) (hxf : ∀ n C, G.cm n = some C → XfK G.K C FL) {f : Addr} {fd : FuncData} (F : Fun G.K "green" "green" (topS 23) f fd) (hm : G.mg "green" = some (.ref f)) {F_first_red : Fn} (g_first_red : GEok G "first_red" (.fn 5 2 F_first_red)) : GEok G "green" (.fn 6 2 (bodyF 2 (t_green F_first_red))) :=
  ⟨f, fd, ["checks", "tree"], rfl, hm, F.kp, cDef_ok hx hxf (gok_cons g_first_red gok_nil) F sc_green c_green, F.binds fun _ _ _ _ _ _ us hl => match us, hl with | [_, _], _ => rfl⟩
theorem sc_culprit : FnScope ["tree", "changes", "checks", "trees", "red", "low", "high", "looks", "middle"] ["tree", "changes", "checks"] (defScope (topS 35)) := ⟨rfl, rfl, rfl, by decide +kernel, rfl, by decide +kernel, by decide +kernel⟩
theorem c_culprit {F_trees_along F_first_red F_green : Fn} : cDef [("trees_along", .fn 5 2 F_trees_along), ("first_red", .fn 5 2 F_first_red), ("green", .fn 6 2 F_green), ("len", .blt), ("tuple", .blt), ("NotGreen", .exc ["check"] 1 Tb_NotGreen), ("NotRed", .exc0 Tb_NotRed)] 6 ["tree", "changes", "checks", "trees", "red", "low", "high", "looks", "middle"] (topS 35) FL = some (t_culprit F_trees_along F_first_red F_green) := by rfl
theorem ge_culprit {G : GC} (hx : G.xn = none) (hxf : ∀ n C, G.cm n = some C → XfK G.K C FL) {f : Addr} {fd : FuncData} (F : Fun G.K "culprit" "culprit" (topS 35) f fd) (hm : G.mg "culprit" = some (.ref f)) {F_trees_along F_first_red F_green : Fn} (g_trees_along : GEok G "trees_along" (.fn 5 2 F_trees_along)) (g_first_red : GEok G "first_red" (.fn 5 2 F_first_red)) (g_green : GEok G "green" (.fn 6 2 F_green)) (b_len : GEok G "len" .blt) (b_tuple : GEok G "tuple" .blt) (x_NotGreen : GEok G "NotGreen" (.exc ["check"] 1 Tb_NotGreen)) (x_NotRed : GEok G "NotRed" (.exc0 Tb_NotRed)) : GEok G "culprit" (.fn 7 3 (bodyF 9 (t_culprit F_trees_along F_first_red F_green))) :=
  ⟨f, fd, ["tree", "changes", "checks"], rfl, hm, F.kp, cDef_ok hx hxf (gok_cons g_trees_along (gok_cons g_first_red (gok_cons g_green (gok_cons b_len (gok_cons b_tuple (gok_cons x_NotGreen (gok_cons x_NotRed gok_nil))))))) F sc_culprit c_culprit, F.binds fun _ _ _ _ _ _ us hl => match us, hl with | [_, _, _], _ => rfl⟩
theorem sc_law_told_v12 : FnScope ["tree", "changes", "checks", "e"] ["tree", "changes", "checks"] (defScope (topS 56)) := ⟨rfl, rfl, rfl, by decide +kernel, rfl, by decide +kernel, by decide +kernel⟩
theorem c_law_told_v12 {F_culprit : Fn} : cDef [("culprit", .fn 7 3 F_culprit), ("isinstance", .blt), ("NotGreen", .exc ["check"] 1 Tb_NotGreen), ("NotRed", .exc0 Tb_NotRed), ("ReviewError", .cls Tb_ReviewError)] 7 ["tree", "changes", "checks", "e"] (topS 56) FL = some (t_law_told_v12 F_culprit) := by rfl
theorem ge_law_told_v12 {G : GC} (hx : G.xn = none) (hxf : ∀ n C, G.cm n = some C → XfK G.K C FL) {f : Addr} {fd : FuncData} (F : Fun G.K "_law_told" "_law_told" (topS 56) f fd) (hm : G.mg "_law_told" = some (.ref f)) {F_culprit : Fn} (g_culprit : GEok G "culprit" (.fn 7 3 F_culprit)) (b_isinstance : GEok G "isinstance" .blt) (x_NotGreen : GEok G "NotGreen" (.exc ["check"] 1 Tb_NotGreen)) (x_NotRed : GEok G "NotRed" (.exc0 Tb_NotRed)) (x_ReviewError : GEok G "ReviewError" (.cls Tb_ReviewError)) : GEok G "_law_told" (.fn 8 3 (bodyF 4 (t_law_told_v12 F_culprit))) :=
  ⟨f, fd, ["tree", "changes", "checks"], rfl, hm, F.kp, cDef_ok hx hxf (gok_cons g_culprit (gok_cons b_isinstance (gok_cons x_NotGreen (gok_cons x_NotRed (gok_cons x_ReviewError gok_nil))))) F sc_law_told_v12 c_law_told_v12, F.binds fun _ _ _ _ _ _ us hl => match us, hl with | [_, _, _], _ => rfl⟩
theorem sc_is_whole : FnScope ["value"] ["value"] (defScope (topS 6)) := ⟨rfl, rfl, rfl, by decide +kernel, rfl, by decide +kernel, by decide +kernel⟩
theorem c_is_whole : cDef [("isinstance", .blt), ("bool", .blt), ("int", .blt)] 0 ["value"] (topS 6) FL = some (t_is_whole) := by rfl
theorem ge_is_whole {G : GC} (hx : G.xn = none) (hxf : ∀ n C, G.cm n = some C → XfK G.K C FL) {f : Addr} {fd : FuncData} (F : Fun G.K "is_whole" "is_whole" (topS 6) f fd) (hm : G.mg "is_whole" = some (.ref f)) (b_isinstance : GEok G "isinstance" .blt) (b_bool : GEok G "bool" .blt) (b_int : GEok G "int" .blt) : GEok G "is_whole" (.fn 1 1 (bodyF 1 (t_is_whole))) :=
  ⟨f, fd, ["value"], rfl, hm, F.kp, cDef_ok hx hxf (gok_cons b_isinstance (gok_cons b_bool (gok_cons b_int gok_nil))) F sc_is_whole c_is_whole, F.binds fun _ _ _ _ _ _ us hl => match us, hl with | [_], _ => rfl⟩
theorem sc_is_index : FnScope ["value", "count"] ["value", "count"] (defScope (topS 7)) := ⟨rfl, rfl, rfl, by decide +kernel, rfl, by decide +kernel, by decide +kernel⟩
theorem c_is_index {F_is_whole : Fn} : cDef [("is_whole", .fn 1 1 F_is_whole)] 1 ["value", "count"] (topS 7) FL = some (t_is_index F_is_whole) := by rfl
theorem ge_is_index {G : GC} (hx : G.xn = none) (hxf : ∀ n C, G.cm n = some C → XfK G.K C FL) {f : Addr} {fd : FuncData} (F : Fun G.K "is_index" "is_index" (topS 7) f fd) (hm : G.mg "is_index" = some (.ref f)) {F_is_whole : Fn} (g_is_whole : GEok G "is_whole" (.fn 1 1 F_is_whole)) : GEok G "is_index" (.fn 2 2 (bodyF 2 (t_is_index F_is_whole))) :=
  ⟨f, fd, ["value", "count"], rfl, hm, F.kp, cDef_ok hx hxf (gok_cons g_is_whole gok_nil) F sc_is_index c_is_index, F.binds fun _ _ _ _ _ _ us hl => match us, hl with | [_, _], _ => rfl⟩
theorem sc_is_culprit : FnScope ["tree", "changes", "checks", "value", "trees"] ["tree", "changes", "checks", "value"] (defScope (topS 36)) := ⟨rfl, rfl, rfl, by decide +kernel, rfl, by decide +kernel, by decide +kernel⟩
theorem c_is_culprit {F_is_index F_trees_along F_green : Fn} : cDef [("is_index", .fn 2 2 F_is_index), ("trees_along", .fn 5 2 F_trees_along), ("green", .fn 6 2 F_green), ("len", .blt)] 6 ["tree", "changes", "checks", "value", "trees"] (topS 36) FL = some (t_is_culprit F_is_index F_trees_along F_green) := by rfl
theorem ge_is_culprit {G : GC} (hx : G.xn = none) (hxf : ∀ n C, G.cm n = some C → XfK G.K C FL) {f : Addr} {fd : FuncData} (F : Fun G.K "is_culprit" "is_culprit" (topS 36) f fd) (hm : G.mg "is_culprit" = some (.ref f)) {F_is_index F_trees_along F_green : Fn} (g_is_index : GEok G "is_index" (.fn 2 2 F_is_index)) (g_trees_along : GEok G "trees_along" (.fn 5 2 F_trees_along)) (g_green : GEok G "green" (.fn 6 2 F_green)) (b_len : GEok G "len" .blt) : GEok G "is_culprit" (.fn 7 4 (bodyF 5 (t_is_culprit F_is_index F_trees_along F_green))) :=
  ⟨f, fd, ["tree", "changes", "checks", "value"], rfl, hm, F.kp, cDef_ok hx hxf (gok_cons g_is_index (gok_cons g_trees_along (gok_cons g_green (gok_cons b_len gok_nil)))) F sc_is_culprit c_is_culprit, F.binds fun _ _ _ _ _ _ us hl => match us, hl with | [_, _, _, _], _ => rfl⟩
theorem sc_law : FnScope ["script", "bag", "wide", "paths", "tree", "many", "names", "changes", "trees", "spots", "checks", "k", "check", "reds", "one", "value", "turns"] ["script"] (defScope (topS 58)) := ⟨rfl, rfl, rfl, by decide +kernel, rfl, by decide +kernel, by decide +kernel⟩
theorem c_law {F_law_bag F_law_take F_law_paths F_law_base F_law_names F_law_changes F_law_along F_law_spots F_law_check F_law_fails F_law_red F_law_same F_law_due_v13 F_law_told_v12 F_is_culprit : Fn} : cDef [("_law_bag", .fn 1 1 F_law_bag), ("_law_take", .fn 1 2 F_law_take), ("_law_paths", .fn 2 2 F_law_paths), ("_law_base", .fn 3 3 F_law_base), ("_law_names", .fn 2 2 F_law_names), ("_law_changes", .fn 5 6 F_law_changes), ("_law_along", .fn 3 2 F_law_along), ("_law_spots", .fn 1 1 F_law_spots), ("_law_check", .fn 3 4 F_law_check), ("_law_fails", .fn 1 2 F_law_fails), ("_law_red", .fn 2 2 F_law_red), ("_law_same", .fn 6 2 F_law_same), ("_law_due", .fn 1 1 F_law_due_v13), ("_law_told", .fn 8 3 F_law_told_v12), ("is_culprit", .fn 7 4 F_is_culprit), ("range", .blt), ("tuple", .blt)] 8 ["script", "bag", "wide", "paths", "tree", "many", "names", "changes", "trees", "spots", "checks", "k", "check", "reds", "one", "value", "turns"] (topS 58) FL = some (t_law F_law_bag F_law_take F_law_paths F_law_base F_law_names F_law_changes F_law_along F_law_spots F_law_check F_law_fails F_law_red F_law_same F_law_due_v13 F_law_told_v12 F_is_culprit) := by rfl
theorem ge_law {G : GC} (hx : G.xn = none) (hxf : ∀ n C, G.cm n = some C → XfK G.K C FL) {f : Addr} {fd : FuncData} (F : Fun G.K "law" "law" (topS 58) f fd) (hm : G.mg "law" = some (.ref f)) {F_law_bag F_law_take F_law_paths F_law_base F_law_names F_law_changes F_law_along F_law_spots F_law_check F_law_fails F_law_red F_law_same F_law_due_v13 F_law_told_v12 F_is_culprit : Fn} (g_law_bag : GEok G "_law_bag" (.fn 1 1 F_law_bag)) (g_law_take : GEok G "_law_take" (.fn 1 2 F_law_take)) (g_law_paths : GEok G "_law_paths" (.fn 2 2 F_law_paths)) (g_law_base : GEok G "_law_base" (.fn 3 3 F_law_base)) (g_law_names : GEok G "_law_names" (.fn 2 2 F_law_names)) (g_law_changes : GEok G "_law_changes" (.fn 5 6 F_law_changes)) (g_law_along : GEok G "_law_along" (.fn 3 2 F_law_along)) (g_law_spots : GEok G "_law_spots" (.fn 1 1 F_law_spots)) (g_law_check : GEok G "_law_check" (.fn 3 4 F_law_check)) (g_law_fails : GEok G "_law_fails" (.fn 1 2 F_law_fails)) (g_law_red : GEok G "_law_red" (.fn 2 2 F_law_red)) (g_law_same : GEok G "_law_same" (.fn 6 2 F_law_same)) (g_law_due_v13 : GEok G "_law_due" (.fn 1 1 F_law_due_v13)) (g_law_told_v12 : GEok G "_law_told" (.fn 8 3 F_law_told_v12)) (g_is_culprit : GEok G "is_culprit" (.fn 7 4 F_is_culprit)) (b_range : GEok G "range" .blt) (b_tuple : GEok G "tuple" .blt) : GEok G "law" (.fn 9 1 (bodyF 17 (t_law F_law_bag F_law_take F_law_paths F_law_base F_law_names F_law_changes F_law_along F_law_spots F_law_check F_law_fails F_law_red F_law_same F_law_due_v13 F_law_told_v12 F_is_culprit))) :=
  ⟨f, fd, ["script"], rfl, hm, F.kp, cDef_ok hx hxf (gok_cons g_law_bag (gok_cons g_law_take (gok_cons g_law_paths (gok_cons g_law_base (gok_cons g_law_names (gok_cons g_law_changes (gok_cons g_law_along (gok_cons g_law_spots (gok_cons g_law_check (gok_cons g_law_fails (gok_cons g_law_red (gok_cons g_law_same (gok_cons g_law_due_v13 (gok_cons g_law_told_v12 (gok_cons g_is_culprit (gok_cons b_range (gok_cons b_tuple gok_nil))))))))))))))))) F sc_law c_law, F.binds fun _ _ _ _ _ _ us hl => match us, hl with | [_], _ => rfl⟩
theorem it_Misfit : InitT (topS 2) "self" ["path", "hunk"] :=
  ⟨by rfl, by rfl, by rfl, by rfl, by rfl, by decide +kernel, by decide +kernel, by decide +kernel, by decide +kernel, by simp, by decide,
    ⟨_, _, _, _, _, _, _, _, _, _, (.cons (.cons .nil)), rfl, fun qual cc c f L => rfl⟩, fun qual doc pm ctv cc c us hl => match us, hl with | [_, _, _], _ => rfl⟩
theorem it_NotGreen : InitT (topS 3) "self" ["check"] :=
  ⟨by rfl, by rfl, by rfl, by rfl, by rfl, by decide +kernel, by decide +kernel, by decide +kernel, by decide +kernel, by simp, by decide,
    ⟨_, _, _, _, _, _, _, _, _, _, (.cons .nil), rfl, fun qual cc c f L => rfl⟩, fun qual doc pm ctv cc c us hl => match us, hl with | [_, _], _ => rfl⟩
end SG

set_option maxHeartbeats 0
namespace SG
open PySem PySem.Spec L2 DN
theorem all_mk {w : World} {K : PySem.W.Frag} {h : Heap} {mg : Str → Option Value} {fa : Addr} (X : K.In h) (G : h.Ns mainGlobals mg) (hfa : mg "law" = some (.ref fa))
    {p_law_bag : Addr} {od_law_bag an_law_bag : Option Addr} {sl_law_bag : Array (Option Value)} {oc_law_bag kV_law_bag dc_law_bag pm_law_bag cd_law_bag ct_law_bag : Value}
    (a_law_bag : PySem.W.nsIn K mainGlobals "_law_bag" = some (some (.ref p_law_bag))) (l_law_bag : K.lookup p_law_bag = some ⟨oc_law_bag, od_law_bag, .func (PySem.W.fnOf "_law_bag" "_law_bag" (defArgs (topS 38)) (defBody (topS 38)) (defScope (topS 38)) .none kV_law_bag dc_law_bag pm_law_bag an_law_bag cd_law_bag ct_law_bag), sl_law_bag⟩) (d_law_bag : PySem.W.codeIn K cd_law_bag "_law_bag" = true) (k_law_bag : PySem.W.keepIn K (.ref p_law_bag) = true)
    {p_law_take : Addr} {od_law_take an_law_take : Option Addr} {sl_law_take : Array (Option Value)} {oc_law_take kV_law_take dc_law_take pm_law_take cd_law_take ct_law_take : Value}
    (a_law_take : PySem.W.nsIn K mainGlobals "_law_take" = some (some (.ref p_law_take))) (l_law_take : K.lookup p_law_take = some ⟨oc_law_take, od_law_take, .func (PySem.W.fnOf "_law_take" "_law_take" (defArgs (topS 39)) (defBody (topS 39)) (defScope (topS 39)) .none kV_law_take dc_law_take pm_law_take an_law_take cd_law_take ct_law_take), sl_law_take⟩) (d_law_take : PySem.W.codeIn K cd_law_take "_law_take" = true) (k_law_take : PySem.W.keepIn K (.ref p_law_take) = true)
    {p_law_paths : Addr} {od_law_paths an_law_paths : Option Addr} {sl_law_paths : Array (Option Value)} {oc_law_paths kV_law_paths dc_law_paths pm_law_paths cd_law_paths ct_law_paths : Value}
    (a_law_paths : PySem.W.nsIn K mainGlobals "_law_paths" = some (some (.ref p_law_paths))) (l_law_paths : K.lookup p_law_paths = some ⟨oc_law_paths, od_law_paths, .func (PySem.W.fnOf "_law_paths" "_law_paths" (defArgs (topS 42)) (defBody (topS 42)) (defScope (topS 42)) .none kV_law_paths dc_law_paths pm_law_paths an_law_paths cd_law_paths ct_law_paths), sl_law_paths⟩) (d_law_paths : PySem.W.codeIn K cd_law_paths "_law_paths" = true) (k_law_paths : PySem.W.keepIn K (.ref p_law_paths) = true)
    {p_law_line : Addr} {od_law_line an_law_line : Option Addr} {sl_law_line : Array (Option Value)} {oc_law_line kV_law_line dc_law_line pm_law_line cd_law_line ct_law_line : Value}
    (a_law_line : PySem.W.nsIn K mainGlobals "_law_line" = some (some (.ref p_law_line))) (l_law_line : K.lookup p_law_line = some ⟨oc_law_line, od_law_line, .func (PySem.W.fnOf "_law_line" "_law_line" (defArgs (topS 40)) (defBody (topS 40)) (defScope (topS 40)) .none kV_law_line dc_law_line pm_law_line an_law_line cd_law_line ct_law_line), sl_law_line⟩) (d_law_line : PySem.W.codeIn K cd_law_line "_law_line" = true) (k_law_line : PySem.W.keepIn K (.ref p_law_line) = true)
    {p_law_base : Addr} {od_law_base an_law_base : Option Addr} {sl_law_base : Array (Option Value)} {oc_law_base kV_law_base dc_law_base pm_law_base cd_law_base ct_law_base : Value}
    (a_law_base : PySem.W.nsIn K mainGlobals "_law_base" = some (some (.ref p_law_base))) (l_law_base : K.lookup p_law_base = some ⟨oc_law_base, od_law_base, .func (PySem.W.fnOf "_law_base" "_law_base" (defArgs (topS 45)) (defBody (topS 45)) (defScope (topS 45)) .none kV_law_base dc_law_base pm_law_base an_law_base cd_law_base ct_law_base), sl_law_base⟩) (d_law_base : PySem.W.codeIn K cd_law_base "_law_base" = true) (k_law_base : PySem.W.keepIn K (.ref p_law_base) = true)
    {p_law_names : Addr} {od_law_names an_law_names : Option Addr} {sl_law_names : Array (Option Value)} {oc_law_names kV_law_names dc_law_names pm_law_names cd_law_names ct_law_names : Value}
    (a_law_names : PySem.W.nsIn K mainGlobals "_law_names" = some (some (.ref p_law_names))) (l_law_names : K.lookup p_law_names = some ⟨oc_law_names, od_law_names, .func (PySem.W.fnOf "_law_names" "_law_names" (defArgs (topS 41)) (defBody (topS 41)) (defScope (topS 41)) .none kV_law_names dc_law_names pm_law_names an_law_names cd_law_names ct_law_names), sl_law_names⟩) (d_law_names : PySem.W.codeIn K cd_law_names "_law_names" = true) (k_law_names : PySem.W.keepIn K (.ref p_law_names) = true)
    {p_law_edit : Addr} {od_law_edit an_law_edit : Option Addr} {sl_law_edit : Array (Option Value)} {oc_law_edit kV_law_edit dc_law_edit pm_law_edit cd_law_edit ct_law_edit : Value}
    (a_law_edit : PySem.W.nsIn K mainGlobals "_law_edit" = some (some (.ref p_law_edit))) (l_law_edit : K.lookup p_law_edit = some ⟨oc_law_edit, od_law_edit, .func (PySem.W.fnOf "_law_edit" "_law_edit" (defArgs (topS 46)) (defBody (topS 46)) (defScope (topS 46)) .none kV_law_edit dc_law_edit pm_law_edit an_law_edit cd_law_edit ct_law_edit), sl_law_edit⟩) (d_law_edit : PySem.W.codeIn K cd_law_edit "_law_edit" = true) (k_law_edit : PySem.W.keepIn K (.ref p_law_edit) = true)
    {p_law_text : Addr} {od_law_text an_law_text : Option Addr} {sl_law_text : Array (Option Value)} {oc_law_text kV_law_text dc_law_text pm_law_text cd_law_text ct_law_text : Value}
    (a_law_text : PySem.W.nsIn K mainGlobals "_law_text" = some (some (.ref p_law_text))) (l_law_text : K.lookup p_law_text = some ⟨oc_law_text, od_law_text, .func (PySem.W.fnOf "_law_text" "_law_text" (defArgs (topS 43)) (defBody (topS 43)) (defScope (topS 43)) .none kV_law_text dc_law_text pm_law_text an_law_text cd_law_text ct_law_text), sl_law_text⟩) (d_law_text : PySem.W.codeIn K cd_law_text "_law_text" = true) (k_law_text : PySem.W.keepIn K (.ref p_law_text) = true)
    {p_law_patch : Addr} {od_law_patch an_law_patch : Option Addr} {sl_law_patch : Array (Option Value)} {oc_law_patch kV_law_patch dc_law_patch pm_law_patch cd_law_patch ct_law_patch : Value}
    (a_law_patch : PySem.W.nsIn K mainGlobals "_law_patch" = some (some (.ref p_law_patch))) (l_law_patch : K.lookup p_law_patch = some ⟨oc_law_patch, od_law_patch, .func (PySem.W.fnOf "_law_patch" "_law_patch" (defArgs (topS 47)) (defBody (topS 47)) (defScope (topS 47)) .none kV_law_patch dc_law_patch pm_law_patch an_law_patch cd_law_patch ct_law_patch), sl_law_patch⟩) (d_law_patch : PySem.W.codeIn K cd_law_patch "_law_patch" = true) (k_law_patch : PySem.W.keepIn K (.ref p_law_patch) = true)
    {p_law_put : Addr} {od_law_put an_law_put : Option Addr} {sl_law_put : Array (Option Value)} {oc_law_put kV_law_put dc_law_put pm_law_put cd_law_put ct_law_put : Value}
    (a_law_put : PySem.W.nsIn K mainGlobals "_law_put" = some (some (.ref p_law_put))) (l_law_put : K.lookup p_law_put = some ⟨oc_law_put, od_law_put, .func (PySem.W.fnOf "_law_put" "_law_put" (defArgs (topS 44)) (defBody (topS 44)) (defScope (topS 44)) .none kV_law_put dc_law_put pm_law_put an_law_put cd_law_put ct_law_put), sl_law_put⟩) (d_law_put : PySem.W.codeIn K cd_law_put "_law_put" = true) (k_law_put : PySem.W.keepIn K (.ref p_law_put) = true)
    {p_law_apply : Addr} {od_law_apply an_law_apply : Option Addr} {sl_law_apply : Array (Option Value)} {oc_law_apply kV_law_apply dc_law_apply pm_law_apply cd_law_apply ct_law_apply : Value}
    (a_law_apply : PySem.W.nsIn K mainGlobals "_law_apply" = some (some (.ref p_law_apply))) (l_law_apply : K.lookup p_law_apply = some ⟨oc_law_apply, od_law_apply, .func (PySem.W.fnOf "_law_apply" "_law_apply" (defArgs (topS 48)) (defBody (topS 48)) (defScope (topS 48)) .none kV_law_apply dc_law_apply pm_law_apply an_law_apply cd_law_apply ct_law_apply), sl_law_apply⟩) (d_law_apply : PySem.W.codeIn K cd_law_apply "_law_apply" = true) (k_law_apply : PySem.W.keepIn K (.ref p_law_apply) = true)
    {p_law_changes : Addr} {od_law_changes an_law_changes : Option Addr} {sl_law_changes : Array (Option Value)} {oc_law_changes kV_law_changes dc_law_changes pm_law_changes cd_law_changes ct_law_changes : Value}
    (a_law_changes : PySem.W.nsIn K mainGlobals "_law_changes" = some (some (.ref p_law_changes))) (l_law_changes : K.lookup p_law_changes = some ⟨oc_law_changes, od_law_changes, .func (PySem.W.fnOf "_law_changes" "_law_changes" (defArgs (topS 49)) (defBody (topS 49)) (defScope (topS 49)) .none kV_law_changes dc_law_changes pm_law_changes an_law_changes cd_law_changes ct_law_changes), sl_law_changes⟩) (d_law_changes : PySem.W.codeIn K cd_law_changes "_law_changes" = true) (k_law_changes : PySem.W.keepIn K (.ref p_law_changes) = true)
    {p_law_along : Addr} {od_law_along an_law_along : Option Addr} {sl_law_along : Array (Option Value)} {oc_law_along kV_law_along dc_law_along pm_law_along cd_law_along ct_law_along : Value}
    (a_law_along : PySem.W.nsIn K mainGlobals "_law_along" = some (some (.ref p_law_along))) (l_law_along : K.lookup p_law_along = some ⟨oc_law_along, od_law_along, .func (PySem.W.fnOf "_law_along" "_law_along" (defArgs (topS 50)) (defBody (topS 50)) (defScope (topS 50)) .none kV_law_along dc_law_along pm_law_along an_law_along cd_law_along ct_law_along), sl_law_along⟩) (d_law_along : PySem.W.codeIn K cd_law_along "_law_along" = true) (k_law_along : PySem.W.keepIn K (.ref p_law_along) = true)
    {p_law_spots : Addr} {od_law_spots an_law_spots : Option Addr} {sl_law_spots : Array (Option Value)} {oc_law_spots kV_law_spots dc_law_spots pm_law_spots cd_law_spots ct_law_spots : Value}
    (a_law_spots : PySem.W.nsIn K mainGlobals "_law_spots" = some (some (.ref p_law_spots))) (l_law_spots : K.lookup p_law_spots = some ⟨oc_law_spots, od_law_spots, .func (PySem.W.fnOf "_law_spots" "_law_spots" (defArgs (topS 54)) (defBody (topS 54)) (defScope (topS 54)) .none kV_law_spots dc_law_spots pm_law_spots an_law_spots cd_law_spots ct_law_spots), sl_law_spots⟩) (d_law_spots : PySem.W.codeIn K cd_law_spots "_law_spots" = true) (k_law_spots : PySem.W.keepIn K (.ref p_law_spots) = true)
    {p_law_check : Addr} {od_law_check an_law_check : Option Addr} {sl_law_check : Array (Option Value)} {oc_law_check kV_law_check dc_law_check pm_law_check cd_law_check ct_law_check : Value}
    (a_law_check : PySem.W.nsIn K mainGlobals "_law_check" = some (some (.ref p_law_check))) (l_law_check : K.lookup p_law_check = some ⟨oc_law_check, od_law_check, .func (PySem.W.fnOf "_law_check" "_law_check" (defArgs (topS 53)) (defBody (topS 53)) (defScope (topS 53)) .none kV_law_check dc_law_check pm_law_check an_law_check cd_law_check ct_law_check), sl_law_check⟩) (d_law_check : PySem.W.codeIn K cd_law_check "_law_check" = true) (k_law_check : PySem.W.keepIn K (.ref p_law_check) = true)
    {p_law_fails : Addr} {od_law_fails an_law_fails : Option Addr} {sl_law_fails : Array (Option Value)} {oc_law_fails kV_law_fails dc_law_fails pm_law_fails cd_law_fails ct_law_fails : Value}
    (a_law_fails : PySem.W.nsIn K mainGlobals "_law_fails" = some (some (.ref p_law_fails))) (l_law_fails : K.lookup p_law_fails = some ⟨oc_law_fails, od_law_fails, .func (PySem.W.fnOf "_law_fails" "_law_fails" (defArgs (topS 51)) (defBody (topS 51)) (defScope (topS 51)) .none kV_law_fails dc_law_fails pm_law_fails an_law_fails cd_law_fails ct_law_fails), sl_law_fails⟩) (d_law_fails : PySem.W.codeIn K cd_law_fails "_law_fails" = true) (k_law_fails : PySem.W.keepIn K (.ref p_law_fails) = true)
    {p_law_red : Addr} {od_law_red an_law_red : Option Addr} {sl_law_red : Array (Option Value)} {oc_law_red kV_law_red dc_law_red pm_law_red cd_law_red ct_law_red : Value}
    (a_law_red : PySem.W.nsIn K mainGlobals "_law_red" = some (some (.ref p_law_red))) (l_law_red : K.lookup p_law_red = some ⟨oc_law_red, od_law_red, .func (PySem.W.fnOf "_law_red" "_law_red" (defArgs (topS 52)) (defBody (topS 52)) (defScope (topS 52)) .none kV_law_red dc_law_red pm_law_red an_law_red cd_law_red ct_law_red), sl_law_red⟩) (d_law_red : PySem.W.codeIn K cd_law_red "_law_red" = true) (k_law_red : PySem.W.keepIn K (.ref p_law_red) = true)
    {p_law_same : Addr} {od_law_same an_law_same : Option Addr} {sl_law_same : Array (Option Value)} {oc_law_same kV_law_same dc_law_same pm_law_same cd_law_same ct_law_same : Value}
    (a_law_same : PySem.W.nsIn K mainGlobals "_law_same" = some (some (.ref p_law_same))) (l_law_same : K.lookup p_law_same = some ⟨oc_law_same, od_law_same, .func (PySem.W.fnOf "_law_same" "_law_same" (defArgs (topS 55)) (defBody (topS 55)) (defScope (topS 55)) .none kV_law_same dc_law_same pm_law_same an_law_same cd_law_same ct_law_same), sl_law_same⟩) (d_law_same : PySem.W.codeIn K cd_law_same "_law_same" = true) (k_law_same : PySem.W.keepIn K (.ref p_law_same) = true)
    {p_law_due_v13 : Addr} {od_law_due_v13 an_law_due_v13 : Option Addr} {sl_law_due_v13 : Array (Option Value)} {oc_law_due_v13 kV_law_due_v13 dc_law_due_v13 pm_law_due_v13 cd_law_due_v13 ct_law_due_v13 : Value}
    (a_law_due_v13 : PySem.W.nsIn K mainGlobals "_law_due" = some (some (.ref p_law_due_v13))) (l_law_due_v13 : K.lookup p_law_due_v13 = some ⟨oc_law_due_v13, od_law_due_v13, .func (PySem.W.fnOf "_law_due" "_law_due" (defArgs (topS 57)) (defBody (topS 57)) (defScope (topS 57)) .none kV_law_due_v13 dc_law_due_v13 pm_law_due_v13 an_law_due_v13 cd_law_due_v13 ct_law_due_v13), sl_law_due_v13⟩) (d_law_due_v13 : PySem.W.codeIn K cd_law_due_v13 "_law_due" = true) (k_law_due_v13 : PySem.W.keepIn K (.ref p_law_due_v13) = true)
    {p_hunk_end : Addr} {od_hunk_end an_hunk_end : Option Addr} {sl_hunk_end : Array (Option Value)} {oc_hunk_end kV_hunk_end dc_hunk_end pm_hunk_end cd_hunk_end ct_hunk_end : Value}
    (a_hunk_end : PySem.W.nsIn K mainGlobals "hunk_end" = some (some (.ref p_hunk_end))) (l_hunk_end : K.lookup p_hunk_end = some ⟨oc_hunk_end, od_hunk_end, .func (PySem.W.fnOf "hunk_end" "hunk_end" (defArgs (topS 25)) (defBody (topS 25)) (defScope (topS 25)) .none kV_hunk_end dc_hunk_end pm_hunk_end an_hunk_end cd_hunk_end ct_hunk_end), sl_hunk_end⟩) (d_hunk_end : PySem.W.codeIn K cd_hunk_end "hunk_end" = true) (k_hunk_end : PySem.W.keepIn K (.ref p_hunk_end) = true)
    {p_misfit : Addr} {od_misfit an_misfit : Option Addr} {sl_misfit : Array (Option Value)} {oc_misfit kV_misfit dc_misfit pm_misfit cd_misfit ct_misfit : Value}
    (a_misfit : PySem.W.nsIn K mainGlobals "misfit" = some (some (.ref p_misfit))) (l_misfit : K.lookup p_misfit = some ⟨oc_misfit, od_misfit, .func (PySem.W.fnOf "misfit" "misfit" (defArgs (topS 27)) (defBody (topS 27)) (defScope (topS 27)) .none kV_misfit dc_misfit pm_misfit an_misfit cd_misfit ct_misfit), sl_misfit⟩) (d_misfit : PySem.W.codeIn K cd_misfit "misfit" = true) (k_misfit : PySem.W.keepIn K (.ref p_misfit) = true)
    {p_text_at : Addr} {od_text_at an_text_at : Option Addr} {sl_text_at : Array (Option Value)} {oc_text_at kV_text_at dc_text_at pm_text_at cd_text_at ct_text_at : Value}
    (a_text_at : PySem.W.nsIn K mainGlobals "text_at" = some (some (.ref p_text_at))) (l_text_at : K.lookup p_text_at = some ⟨oc_text_at, od_text_at, .func (PySem.W.fnOf "text_at" "text_at" (defArgs (topS 12)) (defBody (topS 12)) (defScope (topS 12)) .none kV_text_at dc_text_at pm_text_at an_text_at cd_text_at ct_text_at), sl_text_at⟩) (d_text_at : PySem.W.codeIn K cd_text_at "text_at" = true) (k_text_at : PySem.W.keepIn K (.ref p_text_at) = true)
    {p_patch_misfit : Addr} {od_patch_misfit an_patch_misfit : Option Addr} {sl_patch_misfit : Array (Option Value)} {oc_patch_misfit kV_patch_misfit dc_patch_misfit pm_patch_misfit cd_patch_misfit ct_patch_misfit : Value}
    (a_patch_misfit : PySem.W.nsIn K mainGlobals "patch_misfit" = some (some (.ref p_patch_misfit))) (l_patch_misfit : K.lookup p_patch_misfit = some ⟨oc_patch_misfit, od_patch_misfit, .func (PySem.W.fnOf "patch_misfit" "patch_misfit" (defArgs (topS 30)) (defBody (topS 30)) (defScope (topS 30)) .none kV_patch_misfit dc_patch_misfit pm_patch_misfit an_patch_misfit cd_patch_misfit ct_patch_misfit), sl_patch_misfit⟩) (d_patch_misfit : PySem.W.codeIn K cd_patch_misfit "patch_misfit" = true) (k_patch_misfit : PySem.W.keepIn K (.ref p_patch_misfit) = true)
    {p_put_text : Addr} {od_put_text an_put_text : Option Addr} {sl_put_text : Array (Option Value)} {oc_put_text kV_put_text dc_put_text pm_put_text cd_put_text ct_put_text : Value}
    (a_put_text : PySem.W.nsIn K mainGlobals "put_text" = some (some (.ref p_put_text))) (l_put_text : K.lookup p_put_text = some ⟨oc_put_text, od_put_text, .func (PySem.W.fnOf "put_text" "put_text" (defArgs (topS 13)) (defBody (topS 13)) (defScope (topS 13)) .none kV_put_text dc_put_text pm_put_text an_put_text cd_put_text ct_put_text), sl_put_text⟩) (d_put_text : PySem.W.codeIn K cd_put_text "put_text" = true) (k_put_text : PySem.W.keepIn K (.ref p_put_text) = true)
    {p_apply_edit : Addr} {od_apply_edit an_apply_edit : Option Addr} {sl_apply_edit : Array (Option Value)} {oc_apply_edit kV_apply_edit dc_apply_edit pm_apply_edit cd_apply_edit ct_apply_edit : Value}
    (a_apply_edit : PySem.W.nsIn K mainGlobals "apply_edit" = some (some (.ref p_apply_edit))) (l_apply_edit : K.lookup p_apply_edit = some ⟨oc_apply_edit, od_apply_edit, .func (PySem.W.fnOf "apply_edit" "apply_edit" (defArgs (topS 28)) (defBody (topS 28)) (defScope (topS 28)) .none kV_apply_edit dc_apply_edit pm_apply_edit an_apply_edit cd_apply_edit ct_apply_edit), sl_apply_edit⟩) (d_apply_edit : PySem.W.codeIn K cd_apply_edit "apply_edit" = true) (k_apply_edit : PySem.W.keepIn K (.ref p_apply_edit) = true)
    {p_apply_patch : Addr} {od_apply_patch an_apply_patch : Option Addr} {sl_apply_patch : Array (Option Value)} {oc_apply_patch kV_apply_patch dc_apply_patch pm_apply_patch cd_apply_patch ct_apply_patch : Value}
    (a_apply_patch : PySem.W.nsIn K mainGlobals "apply_patch" = some (some (.ref p_apply_patch))) (l_apply_patch : K.lookup p_apply_patch = some ⟨oc_apply_patch, od_apply_patch, .func (PySem.W.fnOf "apply_patch" "apply_patch" (defArgs (topS 31)) (defBody (topS 31)) (defScope (topS 31)) .none kV_apply_patch dc_apply_patch pm_apply_patch an_apply_patch cd_apply_patch ct_apply_patch), sl_apply_patch⟩) (d_apply_patch : PySem.W.codeIn K cd_apply_patch "apply_patch" = true) (k_apply_patch : PySem.W.keepIn K (.ref p_apply_patch) = true)
    {p_trees_along : Addr} {od_trees_along an_trees_along : Option Addr} {sl_trees_along : Array (Option Value)} {oc_trees_along kV_trees_along dc_trees_along pm_trees_along cd_trees_along ct_trees_along : Value}
    (a_trees_along : PySem.W.nsIn K mainGlobals "trees_along" = some (some (.ref p_trees_along))) (l_trees_along : K.lookup p_trees_along = some ⟨oc_trees_along, od_trees_along, .func (PySem.W.fnOf "trees_along" "trees_along" (defArgs (topS 33)) (defBody (topS 33)) (defScope (topS 33)) .none kV_trees_along dc_trees_along pm_trees_along an_trees_along cd_trees_along ct_trees_along), sl_trees_along⟩) (d_trees_along : PySem.W.codeIn K cd_trees_along "trees_along" = true) (k_trees_along : PySem.W.keepIn K (.ref p_trees_along) = true)
    {p_fails_has : Addr} {od_fails_has an_fails_has : Option Addr} {sl_fails_has : Array (Option Value)} {oc_fails_has kV_fails_has dc_fails_has pm_fails_has cd_fails_has ct_fails_has : Value}
    (a_fails_has : PySem.W.nsIn K mainGlobals "fails_has" = some (some (.ref p_fails_has))) (l_fails_has : K.lookup p_fails_has = some ⟨oc_fails_has, od_fails_has, .func (PySem.W.fnOf "fails_has" "fails_has" (defArgs (topS 17)) (defBody (topS 17)) (defScope (topS 17)) .none kV_fails_has dc_fails_has pm_fails_has an_fails_has cd_fails_has ct_fails_has), sl_fails_has⟩) (d_fails_has : PySem.W.codeIn K cd_fails_has "fails_has" = true) (k_fails_has : PySem.W.keepIn K (.ref p_fails_has) = true)
    {p_places : Addr} {od_places an_places : Option Addr} {sl_places : Array (Option Value)} {oc_places kV_places dc_places pm_places cd_places ct_places : Value}
    (a_places : PySem.W.nsIn K mainGlobals "places" = some (some (.ref p_places))) (l_places : K.lookup p_places = some ⟨oc_places, od_places, .func (PySem.W.fnOf "places" "places" (defArgs (topS 9)) (defBody (topS 9)) (defScope (topS 9)) .none kV_places dc_places pm_places an_places cd_places ct_places), sl_places⟩) (d_places : PySem.W.codeIn K cd_places "places" = true) (k_places : PySem.W.keepIn K (.ref p_places) = true)
    {p_fails_lacks : Addr} {od_fails_lacks an_fails_lacks : Option Addr} {sl_fails_lacks : Array (Option Value)} {oc_fails_lacks kV_fails_lacks dc_fails_lacks pm_fails_lacks cd_fails_lacks ct_fails_lacks : Value}
    (a_fails_lacks : PySem.W.nsIn K mainGlobals "fails_lacks" = some (some (.ref p_fails_lacks))) (l_fails_lacks : K.lookup p_fails_lacks = some ⟨oc_fails_lacks, od_fails_lacks, .func (PySem.W.fnOf "fails_lacks" "fails_lacks" (defArgs (topS 18)) (defBody (topS 18)) (defScope (topS 18)) .none kV_fails_lacks dc_fails_lacks pm_fails_lacks an_fails_lacks cd_fails_lacks ct_fails_lacks), sl_fails_lacks⟩) (d_fails_lacks : PySem.W.codeIn K cd_fails_lacks "fails_lacks" = true) (k_fails_lacks : PySem.W.keepIn K (.ref p_fails_lacks) = true)
    {p_lines_with : Addr} {od_lines_with an_lines_with : Option Addr} {sl_lines_with : Array (Option Value)} {oc_lines_with kV_lines_with dc_lines_with pm_lines_with cd_lines_with ct_lines_with : Value}
    (a_lines_with : PySem.W.nsIn K mainGlobals "lines_with" = some (some (.ref p_lines_with))) (l_lines_with : K.lookup p_lines_with = some ⟨oc_lines_with, od_lines_with, .func (PySem.W.fnOf "lines_with" "lines_with" (defArgs (topS 10)) (defBody (topS 10)) (defScope (topS 10)) .none kV_lines_with dc_lines_with pm_lines_with an_lines_with cd_lines_with ct_lines_with), sl_lines_with⟩) (d_lines_with : PySem.W.codeIn K cd_lines_with "lines_with" = true) (k_lines_with : PySem.W.keepIn K (.ref p_lines_with) = true)
    {p_word_places : Addr} {od_word_places an_word_places : Option Addr} {sl_word_places : Array (Option Value)} {oc_word_places kV_word_places dc_word_places pm_word_places cd_word_places ct_word_places : Value}
    (a_word_places : PySem.W.nsIn K mainGlobals "word_places" = some (some (.ref p_word_places))) (l_word_places : K.lookup p_word_places = some ⟨oc_word_places, od_word_places, .func (PySem.W.fnOf "word_places" "word_places" (defArgs (topS 15)) (defBody (topS 15)) (defScope (topS 15)) .none kV_word_places dc_word_places pm_word_places an_word_places cd_word_places ct_word_places), sl_word_places⟩) (d_word_places : PySem.W.codeIn K cd_word_places "word_places" = true) (k_word_places : PySem.W.keepIn K (.ref p_word_places) = true)
    {p_fails_most : Addr} {od_fails_most an_fails_most : Option Addr} {sl_fails_most : Array (Option Value)} {oc_fails_most kV_fails_most dc_fails_most pm_fails_most cd_fails_most ct_fails_most : Value}
    (a_fails_most : PySem.W.nsIn K mainGlobals "fails_most" = some (some (.ref p_fails_most))) (l_fails_most : K.lookup p_fails_most = some ⟨oc_fails_most, od_fails_most, .func (PySem.W.fnOf "fails_most" "fails_most" (defArgs (topS 19)) (defBody (topS 19)) (defScope (topS 19)) .none kV_fails_most dc_fails_most pm_fails_most an_fails_most cd_fails_most ct_fails_most), sl_fails_most⟩) (d_fails_most : PySem.W.codeIn K cd_fails_most "fails_most" = true) (k_fails_most : PySem.W.keepIn K (.ref p_fails_most) = true)
    {p_line_places : Addr} {od_line_places an_line_places : Option Addr} {sl_line_places : Array (Option Value)} {oc_line_places kV_line_places dc_line_places pm_line_places cd_line_places ct_line_places : Value}
    (a_line_places : PySem.W.nsIn K mainGlobals "line_places" = some (some (.ref p_line_places))) (l_line_places : K.lookup p_line_places = some ⟨oc_line_places, od_line_places, .func (PySem.W.fnOf "line_places" "line_places" (defArgs (topS 14)) (defBody (topS 14)) (defScope (topS 14)) .none kV_line_places dc_line_places pm_line_places an_line_places cd_line_places ct_line_places), sl_line_places⟩) (d_line_places : PySem.W.codeIn K cd_line_places "line_places" = true) (k_line_places : PySem.W.keepIn K (.ref p_line_places) = true)
    {p_fails_ties : Addr} {od_fails_ties an_fails_ties : Option Addr} {sl_fails_ties : Array (Option Value)} {oc_fails_ties kV_fails_ties dc_fails_ties pm_fails_ties cd_fails_ties ct_fails_ties : Value}
    (a_fails_ties : PySem.W.nsIn K mainGlobals "fails_ties" = some (some (.ref p_fails_ties))) (l_fails_ties : K.lookup p_fails_ties = some ⟨oc_fails_ties, od_fails_ties, .func (PySem.W.fnOf "fails_ties" "fails_ties" (defArgs (topS 20)) (defBody (topS 20)) (defScope (topS 20)) .none kV_fails_ties dc_fails_ties pm_fails_ties an_fails_ties cd_fails_ties ct_fails_ties), sl_fails_ties⟩) (d_fails_ties : PySem.W.codeIn K cd_fails_ties "fails_ties" = true) (k_fails_ties : PySem.W.keepIn K (.ref p_fails_ties) = true)
    {p_check_failure : Addr} {od_check_failure an_check_failure : Option Addr} {sl_check_failure : Array (Option Value)} {oc_check_failure kV_check_failure dc_check_failure pm_check_failure cd_check_failure ct_check_failure : Value}
    (a_check_failure : PySem.W.nsIn K mainGlobals "check_failure" = some (some (.ref p_check_failure))) (l_check_failure : K.lookup p_check_failure = some ⟨oc_check_failure, od_check_failure, .func (PySem.W.fnOf "check_failure" "check_failure" (defArgs (topS 21)) (defBody (topS 21)) (defScope (topS 21)) .none kV_check_failure dc_check_failure pm_check_failure an_check_failure cd_check_failure ct_check_failure), sl_check_failure⟩) (d_check_failure : PySem.W.codeIn K cd_check_failure "check_failure" = true) (k_check_failure : PySem.W.keepIn K (.ref p_check_failure) = true)
    {p_first_red : Addr} {od_first_red an_first_red : Option Addr} {sl_first_red : Array (Option Value)} {oc_first_red kV_first_red dc_first_red pm_first_red cd_first_red ct_first_red : Value}
    (a_first_red : PySem.W.nsIn K mainGlobals "first_red" = some (some (.ref p_first_red))) (l_first_red : K.lookup p_first_red = some ⟨oc_first_red, od_first_red, .func (PySem.W.fnOf "first_red" "first_red" (defArgs (topS 22)) (defBody (topS 22)) (defScope (topS 22)) .none kV_first_red dc_first_red pm_first_red an_first_red cd_first_red ct_first_red), sl_first_red⟩) (d_first_red : PySem.W.codeIn K cd_first_red "first_red" = true) (k_first_red : PySem.W.keepIn K (.ref p_first_red) = true)
    {p_green : Addr} {od_green an_green : Option Addr} {sl_green : Array (Option Value)} {oc_green kV_green dc_green pm_green cd_green ct_green : Value}
    (a_green : PySem.W.nsIn K mainGlobals "green" = some (some (.ref p_green))) (l_green : K.lookup p_green = some ⟨oc_green, od_green, .func (PySem.W.fnOf "green" "green" (defArgs (topS 23)) (defBody (topS 23)) (defScope (topS 23)) .none kV_green dc_green pm_green an_green cd_green ct_green), sl_green⟩) (d_green : PySem.W.codeIn K cd_green "green" = true) (k_green : PySem.W.keepIn K (.ref p_green) = true)
    {p_culprit : Addr} {od_culprit an_culprit : Option Addr} {sl_culprit : Array (Option Value)} {oc_culprit kV_culprit dc_culprit pm_culprit cd_culprit ct_culprit : Value}
    (a_culprit : PySem.W.nsIn K mainGlobals "culprit" = some (some (.ref p_culprit))) (l_culprit : K.lookup p_culprit = some ⟨oc_culprit, od_culprit, .func (PySem.W.fnOf "culprit" "culprit" (defArgs (topS 35)) (defBody (topS 35)) (defScope (topS 35)) .none kV_culprit dc_culprit pm_culprit an_culprit cd_culprit ct_culprit), sl_culprit⟩) (d_culprit : PySem.W.codeIn K cd_culprit "culprit" = true) (k_culprit : PySem.W.keepIn K (.ref p_culprit) = true)
    {p_law_told_v12 : Addr} {od_law_told_v12 an_law_told_v12 : Option Addr} {sl_law_told_v12 : Array (Option Value)} {oc_law_told_v12 kV_law_told_v12 dc_law_told_v12 pm_law_told_v12 cd_law_told_v12 ct_law_told_v12 : Value}
    (a_law_told_v12 : PySem.W.nsIn K mainGlobals "_law_told" = some (some (.ref p_law_told_v12))) (l_law_told_v12 : K.lookup p_law_told_v12 = some ⟨oc_law_told_v12, od_law_told_v12, .func (PySem.W.fnOf "_law_told" "_law_told" (defArgs (topS 56)) (defBody (topS 56)) (defScope (topS 56)) .none kV_law_told_v12 dc_law_told_v12 pm_law_told_v12 an_law_told_v12 cd_law_told_v12 ct_law_told_v12), sl_law_told_v12⟩) (d_law_told_v12 : PySem.W.codeIn K cd_law_told_v12 "_law_told" = true) (k_law_told_v12 : PySem.W.keepIn K (.ref p_law_told_v12) = true)
    {p_is_whole : Addr} {od_is_whole an_is_whole : Option Addr} {sl_is_whole : Array (Option Value)} {oc_is_whole kV_is_whole dc_is_whole pm_is_whole cd_is_whole ct_is_whole : Value}
    (a_is_whole : PySem.W.nsIn K mainGlobals "is_whole" = some (some (.ref p_is_whole))) (l_is_whole : K.lookup p_is_whole = some ⟨oc_is_whole, od_is_whole, .func (PySem.W.fnOf "is_whole" "is_whole" (defArgs (topS 6)) (defBody (topS 6)) (defScope (topS 6)) .none kV_is_whole dc_is_whole pm_is_whole an_is_whole cd_is_whole ct_is_whole), sl_is_whole⟩) (d_is_whole : PySem.W.codeIn K cd_is_whole "is_whole" = true) (k_is_whole : PySem.W.keepIn K (.ref p_is_whole) = true)
    {p_is_index : Addr} {od_is_index an_is_index : Option Addr} {sl_is_index : Array (Option Value)} {oc_is_index kV_is_index dc_is_index pm_is_index cd_is_index ct_is_index : Value}
    (a_is_index : PySem.W.nsIn K mainGlobals "is_index" = some (some (.ref p_is_index))) (l_is_index : K.lookup p_is_index = some ⟨oc_is_index, od_is_index, .func (PySem.W.fnOf "is_index" "is_index" (defArgs (topS 7)) (defBody (topS 7)) (defScope (topS 7)) .none kV_is_index dc_is_index pm_is_index an_is_index cd_is_index ct_is_index), sl_is_index⟩) (d_is_index : PySem.W.codeIn K cd_is_index "is_index" = true) (k_is_index : PySem.W.keepIn K (.ref p_is_index) = true)
    {p_is_culprit : Addr} {od_is_culprit an_is_culprit : Option Addr} {sl_is_culprit : Array (Option Value)} {oc_is_culprit kV_is_culprit dc_is_culprit pm_is_culprit cd_is_culprit ct_is_culprit : Value}
    (a_is_culprit : PySem.W.nsIn K mainGlobals "is_culprit" = some (some (.ref p_is_culprit))) (l_is_culprit : K.lookup p_is_culprit = some ⟨oc_is_culprit, od_is_culprit, .func (PySem.W.fnOf "is_culprit" "is_culprit" (defArgs (topS 36)) (defBody (topS 36)) (defScope (topS 36)) .none kV_is_culprit dc_is_culprit pm_is_culprit an_is_culprit cd_is_culprit ct_is_culprit), sl_is_culprit⟩) (d_is_culprit : PySem.W.codeIn K cd_is_culprit "is_culprit" = true) (k_is_culprit : PySem.W.keepIn K (.ref p_is_culprit) = true)
    {p_law : Addr} {od_law an_law : Option Addr} {sl_law : Array (Option Value)} {oc_law kV_law dc_law pm_law cd_law ct_law : Value}
    (a_law : PySem.W.nsIn K mainGlobals "law" = some (some (.ref p_law))) (l_law : K.lookup p_law = some ⟨oc_law, od_law, .func (PySem.W.fnOf "law" "law" (defArgs (topS 58)) (defBody (topS 58)) (defScope (topS 58)) .none kV_law dc_law pm_law an_law cd_law ct_law), sl_law⟩) (d_law : PySem.W.codeIn K cd_law "law" = true) (k_law : PySem.W.keepIn K (.ref p_law) = true)
    (z_int : PySem.W.nsIn K mainGlobals "int" = some none)
    (z_abs : PySem.W.nsIn K mainGlobals "abs" = some none)
    (z_len : PySem.W.nsIn K mainGlobals "len" = some none)
    (z_sorted : PySem.W.nsIn K mainGlobals "sorted" = some none)
    (z_range : PySem.W.nsIn K mainGlobals "range" = some none)
    (z_tuple : PySem.W.nsIn K mainGlobals "tuple" = some none)
    (z_min : PySem.W.nsIn K mainGlobals "min" = some none)
    (z_isinstance : PySem.W.nsIn K mainGlobals "isinstance" = some none)
    (z_bool : PySem.W.nsIn K mainGlobals "bool" = some none)
    (z_str : PySem.W.nsIn K mainGlobals "str" = some none)
    (z_enumerate : PySem.W.nsIn K mainGlobals "enumerate" = some none)
    (z_super : PySem.W.nsIn K mainGlobals "super" = some none)
    {p_Misfit : Addr} (a_Misfit : PySem.W.nsIn K mainGlobals "Misfit" = some (some (.ref p_Misfit)))
    {p_NotGreen : Addr} (a_NotGreen : PySem.W.nsIn K mainGlobals "NotGreen" = some (some (.ref p_NotGreen)))
    {p_NotRed : Addr} (a_NotRed : PySem.W.nsIn K mainGlobals "NotRed" = some (some (.ref p_NotRed)))
    {p_ReviewError : Addr} (a_ReviewError : PySem.W.nsIn K mainGlobals "ReviewError" = some (some (.ref p_ReviewError)))
    {nm_Misfit q_Misfit : Str} {N_Misfit : Addr} {bs_Misfit bm_Misfit : List Value} {sn_Misfit : List Str} {su_Misfit : List Value} {ab_Misfit : Bool} {co_Misfit : Option Bool} {dd_Misfit : Option Addr} {k0_Misfit k1_Misfit k2_Misfit k3_Misfit k5_Misfit : Option Value}
    (l_Misfit : K.lookup p_Misfit = some (excClassObj nm_Misfit q_Misfit p_Misfit N_Misfit bs_Misfit bm_Misfit true sn_Misfit su_Misfit ab_Misfit co_Misfit dd_Misfit k0_Misfit k1_Misfit k2_Misfit k3_Misfit k5_Misfit "ValueError.__new__")) (r_Misfit : PySem.HandSPX.refsVE bm_Misfit = true)
    {i_Misfit cc_Misfit c_Misfit : Addr} {oc_Misfit doc_Misfit pm_Misfit ct_Misfit : Value} {od_Misfit : Option Addr} {sl_Misfit : Array (Option Value)}
    (n_Misfit : PySem.W.findIn K (.ref p_Misfit) "__init__" = some (some (.ref i_Misfit))) (j_Misfit : K.lookup i_Misfit = some ⟨oc_Misfit, od_Misfit, .func ((initF (topS 2) "Misfit.__init__" cc_Misfit c_Misfit).fd doc_Misfit pm_Misfit ct_Misfit), sl_Misfit⟩)
    (b_Misfit : excB K PySem.Challenge.pw_signoff_k54_culprit_by_halving p_Misfit i_Misfit cc_Misfit c_Misfit "Misfit.__init__" ["path", "hunk"] = true)
    {nm_NotGreen q_NotGreen : Str} {N_NotGreen : Addr} {bs_NotGreen bm_NotGreen : List Value} {sn_NotGreen : List Str} {su_NotGreen : List Value} {ab_NotGreen : Bool} {co_NotGreen : Option Bool} {dd_NotGreen : Option Addr} {k0_NotGreen k1_NotGreen k2_NotGreen k3_NotGreen k5_NotGreen : Option Value}
    (l_NotGreen : K.lookup p_NotGreen = some (excClassObj nm_NotGreen q_NotGreen p_NotGreen N_NotGreen bs_NotGreen bm_NotGreen true sn_NotGreen su_NotGreen ab_NotGreen co_NotGreen dd_NotGreen k0_NotGreen k1_NotGreen k2_NotGreen k3_NotGreen k5_NotGreen "ValueError.__new__")) (r_NotGreen : PySem.HandSPX.refsVE bm_NotGreen = true)
    {i_NotGreen cc_NotGreen c_NotGreen : Addr} {oc_NotGreen doc_NotGreen pm_NotGreen ct_NotGreen : Value} {od_NotGreen : Option Addr} {sl_NotGreen : Array (Option Value)}
    (n_NotGreen : PySem.W.findIn K (.ref p_NotGreen) "__init__" = some (some (.ref i_NotGreen))) (j_NotGreen : K.lookup i_NotGreen = some ⟨oc_NotGreen, od_NotGreen, .func ((initF (topS 3) "NotGreen.__init__" cc_NotGreen c_NotGreen).fd doc_NotGreen pm_NotGreen ct_NotGreen), sl_NotGreen⟩)
    (b_NotGreen : excB K PySem.Challenge.pw_signoff_k54_culprit_by_halving p_NotGreen i_NotGreen cc_NotGreen c_NotGreen "NotGreen.__init__" ["check"] = true)
    (e0_NotRed : PySem.W.excIn K p_NotRed [.type "ValueError", .type "Exception", .type "BaseException", .type "object"] "ValueError.__new__" = true) (e1_NotRed : PySem.W.keepIn K (.ref p_NotRed) = true) (e2_NotRed : PySem.W.subIn K (.ref p_NotRed) (.type "BaseException") = some true) (e3_NotRed : PySem.W.typeIn K (.ref p_NotRed) = some (.type "type"))
    (t_Misfit : tabB K ([("Misfit", p_Misfit), ("NotGreen", p_NotGreen), ("NotRed", p_NotRed)] : List (Str × Addr)) (.ref p_Misfit) Tb_Misfit = true)
    (t_NotGreen : tabB K ([("Misfit", p_Misfit), ("NotGreen", p_NotGreen), ("NotRed", p_NotRed)] : List (Str × Addr)) (.ref p_NotGreen) Tb_NotGreen = true)
    (t_NotRed : tabB K ([("Misfit", p_Misfit), ("NotGreen", p_NotGreen), ("NotRed", p_NotRed)] : List (Str × Addr)) (.ref p_NotRed) Tb_NotRed = true)
    (t_ReviewError : tabB K ([("Misfit", p_Misfit), ("NotGreen", p_NotGreen), ("NotRed", p_NotRed)] : List (Str × Addr)) (.ref p_ReviewError) Tb_ReviewError = true)
    (xf : (([("Misfit", p_Misfit), ("NotGreen", p_NotGreen), ("NotRed", p_NotRed)] : List (Str × Addr)).all fun p : Str × Addr => xfkB K p.2 FL) = true) :
    ∃ fd : FuncData, (∀ (s : Shared) (v : Value), BindsTo s fd ⟨[v], []⟩ [("script", v)]) ∧ ∀ base : Heap, K.In base → base.Ns mainGlobals mg → FnOk PySem.Challenge.pw_signoff_k54_culprit_by_halving w K mg base (DN.CX PySem.Challenge.pw_signoff_k54_culprit_by_halving w) 9 fa fd ["script"] (spS K 63) := by
  have e := hfa.symm.trans (PySem.W.mg_of X G a_law)
  cases e
  have f_law_bag := fun_mk (st := topS 38) l_law_bag d_law_bag k_law_bag
  have f_law_take := fun_mk (st := topS 39) l_law_take d_law_take k_law_take
  have f_law_paths := fun_mk (st := topS 42) l_law_paths d_law_paths k_law_paths
  have f_law_line := fun_mk (st := topS 40) l_law_line d_law_line k_law_line
  have f_law_base := fun_mk (st := topS 45) l_law_base d_law_base k_law_base
  have f_law_names := fun_mk (st := topS 41) l_law_names d_law_names k_law_names
  have f_law_edit := fun_mk (st := topS 46) l_law_edit d_law_edit k_law_edit
  have f_law_text := fun_mk (st := topS 43) l_law_text d_law_text k_law_text
  have f_law_patch := fun_mk (st := topS 47) l_law_patch d_law_patch k_law_patch
  have f_law_put := fun_mk (st := topS 44) l_law_put d_law_put k_law_put
  have f_law_apply := fun_mk (st := topS 48) l_law_apply d_law_apply k_law_apply
  have f_law_changes := fun_mk (st := topS 49) l_law_changes d_law_changes k_law_changes
  have f_law_along := fun_mk (st := topS 50) l_law_along d_law_along k_law_along
  have f_law_spots := fun_mk (st := topS 54) l_law_spots d_law_spots k_law_spots
  have f_law_check := fun_mk (st := topS 53) l_law_check d_law_check k_law_check
  have f_law_fails := fun_mk (st := topS 51) l_law_fails d_law_fails k_law_fails
  have f_law_red := fun_mk (st := topS 52) l_law_red d_law_red k_law_red
  have f_law_same := fun_mk (st := topS 55) l_law_same d_law_same k_law_same
  have f_law_due_v13 := fun_mk (st := topS 57) l_law_due_v13 d_law_due_v13 k_law_due_v13
  have f_hunk_end := fun_mk (st := topS 25) l_hunk_end d_hunk_end k_hunk_end
  have f_misfit := fun_mk (st := topS 27) l_misfit d_misfit k_misfit
  have f_text_at := fun_mk (st := topS 12) l_text_at d_text_at k_text_at
  have f_patch_misfit := fun_mk (st := topS 30) l_patch_misfit d_patch_misfit k_patch_misfit
  have f_put_text := fun_mk (st := topS 13) l_put_text d_put_text k_put_text
  have f_apply_edit := fun_mk (st := topS 28) l_apply_edit d_apply_edit k_apply_edit
  have f_apply_patch := fun_mk (st := topS 31) l_apply_patch d_apply_patch k_apply_patch
  have f_trees_along := fun_mk (st := topS 33) l_trees_along d_trees_along k_trees_along
  have f_fails_has := fun_mk (st := topS 17) l_fails_has d_fails_has k_fails_has
  have f_places := fun_mk (st := topS 9) l_places d_places k_places
  have f_fails_lacks := fun_mk (st := topS 18) l_fails_lacks d_fails_lacks k_fails_lacks
  have f_lines_with := fun_mk (st := topS 10) l_lines_with d_lines_with k_lines_with
  have f_word_places := fun_mk (st := topS 15) l_word_places d_word_places k_word_places
  have f_fails_most := fun_mk (st := topS 19) l_fails_most d_fails_most k_fails_most
  have f_line_places := fun_mk (st := topS 14) l_line_places d_line_places k_line_places
  have f_fails_ties := fun_mk (st := topS 20) l_fails_ties d_fails_ties k_fails_ties
  have f_check_failure := fun_mk (st := topS 21) l_check_failure d_check_failure k_check_failure
  have f_first_red := fun_mk (st := topS 22) l_first_red d_first_red k_first_red
  have f_green := fun_mk (st := topS 23) l_green d_green k_green
  have f_culprit := fun_mk (st := topS 35) l_culprit d_culprit k_culprit
  have f_law_told_v12 := fun_mk (st := topS 56) l_law_told_v12 d_law_told_v12 k_law_told_v12
  have f_is_whole := fun_mk (st := topS 6) l_is_whole d_is_whole k_is_whole
  have f_is_index := fun_mk (st := topS 7) l_is_index d_is_index k_is_index
  have f_is_culprit := fun_mk (st := topS 36) l_is_culprit d_is_culprit k_is_culprit
  have f_law := fun_mk (st := topS 58) l_law d_law k_law
  refine ⟨PySem.W.fnOf "law" "law" (defArgs (topS 58)) (defBody (topS 58)) (defScope (topS 58)) .none kV_law dc_law pm_law an_law cd_law ct_law, fun s v => .of_eq rfl, fun base _ _ => ?_⟩
  let g : GC := ⟨PySem.Challenge.pw_signoff_k54_culprit_by_halving, w, K, mg, base, cmOf ([("Misfit", p_Misfit), ("NotGreen", p_NotGreen), ("NotRed", p_NotRed)] : List (Str × Addr)), none⟩
  have hx : g.xn = none := rfl
  have hxf : ∀ n C, g.cm n = some C → XfK g.K C FL := xf_mk (G := g) (l := ([("Misfit", p_Misfit), ("NotGreen", p_NotGreen), ("NotRed", p_NotRed)] : List (Str × Addr))) rfl xf
  have b_int : GEok g "int" .blt := PySem.W.mg_none_of X G z_int
  have b_abs : GEok g "abs" .blt := PySem.W.mg_none_of X G z_abs
  have b_len : GEok g "len" .blt := PySem.W.mg_none_of X G z_len
  have b_sorted : GEok g "sorted" .blt := PySem.W.mg_none_of X G z_sorted
  have b_range : GEok g "range" .blt := PySem.W.mg_none_of X G z_range
  have b_tuple : GEok g "tuple" .blt := PySem.W.mg_none_of X G z_tuple
  have b_min : GEok g "min" .blt := PySem.W.mg_none_of X G z_min
  have b_isinstance : GEok g "isinstance" .blt := PySem.W.mg_none_of X G z_isinstance
  have b_bool : GEok g "bool" .blt := PySem.W.mg_none_of X G z_bool
  have b_str : GEok g "str" .blt := PySem.W.mg_none_of X G z_str
  have b_enumerate : GEok g "enumerate" .blt := PySem.W.mg_none_of X G z_enumerate
  have b_super : GEok g "super" .blt := PySem.W.mg_none_of X G z_super
  have x_Misfit : GEok g "Misfit" (.exc ["path", "hunk"] 1 Tb_Misfit) := ⟨exc_mk (G := g) it_Misfit (PySem.W.mg_of X G a_Misfit) (by rfl) l_Misfit r_Misfit j_Misfit b_Misfit (PySem.W.mg_none_of X G z_super) (by rfl), _, PySem.W.mg_of X G a_Misfit, tab_mk (G := g) (l := ([("Misfit", p_Misfit), ("NotGreen", p_NotGreen), ("NotRed", p_NotRed)] : List (Str × Addr))) rfl t_Misfit⟩
  have x_NotGreen : GEok g "NotGreen" (.exc ["check"] 1 Tb_NotGreen) := ⟨exc_mk (G := g) it_NotGreen (PySem.W.mg_of X G a_NotGreen) (by rfl) l_NotGreen r_NotGreen j_NotGreen b_NotGreen (PySem.W.mg_none_of X G z_super) (by rfl), _, PySem.W.mg_of X G a_NotGreen, tab_mk (G := g) (l := ([("Misfit", p_Misfit), ("NotGreen", p_NotGreen), ("NotRed", p_NotRed)] : List (Str × Addr))) rfl t_NotGreen⟩
  have x_NotRed : GEok g "NotRed" (.exc0 Tb_NotRed) := ⟨⟨_, PySem.W.mg_of X G a_NotRed, by rfl, e0_NotRed, e1_NotRed, e2_NotRed, e3_NotRed⟩, _, PySem.W.mg_of X G a_NotRed, tab_mk (G := g) (l := ([("Misfit", p_Misfit), ("NotGreen", p_NotGreen), ("NotRed", p_NotRed)] : List (Str × Addr))) rfl t_NotRed⟩
  have x_ReviewError : GEok g "ReviewError" (.cls Tb_ReviewError) := ⟨_, PySem.W.mg_of X G a_ReviewError, tab_mk (G := g) (l := ([("Misfit", p_Misfit), ("NotGreen", p_NotGreen), ("NotRed", p_NotRed)] : List (Str × Addr))) rfl t_ReviewError⟩
  have g_law_bag : GEok g "_law_bag" (.fn 1 1 F_law_bag) := ge_law_bag hx hxf f_law_bag (PySem.W.mg_of X G a_law_bag) b_int b_abs b_len
  have g_law_take : GEok g "_law_take" (.fn 1 2 F_law_take) := ge_law_take hx hxf f_law_take (PySem.W.mg_of X G a_law_take) b_len b_int
  have g_law_paths : GEok g "_law_paths" (.fn 2 2 F_law_paths) := ge_law_paths hx hxf f_law_paths (PySem.W.mg_of X G a_law_paths) g_law_take b_sorted b_range
  have g_law_line : GEok g "_law_line" (.fn 2 2 F_law_line) := ge_law_line hx hxf f_law_line (PySem.W.mg_of X G a_law_line) g_law_take b_range
  have g_law_base : GEok g "_law_base" (.fn 3 3 F_law_base) := ge_law_base hx hxf f_law_base (PySem.W.mg_of X G a_law_base) g_law_take g_law_line b_tuple b_range
  have g_law_names : GEok g "_law_names" (.fn 2 2 F_law_names) := ge_law_names hx hxf f_law_names (PySem.W.mg_of X G a_law_names) g_law_take b_range b_int
  have g_law_edit : GEok g "_law_edit" (.fn 3 4 F_law_edit) := ge_law_edit hx hxf f_law_edit (PySem.W.mg_of X G a_law_edit) g_law_take g_law_line b_range b_min b_len b_tuple
  have g_law_text : GEok g "_law_text" (.fn 1 2 F_law_text) := ge_law_text hx hxf f_law_text (PySem.W.mg_of X G a_law_text) 
  have g_law_patch : GEok g "_law_patch" (.fn 4 4 F_law_patch) := ge_law_patch hx hxf f_law_patch (PySem.W.mg_of X G a_law_patch) g_law_take g_law_edit g_law_text b_len b_tuple
  have g_law_put : GEok g "_law_put" (.fn 1 3 F_law_put) := ge_law_put hx hxf f_law_put (PySem.W.mg_of X G a_law_put) b_tuple b_sorted
  have g_law_apply : GEok g "_law_apply" (.fn 2 2 F_law_apply) := ge_law_apply hx hxf f_law_apply (PySem.W.mg_of X G a_law_apply) g_law_text g_law_put b_len
  have g_law_changes : GEok g "_law_changes" (.fn 5 6 F_law_changes) := ge_law_changes hx hxf f_law_changes (PySem.W.mg_of X G a_law_changes) g_law_patch g_law_apply g_law_take b_len b_tuple
  have g_law_along : GEok g "_law_along" (.fn 3 2 F_law_along) := ge_law_along hx hxf f_law_along (PySem.W.mg_of X G a_law_along) g_law_apply
  have g_law_spots : GEok g "_law_spots" (.fn 1 1 F_law_spots) := ge_law_spots hx hxf f_law_spots (PySem.W.mg_of X G a_law_spots) 
  have g_law_check : GEok g "_law_check" (.fn 3 4 F_law_check) := ge_law_check hx hxf f_law_check (PySem.W.mg_of X G a_law_check) g_law_line g_law_take b_len
  have g_law_fails : GEok g "_law_fails" (.fn 1 2 F_law_fails) := ge_law_fails hx hxf f_law_fails (PySem.W.mg_of X G a_law_fails) b_range b_len b_int
  have g_law_red : GEok g "_law_red" (.fn 2 2 F_law_red) := ge_law_red hx hxf f_law_red (PySem.W.mg_of X G a_law_red) g_law_fails b_range b_len
  have g_law_same : GEok g "_law_same" (.fn 6 2 F_law_same) := ge_law_same_6 hx hxf f_law_same (PySem.W.mg_of X G a_law_same) b_isinstance b_tuple b_len b_range b_bool b_int b_str
  have g_law_due_v13 : GEok g "_law_due" (.fn 1 1 F_law_due_v13) := ge_law_due_v13 hx hxf f_law_due_v13 (PySem.W.mg_of X G a_law_due_v13) b_len b_range
  have g_hunk_end : GEok g "hunk_end" (.fn 1 1 F_hunk_end) := ge_hunk_end hx hxf f_hunk_end (PySem.W.mg_of X G a_hunk_end) b_len
  have g_misfit : GEok g "misfit" (.fn 2 2 F_misfit) := ge_misfit hx hxf f_misfit (PySem.W.mg_of X G a_misfit) g_hunk_end b_enumerate b_len
  have g_text_at : GEok g "text_at" (.fn 1 2 F_text_at) := ge_text_at hx hxf f_text_at (PySem.W.mg_of X G a_text_at) 
  have g_patch_misfit : GEok g "patch_misfit" (.fn 3 2 F_patch_misfit) := ge_patch_misfit hx hxf f_patch_misfit (PySem.W.mg_of X G a_patch_misfit) g_misfit g_text_at
  have g_put_text : GEok g "put_text" (.fn 1 3 F_put_text) := ge_put_text hx hxf f_put_text (PySem.W.mg_of X G a_put_text) b_tuple b_sorted
  have g_apply_edit : GEok g "apply_edit" (.fn 3 2 F_apply_edit) := ge_apply_edit hx hxf f_apply_edit (PySem.W.mg_of X G a_apply_edit) g_misfit g_hunk_end b_tuple x_Misfit
  have g_apply_patch : GEok g "apply_patch" (.fn 4 2 F_apply_patch) := ge_apply_patch hx hxf f_apply_patch (PySem.W.mg_of X G a_apply_patch) g_patch_misfit g_put_text g_apply_edit g_text_at x_Misfit
  have g_trees_along : GEok g "trees_along" (.fn 5 2 F_trees_along) := ge_trees_along hx hxf f_trees_along (PySem.W.mg_of X G a_trees_along) g_apply_patch b_tuple
  have g_fails_has : GEok g "fails_has" (.fn 2 3 F_fails_has) := ge_fails_has hx hxf f_fails_has (PySem.W.mg_of X G a_fails_has) g_text_at b_len
  have g_places : GEok g "places" (.fn 1 2 F_places) := ge_places hx hxf f_places (PySem.W.mg_of X G a_places) b_tuple b_enumerate
  have g_fails_lacks : GEok g "fails_lacks" (.fn 2 3 F_fails_lacks) := ge_fails_lacks hx hxf f_fails_lacks (PySem.W.mg_of X G a_fails_lacks) g_places g_text_at
  have g_lines_with : GEok g "lines_with" (.fn 1 2 F_lines_with) := ge_lines_with hx hxf f_lines_with (PySem.W.mg_of X G a_lines_with) b_tuple b_enumerate
  have g_word_places : GEok g "word_places" (.fn 2 2 F_word_places) := ge_word_places hx hxf f_word_places (PySem.W.mg_of X G a_word_places) g_lines_with b_tuple
  have g_fails_most : GEok g "fails_most" (.fn 3 3 F_fails_most) := ge_fails_most hx hxf f_fails_most (PySem.W.mg_of X G a_fails_most) g_word_places b_len
  have g_line_places : GEok g "line_places" (.fn 2 2 F_line_places) := ge_line_places hx hxf f_line_places (PySem.W.mg_of X G a_line_places) g_places b_tuple
  have g_fails_ties : GEok g "fails_ties" (.fn 3 3 F_fails_ties) := ge_fails_ties hx hxf f_fails_ties (PySem.W.mg_of X G a_fails_ties) g_line_places
  have g_check_failure : GEok g "check_failure" (.fn 4 2 F_check_failure) := ge_check_failure hx hxf f_check_failure (PySem.W.mg_of X G a_check_failure) g_fails_has g_fails_lacks g_fails_most g_fails_ties
  have g_first_red : GEok g "first_red" (.fn 5 2 F_first_red) := ge_first_red hx hxf f_first_red (PySem.W.mg_of X G a_first_red) g_check_failure b_enumerate
  have g_green : GEok g "green" (.fn 6 2 F_green) := ge_green hx hxf f_green (PySem.W.mg_of X G a_green) g_first_red
  have g_culprit : GEok g "culprit" (.fn 7 3 F_culprit) := ge_culprit hx hxf f_culprit (PySem.W.mg_of X G a_culprit) g_trees_along g_first_red g_green b_len b_tuple x_NotGreen x_NotRed
  have g_law_told_v12 : GEok g "_law_told" (.fn 8 3 F_law_told_v12) := ge_law_told_v12 hx hxf f_law_told_v12 (PySem.W.mg_of X G a_law_told_v12) g_culprit b_isinstance x_NotGreen x_NotRed x_ReviewError
  have g_is_whole : GEok g "is_whole" (.fn 1 1 F_is_whole) := ge_is_whole hx hxf f_is_whole (PySem.W.mg_of X G a_is_whole) b_isinstance b_bool b_int
  have g_is_index : GEok g "is_index" (.fn 2 2 F_is_index) := ge_is_index hx hxf f_is_index (PySem.W.mg_of X G a_is_index) g_is_whole
  have g_is_culprit : GEok g "is_culprit" (.fn 7 4 F_is_culprit) := ge_is_culprit hx hxf f_is_culprit (PySem.W.mg_of X G a_is_culprit) g_is_index g_trees_along g_green b_len
  exact FnOk.imp (cDef_ok (G := g) hx hxf (gok_cons g_law_bag (gok_cons g_law_take (gok_cons g_law_paths (gok_cons g_law_base (gok_cons g_law_names (gok_cons g_law_changes (gok_cons g_law_along (gok_cons g_law_spots (gok_cons g_law_check (gok_cons g_law_fails (gok_cons g_law_red (gok_cons g_law_same (gok_cons g_law_due_v13 (gok_cons g_law_told_v12 (gok_cons g_is_culprit (gok_cons b_range (gok_cons b_tuple gok_nil))))))))))))))))) f_law sc_law c_law) fun vs H Q E h => (lsp_script (G := g) (F := F_law) law_true h : LSp g F_law 1 vs H Q E)
end SG
open PySem PySem.W PyProof.Rows
set_option maxHeartbeats 0 in
theorem PySem.Challenge.cw_signoff_k54_culprit_by_halving_holds : PySem.Challenge.rw_signoff_k54_culprit_by_halving.Holds := by
  w_on; o_law; k_head; (case hw => w_witness2)
  k_fill
  refine L2.walk_of (l := PySem.Challenge.rw_signoff_k54_culprit_by_halving) (n := 63) (k := 9) (x := "script") (CX := fun w => DN.CX PySem.Challenge.pw_signoff_k54_culprit_by_halving w) (sp := fun w => DN.spS _ 63) rfl (by decide) rfl ⟨by decide, by decide, by decide⟩ (fun w h Y => PySem.W.kIn_of Y) ?F (fun w H a ns hl o s => ⟨a, ns, rfl, hl, s, o, fun _ => rfl⟩) (fun _ _ _ _ _ h => DN.cx_end h)
  case F =>
    intro w mg fa h KX G hmg
    refine' SG.all_mk KX G hmg ?a_law_bag ?l_law_bag ?d_law_bag ?k_law_bag ?a_law_take ?l_law_take ?d_law_take ?k_law_take ?a_law_paths ?l_law_paths ?d_law_paths ?k_law_paths ?a_law_line ?l_law_line ?d_law_line ?k_law_line ?a_law_base ?l_law_base ?d_law_base ?k_law_base ?a_law_names ?l_law_names ?d_law_names ?k_law_names ?a_law_edit ?l_law_edit ?d_law_edit ?k_law_edit ?a_law_text ?l_law_text ?d_law_text ?k_law_text ?a_law_patch ?l_law_patch ?d_law_patch ?k_law_patch ?a_law_put ?l_law_put ?d_law_put ?k_law_put ?a_law_apply ?l_law_apply ?d_law_apply ?k_law_apply ?a_law_changes ?l_law_changes ?d_law_changes ?k_law_changes ?a_law_along ?l_law_along ?d_law_along ?k_law_along ?a_law_spots ?l_law_spots ?d_law_spots ?k_law_spots ?a_law_check ?l_law_check ?d_law_check ?k_law_check ?a_law_fails ?l_law_fails ?d_law_fails ?k_law_fails ?a_law_red ?l_law_red ?d_law_red ?k_law_red ?a_law_same ?l_law_same ?d_law_same ?k_law_same ?a_law_due_v13 ?l_law_due_v13 ?d_law_due_v13 ?k_law_due_v13 ?a_hunk_end ?l_hunk_end ?d_hunk_end ?k_hunk_end ?a_misfit ?l_misfit ?d_misfit ?k_misfit ?a_text_at ?l_text_at ?d_text_at ?k_text_at ?a_patch_misfit ?l_patch_misfit ?d_patch_misfit ?k_patch_misfit ?a_put_text ?l_put_text ?d_put_text ?k_put_text ?a_apply_edit ?l_apply_edit ?d_apply_edit ?k_apply_edit ?a_apply_patch ?l_apply_patch ?d_apply_patch ?k_apply_patch ?a_trees_along ?l_trees_along ?d_trees_along ?k_trees_along ?a_fails_has ?l_fails_has ?d_fails_has ?k_fails_has ?a_places ?l_places ?d_places ?k_places ?a_fails_lacks ?l_fails_lacks ?d_fails_lacks ?k_fails_lacks ?a_lines_with ?l_lines_with ?d_lines_with ?k_lines_with ?a_word_places ?l_word_places ?d_word_places ?k_word_places ?a_fails_most ?l_fails_most ?d_fails_most ?k_fails_most ?a_line_places ?l_line_places ?d_line_places ?k_line_places ?a_fails_ties ?l_fails_ties ?d_fails_ties ?k_fails_ties ?a_check_failure ?l_check_failure ?d_check_failure ?k_check_failure ?a_first_red ?l_first_red ?d_first_red ?k_first_red ?a_green ?l_green ?d_green ?k_green ?a_culprit ?l_culprit ?d_culprit ?k_culprit ?a_law_told_v12 ?l_law_told_v12 ?d_law_told_v12 ?k_law_told_v12 ?a_is_whole ?l_is_whole ?d_is_whole ?k_is_whole ?a_is_index ?l_is_index ?d_is_index ?k_is_index ?a_is_culprit ?l_is_culprit ?d_is_culprit ?k_is_culprit ?a_law ?l_law ?d_law ?k_law ?z_int ?z_abs ?z_len ?z_sorted ?z_range ?z_tuple ?z_min ?z_isinstance ?z_bool ?z_str ?z_enumerate ?z_super ?a_Misfit ?a_NotGreen ?a_NotRed ?a_ReviewError ?l_Misfit ?r_Misfit ?n_Misfit ?j_Misfit ?b_Misfit ?l_NotGreen ?r_NotGreen ?n_NotGreen ?j_NotGreen ?b_NotGreen ?e0_NotRed ?e1_NotRed ?e2_NotRed ?e3_NotRed ?t_Misfit ?t_NotGreen ?t_NotRed ?t_ReviewError ?xf
    (case a_law_bag => k_is); (case l_law_bag => k_is); (case d_law_bag => k_is); (case k_law_bag => k_is); (case a_law_take => k_is); (case l_law_take => k_is); (case d_law_take => k_is); (case k_law_take => k_is); (case a_law_paths => k_is); (case l_law_paths => k_is); (case d_law_paths => k_is); (case k_law_paths => k_is); (case a_law_line => k_is); (case l_law_line => k_is); (case d_law_line => k_is); (case k_law_line => k_is); (case a_law_base => k_is); (case l_law_base => k_is); (case d_law_base => k_is); (case k_law_base => k_is); (case a_law_names => k_is); (case l_law_names => k_is); (case d_law_names => k_is); (case k_law_names => k_is); (case a_law_edit => k_is); (case l_law_edit => k_is); (case d_law_edit => k_is); (case k_law_edit => k_is); (case a_law_text => k_is); (case l_law_text => k_is); (case d_law_text => k_is); (case k_law_text => k_is); (case a_law_patch => k_is); (case l_law_patch => k_is); (case d_law_patch => k_is); (case k_law_patch => k_is); (case a_law_put => k_is); (case l_law_put => k_is); (case d_law_put => k_is); (case k_law_put => k_is); (case a_law_apply => k_is); (case l_law_apply => k_is); (case d_law_apply => k_is); (case k_law_apply => k_is); (case a_law_changes => k_is); (case l_law_changes => k_is); (case d_law_changes => k_is); (case k_law_changes => k_is); (case a_law_along => k_is); (case l_law_along => k_is); (case d_law_along => k_is); (case k_law_along => k_is); (case a_law_spots => k_is); (case l_law_spots => k_is); (case d_law_spots => k_is); (case k_law_spots => k_is); (case a_law_check => k_is); (case l_law_check => k_is); (case d_law_check => k_is); (case k_law_check => k_is); (case a_law_fails => k_is); (case l_law_fails => k_is); (case d_law_fails => k_is); (case k_law_fails => k_is); (case a_law_red => k_is); (case l_law_red => k_is); (case d_law_red => k_is); (case k_law_red => k_is); (case a_law_same => k_is); (case l_law_same => k_is); (case d_law_same => k_is); (case k_law_same => k_is); (case a_law_due_v13 => k_is); (case l_law_due_v13 => k_is); (case d_law_due_v13 => k_is); (case k_law_due_v13 => k_is); (case a_hunk_end => k_is); (case l_hunk_end => k_is); (case d_hunk_end => k_is); (case k_hunk_end => k_is); (case a_misfit => k_is); (case l_misfit => k_is); (case d_misfit => k_is); (case k_misfit => k_is); (case a_text_at => k_is); (case l_text_at => k_is); (case d_text_at => k_is); (case k_text_at => k_is); (case a_patch_misfit => k_is); (case l_patch_misfit => k_is); (case d_patch_misfit => k_is); (case k_patch_misfit => k_is); (case a_put_text => k_is); (case l_put_text => k_is); (case d_put_text => k_is); (case k_put_text => k_is); (case a_apply_edit => k_is); (case l_apply_edit => k_is); (case d_apply_edit => k_is); (case k_apply_edit => k_is); (case a_apply_patch => k_is); (case l_apply_patch => k_is); (case d_apply_patch => k_is); (case k_apply_patch => k_is); (case a_trees_along => k_is); (case l_trees_along => k_is); (case d_trees_along => k_is); (case k_trees_along => k_is); (case a_fails_has => k_is); (case l_fails_has => k_is); (case d_fails_has => k_is); (case k_fails_has => k_is); (case a_places => k_is); (case l_places => k_is); (case d_places => k_is); (case k_places => k_is); (case a_fails_lacks => k_is); (case l_fails_lacks => k_is); (case d_fails_lacks => k_is); (case k_fails_lacks => k_is); (case a_lines_with => k_is); (case l_lines_with => k_is); (case d_lines_with => k_is); (case k_lines_with => k_is); (case a_word_places => k_is); (case l_word_places => k_is); (case d_word_places => k_is); (case k_word_places => k_is); (case a_fails_most => k_is); (case l_fails_most => k_is); (case d_fails_most => k_is); (case k_fails_most => k_is); (case a_line_places => k_is); (case l_line_places => k_is); (case d_line_places => k_is); (case k_line_places => k_is); (case a_fails_ties => k_is); (case l_fails_ties => k_is); (case d_fails_ties => k_is); (case k_fails_ties => k_is); (case a_check_failure => k_is); (case l_check_failure => k_is); (case d_check_failure => k_is); (case k_check_failure => k_is); (case a_first_red => k_is); (case l_first_red => k_is); (case d_first_red => k_is); (case k_first_red => k_is); (case a_green => k_is); (case l_green => k_is); (case d_green => k_is); (case k_green => k_is); (case a_culprit => k_is); (case l_culprit => k_is); (case d_culprit => k_is); (case k_culprit => k_is); (case a_law_told_v12 => k_is); (case l_law_told_v12 => k_is); (case d_law_told_v12 => k_is); (case k_law_told_v12 => k_is); (case a_is_whole => k_is); (case l_is_whole => k_is); (case d_is_whole => k_is); (case k_is_whole => k_is); (case a_is_index => k_is); (case l_is_index => k_is); (case d_is_index => k_is); (case k_is_index => k_is); (case a_is_culprit => k_is); (case l_is_culprit => k_is); (case d_is_culprit => k_is); (case k_is_culprit => k_is); (case a_law => k_is); (case l_law => k_is); (case d_law => k_is); (case k_law => k_is); (case z_int => k_is); (case z_abs => k_is); (case z_len => k_is); (case z_sorted => k_is); (case z_range => k_is); (case z_tuple => k_is); (case z_min => k_is); (case z_isinstance => k_is); (case z_bool => k_is); (case z_str => k_is); (case z_enumerate => k_is); (case z_super => k_is); (case a_Misfit => k_is); (case a_NotGreen => k_is); (case a_NotRed => k_is); (case a_ReviewError => k_is); (case l_Misfit => k_is); (case r_Misfit => kernel_rfl); (case n_Misfit => k_is); (case j_Misfit => k_is); (case b_Misfit => kernel_rfl); (case l_NotGreen => k_is); (case r_NotGreen => kernel_rfl); (case n_NotGreen => k_is); (case j_NotGreen => k_is); (case b_NotGreen => kernel_rfl); (case e0_NotRed => kernel_rfl); (case e1_NotRed => kernel_rfl); (case e2_NotRed => kernel_rfl); (case e3_NotRed => kernel_rfl); (case t_Misfit => kernel_rfl); (case t_NotGreen => kernel_rfl); (case t_NotRed => kernel_rfl); (case t_ReviewError => kernel_rfl); (case xf => kernel_rfl)

