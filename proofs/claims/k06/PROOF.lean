import PyProof.Rows.All
import Wide.All
import OpenK.AllK
import Wide.FinOn
import HandS.ForMost
import HandS.ForExc
import HandS.Deep
import HandS.TupAny
import HandS.Flow
import HandS.IsInst
import HandS.CallSlots
import HandS.TryOnly
import KE.DataEq
import HandS.ExcCtx
import HandS.Text
import HandS.Wide
import HandS.TupMul
import HandS.Style
import KE.GoesEnum
import KE.GoesMore
import HandS.HotCalls
import HandS.WordsExc
import HandS.NestedK
import HandS.ExcInit
import KE.KExcSuper
import HandS.SuiteRaise
import HandS.ExcField
import HandS.ExcOwn
import KE.KExcIs
import HandS.SortInts
import HandS.RaiseMore
import HandS.More
import KE.SortData
import PyProof.MaxThree
import KE.KRevSl
import HandS.RevRange
import PySem.Challenge.RW_signoff_k06_shared_and_diff
set_option Elab.async false
set_option linter.all false
set_option maxRecDepth 100000
set_option maxHeartbeats 4000000
/-! values as data, a memory of mutable objects, and how they lie over the layer's heap -/
namespace DN
open PySem PySem.Spec L2

inductive D where
  | non | bl (b : Bool) | int (i : Int) | str (x : Str) | tup (xs : List D) | ref (n : Nat) | con (xs : List D)
deriving Inhabited

inductive O where
  | lst (xs : List D)
  | fro (xs : List D)
  | dK (kvs : List (Key × D))
  | ins (C : Str) (fs : List (Str × D))
deriving Inhabited

structure Exn where
  cls : Str
  ks : List Str
  vs : List D

abbrev Env := List (Option D)
abbrev Mem := List O

/-- a list that never changes: frozen, or of the written part -/
def SqF (K : PySem.W.Frag) (H : Hp) (a : Addr) (xs : List V) : Prop :=
  (∃ ob, H a = some (.frz ob (.lst xs))) ∨
    ∃ (o : Obj) (its : Array Value) (n : Nat), K.lookup a = some o ∧ o.cls = .type "list" ∧ o.dict = none ∧ o.data = .seq its n ∧ its.size ≤ sizeLine ∧ Vals xs its.toList
theorem SqF.seq {K : PySem.W.Frag} {H : Hp} {a : Addr} {xs : List V} (h : SqF K H a xs) : SqL K H a xs := h.elim (fun q => .inl (.inr q)) .inr
theorem SqF.of {K : PySem.W.Frag} {H : Hp} {a : Addr} {xs : List V} (o : Only H) (h : SqL K H a xs) : SqF K H a xs := by
  rcases h with h | h
  · rcases h with h | ⟨ob, h⟩
    · rcases o a with e | ⟨ob, ys, e⟩ <;> (rw [e] at h; cases h)
    · exact .inl ⟨ob, h⟩
  · exact .inr h
section
variable (K : PySem.W.Frag) (H : Hp) (al : List Addr)
mutual
def RDat : D → V → Prop
  | .non, v => v = .non
  | .bl b, v => v = .bl b
  | .int i, v => v = .int i
  | .str x, v => v = .str x
  | .tup xs, v => ∃ a vs, v = .ref a ∧ SqT K H a vs ∧ RDats xs vs
  | .ref n, v => ∃ a, al[n]? = some a ∧ v = .ref a
  | .con xs, v => ∃ a vs, v = .ref a ∧ SqF K H a vs ∧ RDats xs vs
def RDats : List D → List V → Prop
  | [], vs => vs = []
  | x :: xs, vs => ∃ v r, vs = v :: r ∧ RDat x v ∧ RDats xs r
end
def RKv : List (Key × D) → List (Key × V) → Prop := Paired fun p q => p.1 = q.1 ∧ RDat K H al p.2 q.2
def RFld : List (Str × D) → List (Str × V) → Prop := Paired fun p q => p.1 = q.1 ∧ RDat K H al p.2 q.2
def RObj (cm : Str → Option Addr) : O → HO → Prop
  | .lst xs, o => ∃ vs, o = .lst vs ∧ RDats K H al xs vs
  | .fro xs, o => ∃ ob vs, o = .frz ob (.lst vs) ∧ RDats K H al xs vs
  | .dK kvs, o => ∃ ws, o = .dK ws ∧ RKv K H al kvs ws
  | .ins C fs, o => ∃ c dx gs, cm C = some c ∧ o = .ins c dx gs ∧ RFld K H al fs gs
end

/-- what never changes -/
def stab : HO → Bool
  | .tup _ => true | .frz _ _ => true | .xd _ => true | _ => false
def KeepH (H H' : Hp) : Prop := ∀ a o, stab o = true → H a = some o → H' a = some o
theorem KeepH.refl (H : Hp) : KeepH H H := fun _ _ _ h => h
theorem KeepH.trans {H H1 H2 : Hp} (a : KeepH H H1) (b : KeepH H1 H2) : KeepH H H2 := fun x o s h => b x o s (a x o s h)
theorem KeepH.new {H : Hp} {p : Addr} {o : HO} (h : H p = none) : KeepH H (upd H p o) := fun a u s e => by
  rw [upd_ne (ne_of_none e h)]; exact e
theorem KeepH.wr {H : Hp} {p : Addr} {o u : HO} (h : H p = some u) (s : stab u = false) : KeepH H (upd H p o) := fun a w s' e => by
  rw [upd_ne (fun z => by subst z; rw [h] at e; cases e; rw [s] at s'; cases s')]; exact e
theorem KeepH.sqF {K : PySem.W.Frag} {H H' : Hp} (k : KeepH H H') {a : Addr} {vs : List V} (h : SqF K H a vs) : SqF K H' a vs := by
  rcases h with ⟨ob, h⟩ | h
  · exact .inl ⟨ob, k a _ rfl h⟩
  · exact .inr h
theorem KeepH.sqT {K : PySem.W.Frag} {H H' : Hp} (k : KeepH H H') {a : Addr} {vs : List V} (h : SqT K H a vs) : SqT K H' a vs := by
  rcases h with (h | ⟨o, h⟩) | h
  · exact .inl (.inl (k _ _ rfl h))
  · exact .inl (.inr ⟨o, k _ _ rfl h⟩)
  · exact .inr h

theorem pfx_get {al al' : List Addr} (p : al <+: al') {n : Nat} {a : Addr} (h : al[n]? = some a) : al'[n]? = some a := by
  obtain ⟨r, rfl⟩ := p
  have hn : n < al.length := (List.getElem?_eq_some_iff.mp h).1
  rw [List.getElem?_append_left hn]; exact h

section
variable {K : PySem.W.Frag} {H H' : Hp} {al al' : List Addr}
mutual
theorem RDat.mono (k : KeepH H H') (p : al <+: al') : ∀ {d : D} {v : V}, RDat K H al d v → RDat K H' al' d v
  | .non, _, h => by simpa [RDat] using h
  | .bl _, _, h => by simpa [RDat] using h
  | .int _, _, h => by simpa [RDat] using h
  | .str _, _, h => by simpa [RDat] using h
  | .tup xs, _, h => by
    rw [RDat] at h ⊢
    obtain ⟨a, vs, e, hs, hl⟩ := h
    exact ⟨a, vs, e, k.sqT hs, RDats.mono k p hl⟩
  | .ref n, _, h => by
    rw [RDat] at h ⊢
    obtain ⟨a, e, e2⟩ := h
    exact ⟨a, pfx_get p e, e2⟩
  | .con xs, _, h => by
    rw [RDat] at h ⊢
    obtain ⟨a, vs, e, hs, hl⟩ := h
    exact ⟨a, vs, e, k.sqF hs, RDats.mono k p hl⟩
theorem RDats.mono (k : KeepH H H') (p : al <+: al') : ∀ {ds : List D} {vs : List V}, RDats K H al ds vs → RDats K H' al' ds vs
  | [], _, h => by simpa [RDats] using h
  | x :: xs, _, h => by
    rw [RDats] at h ⊢
    obtain ⟨v, r, e, h1, h2⟩ := h
    exact ⟨v, r, e, RDat.mono k p h1, RDats.mono k p h2⟩
end
theorem RDats.length : ∀ {ds : List D} {vs : List V}, RDats K H al ds vs → ds.length = vs.length
  | [], _, h => by rw [RDats] at h; subst h; rfl
  | x :: xs, _, h => by
    rw [RDats] at h
    obtain ⟨v, r, rfl, _, h2⟩ := h
    rw [List.length_cons, List.length_cons, RDats.length h2]
theorem RDats.get : ∀ {ds : List D} {vs : List V} {i : Nat} {d : D}, RDats K H al ds vs → ds[i]? = some d → ∃ v, vs[i]? = some v ∧ RDat K H al d v
  | [], _, _, _, _, e => by simp at e
  | x :: xs, _, 0, d, h, e => by
    rw [RDats] at h
    obtain ⟨v, r, rfl, h1, _⟩ := h
    simp at e; subst e
    exact ⟨v, rfl, h1⟩
  | x :: xs, _, i + 1, d, h, e => by
    rw [RDats] at h
    obtain ⟨v, r, rfl, _, h2⟩ := h
    have e' : xs[i]? = some d := by simpa using e
    obtain ⟨w, e1, e2⟩ := RDats.get h2 e'
    exact ⟨w, by simpa using e1, e2⟩
theorem RDats.getV : ∀ {ds : List D} {vs : List V} {i : Nat} {v : V}, RDats K H al ds vs → vs[i]? = some v → ∃ d, ds[i]? = some d ∧ RDat K H al d v
  | [], vs, i, v, h, e => by rw [RDats] at h; subst h; simp at e
  | x :: xs, _, 0, w, h, e => by
    rw [RDats] at h
    obtain ⟨v, r, rfl, h1, _⟩ := h
    simp at e; subst e
    exact ⟨x, rfl, h1⟩
  | x :: xs, _, i + 1, w, h, e => by
    rw [RDats] at h
    obtain ⟨v, r, rfl, _, h2⟩ := h
    have e' : r[i]? = some w := by simpa using e
    obtain ⟨d, e1, e2⟩ := RDats.getV h2 e'
    exact ⟨d, by simpa using e1, e2⟩
theorem RDats.nil : RDats K H al [] [] := by rw [RDats]
theorem RDats.cons {d : D} {v : V} {ds : List D} {vs : List V} (h : RDat K H al d v) (t : RDats K H al ds vs) : RDats K H al (d :: ds) (v :: vs) := by
  rw [RDats]; exact ⟨v, vs, rfl, h, t⟩
theorem RDats.append : ∀ {xs ys : List D} {vs ws : List V}, RDats K H al xs vs → RDats K H al ys ws → RDats K H al (xs ++ ys) (vs ++ ws)
  | [], _, _, _, h, t => by rw [RDats] at h; subst h; exact t
  | x :: xs, _, _, _, h, t => by
    rw [RDats] at h
    obtain ⟨v, r, rfl, h1, h2⟩ := h
    exact RDats.cons h1 (RDats.append h2 t)
theorem RDats.take : ∀ {xs : List D} {vs : List V} (n : Nat), RDats K H al xs vs → RDats K H al (xs.take n) (vs.take n)
  | _, _, 0, _ => by simpa using RDats.nil
  | [], _, n + 1, h => by rw [RDats] at h; subst h; exact RDats.nil
  | x :: xs, _, n + 1, h => by
    rw [RDats] at h
    obtain ⟨v, r, rfl, h1, h2⟩ := h
    exact RDats.cons h1 (RDats.take n h2)
theorem RDats.drop : ∀ {xs : List D} {vs : List V} (n : Nat), RDats K H al xs vs → RDats K H al (xs.drop n) (vs.drop n)
  | _, _, 0, h => by simpa using h
  | [], _, n + 1, h => by rw [RDats] at h; subst h; exact RDats.nil
  | x :: xs, _, n + 1, h => by
    rw [RDats] at h
    obtain ⟨v, r, rfl, h1, h2⟩ := h
    exact RDats.drop n h2
theorem RDats.set {d : D} {v : V} (q : RDat K H al d v) : ∀ {xs : List D} {vs : List V} (n : Nat), RDats K H al xs vs → RDats K H al (xs.set n d) (vs.set n v)
  | [], _, n, h => by rw [RDats] at h; subst h; exact RDats.nil
  | x :: xs, _, 0, h => by
    rw [RDats] at h
    obtain ⟨w, r, rfl, h1, h2⟩ := h
    exact RDats.cons q h2
  | x :: xs, _, n + 1, h => by
    rw [RDats] at h
    obtain ⟨w, r, rfl, h1, h2⟩ := h
    exact RDats.cons h1 (RDats.set q n h2)
theorem RDats.reverse : ∀ {xs : List D} {vs : List V}, RDats K H al xs vs → RDats K H al xs.reverse vs.reverse
  | [], _, h => by rw [RDats] at h; subst h; exact RDats.nil
  | x :: xs, _, h => by
    rw [RDats] at h
    obtain ⟨w, r, rfl, h1, h2⟩ := h
    rw [List.reverse_cons, List.reverse_cons]
    exact RDats.append (RDats.reverse h2) (RDats.cons h1 RDats.nil)
theorem RDats.eraseIdx : ∀ {xs : List D} {vs : List V} (n : Nat), RDats K H al xs vs → RDats K H al (xs.eraseIdx n) (vs.eraseIdx n)
  | [], _, n, h => by rw [RDats] at h; subst h; exact RDats.nil
  | x :: xs, _, 0, h => by
    rw [RDats] at h
    obtain ⟨w, r, rfl, h1, h2⟩ := h
    exact h2
  | x :: xs, _, n + 1, h => by
    rw [RDats] at h
    obtain ⟨w, r, rfl, h1, h2⟩ := h
    exact RDats.cons h1 (RDats.eraseIdx n h2)
theorem RDats.dropLast {xs : List D} {vs : List V} (h : RDats K H al xs vs) : RDats K H al xs.dropLast vs.dropLast := by
  rw [List.dropLast_eq_take, List.dropLast_eq_take, h.length]; exact h.take _
theorem RDat.tup_of {xs : List D} {a : Addr} {vs : List V} (h : SqT K H a vs) (r : RDats K H al xs vs) : RDat K H al (.tup xs) (.ref a) := by
  rw [RDat]; exact ⟨a, vs, rfl, h, r⟩
theorem RKv.mono (k : KeepH H H') (p : al <+: al') {a : List (Key × D)} {b : List (Key × V)} (h : RKv K H al a b) : RKv K H' al' a b :=
  Paired.mapP h fun _ _ z => ⟨z.1, z.2.mono k p⟩
theorem RFld.mono (k : KeepH H H') (p : al <+: al') {a : List (Str × D)} {b : List (Str × V)} (h : RFld K H al a b) : RFld K H' al' a b :=
  Paired.mapP h fun _ _ z => ⟨z.1, z.2.mono k p⟩
theorem RObj.mono {cm : Str → Option Addr} (k : KeepH H H') (p : al <+: al') {o : O} {u : HO} (h : RObj K H al cm o u) : RObj K H' al' cm o u := by
  cases o with
  | lst xs => obtain ⟨vs, e, r⟩ := h; exact ⟨vs, e, r.mono k p⟩
  | fro xs => obtain ⟨ob, vs, e, r⟩ := h; exact ⟨ob, vs, e, r.mono k p⟩
  | dK kvs => obtain ⟨ws, e, r⟩ := h; exact ⟨ws, e, r.mono k p⟩
  | ins C fs => obtain ⟨c, dx, gs, e0, e, r⟩ := h; exact ⟨c, dx, gs, e0, e, r.mono k p⟩
end

/-! ### the whole state -/
structure XN where
  x : Exn
  a : Addr
  cls : Value
  d : Option Addr
  i : Nat
structure GC where
  P : Program
  w : World
  K : PySem.W.Frag
  mg : Str → Option Value
  base : Heap
  cm : Str → Option Addr
  xn : Option XN := none

def RExn (K : PySem.W.Frag) (cm : Str → Option Addr) (H : Hp) (al : List Addr) (x : Exn) (cls : Value) (d : Option Addr) : Prop :=
  ∃ C, cm x.cls = some C ∧ cls = .ref C ∧ ((x.ks = [] ∧ x.vs = [] ∧ d = none) ∨ ∃ dx fs vs, d = some dx ∧ H dx = some (.xd fs) ∧ RDats K H al x.vs vs ∧ x.ks.length = x.vs.length ∧ ∀ k v, (x.ks.zip vs).lookup k = some v → fs.lookup k = some v)
theorem RExn.mono {K : PySem.W.Frag} {cm : Str → Option Addr} {H H' : Hp} {al al' : List Addr} (k : KeepH H H') (p : al <+: al') {x : Exn} {cls : Value} {d : Option Addr} (h : RExn K cm H al x cls d) : RExn K cm H' al' x cls d := by
  obtain ⟨C, e1, e2, h⟩ := h
  refine ⟨C, e1, e2, ?_⟩
  rcases h with h | ⟨dx, fs, vs, e3, e4, r, l, q⟩
  · exact .inl h
  · exact .inr ⟨dx, fs, vs, e3, k _ _ rfl e4, r.mono k p, l, q⟩

structure RMem (G : GC) (H : Hp) (al : List Addr) (M : Mem) : Prop where
  nd : al.Nodup
  len : al.length = M.length
  at_ : ∀ (n : Nat) (o : O), M[n]? = some o → ∃ a u, al[n]? = some a ∧ H a = some u ∧ RObj G.K H al G.cm o u
def REnv (G : GC) (H : Hp) (al : List Addr) (σ : L2.St) (ρ : Env) : Prop :=
  ρ.length = σ.length ∧ ∀ (i : Nat) (d : D), ρ[i]? = some (some d) → ∃ v, σ[i]? = some (some v) ∧ RDat G.K H al d v
def XOk (G : GC) (H : Hp) (al : List Addr) (σ : L2.St) : Prop := match G.xn with
  | none => True
  | some n => RExn G.K G.cm H al n.x n.cls n.d ∧ σ[n.i]? = some (some (.ref n.a))
structure RSt (G : GC) (H : Hp) (al : List Addr) (M : Mem) (σ : L2.St) (ρ : Env) : Prop where
  m : RMem G H al M
  e : REnv G H al σ ρ
  x : XOk G H al σ

/-- from a state to a later one -/
structure Nxt (G : GC) (H : Hp) (al : List Addr) (H' : Hp) (al' : List Addr) (M' : Mem) : Prop where
  p : al <+: al'
  k : KeepH H H'
  m : RMem G H' al' M'
section
variable {G : GC} {H H1 H2 : Hp} {al al1 al2 : List Addr} {M M1 M2 : Mem} {σ : L2.St} {ρ : Env}
theorem RMem.go (m : RMem G H al M) : Nxt G H al H al M := ⟨List.prefix_refl _, KeepH.refl _, m⟩
theorem Nxt.trans (a : Nxt G H al H1 al1 M1) (b : Nxt G H1 al1 H2 al2 M2) : Nxt G H al H2 al2 M2 := ⟨a.p.trans b.p, a.k.trans b.k, b.m⟩
theorem REnv.mono (k : KeepH H H1) (p : al <+: al1) (e : REnv G H al σ ρ) : REnv G H1 al1 σ ρ :=
  ⟨e.1, fun i d h => let ⟨v, a, b⟩ := e.2 i d h; ⟨v, a, b.mono k p⟩⟩
theorem XOk.mono (k : KeepH H H1) (p : al <+: al1) (e : XOk G H al σ) : XOk G H1 al1 σ := by
  unfold XOk at e ⊢
  cases h : G.xn with
  | none => trivial
  | some n => rw [h] at e; exact ⟨e.1.mono k p, e.2⟩
theorem RSt.go (r : RSt G H al M σ ρ) (g : Nxt G H al H1 al1 M1) : RSt G H1 al1 M1 σ ρ := ⟨g.m, r.e.mono g.k g.p, r.x.mono g.k g.p⟩
theorem RSt.len (r : RSt G H al M σ ρ) : ρ.length = σ.length := r.e.1

/-- a new object of the memory -/
theorem RMem.new (m : RMem G H al M) {p : Addr} {o : O} {u : HO} (h : H p = none) (r : RObj G.K H al G.cm o u) : Nxt G H al (upd H p u) (al ++ [p]) (M ++ [o]) := by
  have k : KeepH H (upd H p u) := KeepH.new h
  have px : al <+: al ++ [p] := List.prefix_append _ _
  refine ⟨px, k, ?_, ?_, fun n o' e => ?_⟩
  · refine List.nodup_append.mpr ⟨m.nd, by simp, fun a ha b hb => ?_⟩
    have e : b = p := by simpa using hb
    subst e
    obtain ⟨n, hn⟩ := List.getElem?_of_mem ha
    have hl : n < M.length := by rw [← m.len]; exact (List.getElem?_eq_some_iff.mp hn).1
    obtain ⟨a', u', e1, e2, _⟩ := m.at_ n _ (List.getElem?_eq_getElem hl)
    rw [hn] at e1; cases e1
    intro z; subst z; rw [h] at e2; cases e2
  · rw [List.length_append, List.length_append, m.len]; rfl
  · by_cases hn : n < M.length
    · rw [List.getElem?_append_left hn] at e
      obtain ⟨a, u', e1, e2, r'⟩ := m.at_ n o' e
      exact ⟨a, u', pfx_get px e1, by rw [upd_ne (ne_of_none e2 h)]; exact e2, r'.mono k px⟩
    · have hl : n < (M ++ [o]).length := (List.getElem?_eq_some_iff.mp e).1
      rw [List.length_append] at hl
      have en : n = M.length := by simp at hl; omega
      subst en
      rw [List.getElem?_append_right (Nat.le_refl _), Nat.sub_self] at e
      simp at e; subst e
      refine ⟨p, u, ?_, upd_same, r.mono k px⟩
      rw [← m.len, List.getElem?_append_right (Nat.le_refl _), Nat.sub_self]; rfl
/-- an object of the memory written -/
theorem RMem.wr (m : RMem G H al M) {n : Nat} {a : Addr} {o : O} {u w : HO} (hn : al[n]? = some a) (hw : H a = some w) (sw : stab w = false) (r : RObj G.K H al G.cm o u) : Nxt G H al (upd H a u) al (M.set n o) := by
  have k : KeepH H (upd H a u) := KeepH.wr hw sw
  refine ⟨List.prefix_refl _, k, m.nd, by rw [List.length_set]; exact m.len, fun j o' e => ?_⟩
  by_cases hj : n = j
  · subst hj
    have hl : n < M.length := by rw [← m.len]; exact (List.getElem?_eq_some_iff.mp hn).1
    rw [List.getElem?_set_self hl] at e; cases e
    exact ⟨a, u, hn, upd_same, r.mono k (List.prefix_refl _)⟩
  · rw [List.getElem?_set_ne hj] at e
    obtain ⟨b, u', e1, e2, r'⟩ := m.at_ j o' e
    have hb : b ≠ a := fun z => by
      subst z
      obtain ⟨l1, q1⟩ := List.getElem?_eq_some_iff.mp hn
      obtain ⟨l2, q2⟩ := List.getElem?_eq_some_iff.mp e1
      exact hj ((List.getElem_inj m.nd).mp (q1.trans q2.symm))
    exact ⟨b, u', e1, by rw [upd_ne hb]; exact e2, r'.mono k (List.prefix_refl _)⟩
/-- a tuple is made -/
theorem RMem.tup (m : RMem G H al M) {p : Addr} {vs : List V} (h : H p = none) : Nxt G H al (upd H p (.tup vs)) al M := by
  have k : KeepH H (upd H p (.tup vs)) := KeepH.new h
  exact ⟨List.prefix_refl _, k, m.nd, m.len, fun n o e => let ⟨a, u, e1, e2, r⟩ := m.at_ n o e; ⟨a, u, e1, by rw [upd_ne (ne_of_none e2 h)]; exact e2, r.mono k (List.prefix_refl _)⟩⟩
theorem RMem.lst (m : RMem G H al M) {n : Nat} {xs : List D} {v : V} (r : RDat G.K H al (.ref n) v) (e : M[n]? = some (.lst xs)) : ∃ a vs, v = .ref a ∧ al[n]? = some a ∧ H a = some (.lst vs) ∧ RDats G.K H al xs vs := by
  rw [RDat] at r
  obtain ⟨a, ea, ev⟩ := r
  obtain ⟨b, u, e1, e2, vs, e3, q⟩ := m.at_ n _ e
  rw [ea] at e1; cases e1; subst e3
  exact ⟨a, vs, ev, ea, e2, q⟩
theorem RMem.fro (m : RMem G H al M) {n : Nat} {xs : List D} {v : V} (r : RDat G.K H al (.ref n) v) (e : M[n]? = some (.fro xs)) : ∃ a vs, v = .ref a ∧ SqL G.K H a vs ∧ RDats G.K H al xs vs := by
  rw [RDat] at r
  obtain ⟨a, ea, ev⟩ := r
  obtain ⟨b, u, e1, e2, ob, vs, e3, q⟩ := m.at_ n _ e
  rw [ea] at e1; cases e1; subst e3
  exact ⟨a, vs, ev, .inl (.inr ⟨ob, e2⟩), q⟩
/-- the items of a list of the memory -/
def lstAt (M : Mem) (n : Nat) : Option (List D) := match M[n]? with
  | some (.lst xs) => some xs
  | some (.fro xs) => some xs
  | _ => none
theorem RMem.seq (m : RMem G H al M) {n : Nat} {xs : List D} {v : V} (r : RDat G.K H al (.ref n) v) (e : lstAt M n = some xs) : ∃ a vs, v = .ref a ∧ SqL G.K H a vs ∧ RDats G.K H al xs vs := by
  unfold lstAt at e
  cases h : M[n]? with
  | none => rw [h] at e; cases e
  | some o =>
    rw [h] at e
    cases o with
    | lst ys => cases e; obtain ⟨a, vs, ev, _, e2, q⟩ := m.lst r h; exact ⟨a, vs, ev, SqL.of e2, q⟩
    | fro ys => cases e; exact m.fro r h
    | dK _ => cases e
    | ins _ _ => cases e
end
end DN

set_option maxHeartbeats 4000000
/-! the readings over data, and the judgements -/
namespace DN
open PySem PySem.Spec L2
/-- in this layer an exception in the air has no context -/
abbrev Takes (X : Cx) (W : WX) : Prop := L2N.Takes X W
abbrev CX (P : Program) (w : World) : CXT := L2N.CX P w
theorem passAt {X : Cx} {W : WX} (tk : Takes X W) (σ : L2.St) : PassesAt (CX X.prog X.w) X σ (WE W σ) := L2N.passAt tk σ
theorem passL {X : Cx} : Passes (CX X.prog X.w) X (fun _ _ _ => False) := fun _ _ _ _ _ _ _ h => by
  obtain ⟨_, _, _, _, _, _, _, _, _, _, _, _, z⟩ := h
  exact z.elim
theorem takes0 {X : Cx} : Takes X (fun _ _ _ _ => False) := fun _ _ x => by
  obtain ⟨_, _, _, _, _, _, _, _, _, _, _, _, _, _, _, _, z⟩ := x
  exact z.elim

abbrev KD := D → Mem → Prop
abbrev XC := Exn → Mem → Prop
abbrev SE := XC → Env → Mem → KD → Prop
abbrev SC := XC → Env → Mem → (Bool → Mem → Prop) → Prop
abbrev SA := XC → Env → Mem → (List D → Mem → Prop) → Prop
abbrev Fn := List D → Mem → KD → XC → Prop

def XCl (G : GC) (W : WX) (H : Hp) (al : List Addr) (Ex : XC) (σ : L2.St) : Prop :=
  ∀ H' al' M' x cls dd, Nxt G H al H' al' M' → RExn G.K G.cm H' al' x cls dd → Ex x M' → W cls dd σ H'
theorem XCl.nxt {G : GC} {W : WX} {H H1 : Hp} {al al1 : List Addr} {M1 : Mem} {Ex : XC} {σ : L2.St} (c : XCl G W H al Ex σ) (n : Nxt G H al H1 al1 M1) : XCl G W H1 al1 Ex σ :=
  fun H' al' M' x cls dd n' r e => c H' al' M' x cls dd (n.trans n') r e
/-- what follows with a value -/
def VCl (G : GC) (H : Hp) (al : List Addr) (R : KD) (Q : VK) : Prop := ∀ H' al' M' v d, Nxt G H al H' al' M' → RDat G.K H' al' d v → R d M' → Q v H'
theorem VCl.nxt {G : GC} {H H1 : Hp} {al al1 : List Addr} {M1 : Mem} {R : KD} {Q : VK} (c : VCl G H al R Q) (n : Nxt G H al H1 al1 M1) : VCl G H1 al1 R Q :=
  fun H' al' M' v d n' r e => c H' al' M' v d (n.trans n') r e

def LE (G : GC) (W : WX) (t : SE) : TE := fun σ H Q => ∃ ρ al M Ex R, RSt G H al M σ ρ ∧ t Ex ρ M R ∧ VCl G H al R Q ∧ XCl G W H al Ex σ
def LC (G : GC) (W : WX) (t : SC) : TT := fun σ H Q => ∃ ρ al M Ex R, RSt G H al M σ ρ ∧ t Ex ρ M R ∧ (∀ H' al' M' b, Nxt G H al H' al' M' → R b M' → Q b H') ∧ XCl G W H al Ex σ
def LA (G : GC) (W : WX) (n : Nat) (t : SA) : TA := fun σ H Q => ∃ ρ al M Ex R, RSt G H al M σ ρ ∧ t Ex ρ M R ∧ (∀ H' al' M' vs ds, Nxt G H al H' al' M' → RDats G.K H' al' ds vs → ds.length = n → R ds M' → Q vs H') ∧ XCl G W H al Ex σ
def ME (X : Cx) (G : GC) (e : Expr) (t : SE) : Prop := ∀ W, Takes X W → PE X e (LE G W t)
def MC (X : Cx) (G : GC) (e : Expr) (t : SC) : Prop := ∀ W, Takes X W → PT X e (LC G W t)
def MA (X : Cx) (G : GC) (es : List Expr) (t : SA) : Prop := ∀ W, Takes X W → PA X es (LA G W es.length t)

theorem PE.imp {X : Cx} {e : Expr} {t t' : TE} (h : PE X e t) (i : ∀ σ H Q, t' σ H Q → t σ H Q) : PE X e t' := ⟨fun pins s σ H Q I w => h.run pins s σ H Q I (i σ H Q w)⟩
theorem PT.imp {X : Cx} {e : Expr} {t t' : TT} (h : PT X e t) (i : ∀ σ H Q, t' σ H Q → t σ H Q) : PT X e t' := ⟨fun pins s σ H Q I w => h.run pins s σ H Q I (i σ H Q w)⟩
theorem PW.imp {X : Cx} {e : Expr} {t t' : TT} (h : PW X e t) (i : ∀ σ H Q, t' σ H Q → t σ H Q) : PW X e t' := ⟨fun wh pins s σ H Q I w => h.run wh pins s σ H Q I (i σ H Q w)⟩
theorem PA.imp {X : Cx} {e : List Expr} {t t' : TA} (h : PA X e t) (i : ∀ σ H Q, t' σ H Q → t σ H Q) : PA X e t' := ⟨fun pos pins s σ H Q I w => h.run pos pins s σ H Q I (i σ H Q w)⟩
theorem PS.imp {X : Cx} {e : Stmt} {t t' : TS} (h : PS X e t) (i : ∀ D σ H, t' D σ H → t D σ H) : PS X e t' := ⟨fun pins s σ H D I w => h.run pins s σ H D I (i D σ H w)⟩
theorem PSs.imp {X : Cx} {e : List Stmt} {t t' : TS} (h : PSs X e t) (i : ∀ D σ H, t' D σ H → t D σ H) : PSs X e t' := ⟨fun pins s σ H D I w => h.run pins s σ H D I (i D σ H w)⟩

/-! ### slots -/
def slot : Env → Nat → Option D
  | [], _ => none
  | x :: _, 0 => x
  | _ :: r, i + 1 => slot r i
theorem slot_get : ∀ {ρ : Env} {i : Nat} {d : D}, slot ρ i = some d → ρ[i]? = some (some d)
  | [], _, _, h => by simp [slot] at h
  | x :: _, 0, d, h => by simp [slot] at h; simp [h]
  | _ :: r, i + 1, d, h => by
    have := slot_get (ρ := r) (i := i) h
    simpa using this

/-! ### names, constants -/
def eVar (i : Nat) : SE := fun _ ρ M R => match slot ρ i with | some d => R d M | none => False
def eC (d : D) : SE := fun _ _ M R => R d M
section
variable {X : Cx} {G : GC}
theorem me_var {i : Nat} {x : Str} {pos : Pos} (hN : X.N[i]? = some x) (hv : Vis X.env.scope x) (hd : (x == ("__debug__" : Str)) = false) (hcd : (x == ("__classdict__" : Str)) = false) : ME X G (.Name x pos) (eVar i) := by
  refine fun W tk => PE.imp (pe_var (i := i) hN hv hd hcd) fun σ H Q h => ?_
  obtain ⟨ρ, al, M, Ex, R, r, t, c, _⟩ := h
  unfold eVar at t
  cases e : slot ρ i with
  | none => rw [e] at t; exact t.elim
  | some d =>
    rw [e] at t
    obtain ⟨v, e1, rv⟩ := r.e.2 i d (slot_get e)
    exact ⟨v, e1, c _ _ _ _ _ r.m.go rv t⟩
theorem me_of_tC {e : Expr} {v : V} {d : D} (h : PE X e (tC v)) (r : ∀ H al, RDat G.K H al d v) : ME X G e (eC d) := by
  refine fun W tk => PE.imp h fun σ H Q h => ?_
  obtain ⟨ρ, al, M, Ex, R, rr, t, c, _⟩ := h
  exact c _ _ _ _ _ rr.m.go (r H al) t
theorem me_int {i : Int} {j pos} : ME X G (.Constant (.int i) j pos) (eC (.int i)) := me_of_tC pe_int fun _ _ => by rw [RDat]
theorem me_bl {b : Bool} {j pos} : ME X G (.Constant (.bool b) j pos) (eC (.bl b)) := me_of_tC pe_bl fun _ _ => by rw [RDat]
theorem me_non {j pos} : ME X G (.Constant .none j pos) (eC .non) := me_of_tC pe_non fun _ _ => by rw [RDat]
theorem me_str {x : Str} {j pos} : ME X G (.Constant (.str x) j pos) (eC (.str x)) := me_of_tC pe_str fun _ _ => by rw [RDat]

/-! ### two-place operations by values -/
abbrev Op2 := D → D → Mem → KD → Prop
def LR (G : GC) (g : Op2) : R2 := fun x y H Q => ∃ al M dx dy R, RMem G H al M ∧ RDat G.K H al dx x ∧ RDat G.K H al dy y ∧ g dx dy M R ∧ VCl G H al R Q
def eBin (g : Op2) (ta tb : SE) : SE := fun Ex ρ M R => ta Ex ρ M fun x M1 => tb Ex ρ M1 fun y M2 => g x y M2 R
variable {a b c : Expr} {ta tb tc : SE} {pos : Pos}
theorem le_bin {W : WX} {g : Op2} {σ : L2.St} {H : Hp} {Q : VK} (h : LE G W (eBin g ta tb) σ H Q) : tOp (LR G g) (LE G W ta) (LE G W tb) σ H Q := by
  obtain ⟨ρ, al, M, Ex, R, r, t, c, xc⟩ := h
  exact ⟨ρ, al, M, Ex, _, r, t, fun H1 al1 M1 x dx n1 r1 h1 => ⟨ρ, al1, M1, Ex, _, r.go n1, h1, fun H2 al2 M2 y dy n2 r2 h2 =>
    ⟨al2, M2, dx, dy, R, n2.m, r1.mono n2.k n2.p, r2, h2, c.nxt (n1.trans n2)⟩, xc.nxt n1⟩, xc⟩
theorem me_bin {op : Operator} {g : Op2} (ho : OpR X (binaryOp op) (LR G g)) (ha : ME X G a ta) (hb : ME X G b tb) : ME X G (.BinOp a op b pos) (eBin g ta tb) :=
  fun W tk => PE.imp (pe_op ho (ha W tk) (hb W tk)) fun _ _ _ h => le_bin h
theorem me_cmp {op : CmpOp} {g : Op2} (ho : OpR X (compareOp op) (LR G g)) (ha : ME X G a ta) (hb : ME X G b tb) (hm : behindInMarks op b = false) : ME X G (.Compare a [op] [b] pos) (eBin g ta tb) :=
  fun W tk => PE.imp (pe_cmpR ho (ha W tk) (hb W tk) hm) fun _ _ _ h => le_bin h
theorem me_ix {g : Op2} (ho : IxR X (LR G g)) (ha : ME X G a ta) (hb : ME X G b tb) (hs : PlainIx b) : ME X G (.Subscript a b pos) (eBin g ta tb) :=
  fun W tk => PE.imp (pe_ix ho (ha W tk) (hb W tk) hs) fun _ _ _ h => le_bin h
/-- a value as a test where it is a bool -/
def cB (t : SE) : SC := fun Ex ρ M R => t Ex ρ M fun d M1 => match d with | .bl k => R k M1 | _ => False
theorem mc_cmp {op : CmpOp} {g : Op2} (ho : OpR X (compareOp op) (LR G g)) (ha : ME X G a ta) (hb : ME X G b tb) (hm : behindInMarks op b = false) : MC X G (.Compare a [op] [b] pos) (cB (eBin g ta tb)) := by
  refine fun W tk => PT.imp (pt_cmpR ho (ha W tk) (hb W tk) hm) fun σ H Q h => ?_
  obtain ⟨ρ, al, M, Ex, R, r, t, c, xc⟩ := h
  refine le_bin (g := g) ⟨ρ, al, M, Ex, _, r, t, fun H1 al1 M1 v d n1 r1 h1 => ?_, xc⟩
  cases d with
  | bl k => rw [RDat] at r1; exact ⟨k, r1, c _ _ _ _ n1 h1⟩
  | _ => exact h1.elim
/-! ### unary -/
abbrev Op1 := D → Mem → KD → Prop
def LU (G : GC) (g : Op1) : V → Hp → VK → Prop := fun x H Q => ∃ al M dx R, RMem G H al M ∧ RDat G.K H al dx x ∧ g dx M R ∧ VCl G H al R Q
def eUn (g : Op1) (ta : SE) : SE := fun Ex ρ M R => ta Ex ρ M fun x M1 => g x M1 R
theorem me_un {op : UnaryOp} {g : Op1} (ho : UnR X (unaryOp op) (LU G g)) (ha : ME X G a ta) : ME X G (.UnaryOp op a pos) (eUn g ta) := by
  refine fun W tk => PE.imp (pe_un ho (ha W tk)) fun σ H Q h => ?_
  obtain ⟨ρ, al, M, Ex, R, r, t, c, xc⟩ := h
  exact ⟨ρ, al, M, Ex, _, r, t, fun H1 al1 M1 x dx n1 r1 h1 => ⟨al1, M1, dx, R, n1.m, r1, h1, c.nxt n1⟩, xc⟩
/-! ### chains -/
def eChain (g g' : Op2) (ta tb tc : SE) : SE := fun Ex ρ M R => ta Ex ρ M fun x M1 => tb Ex ρ M1 fun y M2 => g x y M2 fun z M3 => match z with
  | .bl true => tc Ex ρ M3 fun w M4 => g' y w M4 R
  | .bl false => R (.bl false) M3
  | _ => False
theorem le_chain {W : WX} {g g' : Op2} {σ : L2.St} {H : Hp} {Q : VK} (h : LE G W (eChain g g' ta tb tc) σ H Q) : tChain (LR G g) (LR G g') (LE G W ta) (LE G W tb) (LE G W tc) σ H Q := by
  obtain ⟨ρ, al, M, Ex, R, r, t, c, xc⟩ := h
  refine ⟨ρ, al, M, Ex, _, r, t, fun H1 al1 M1 x dx n1 r1 h1 => ⟨ρ, al1, M1, Ex, _, r.go n1, h1, fun H2 al2 M2 y dy n2 r2 h2 => ?_, xc.nxt n1⟩, xc⟩
  refine ⟨al2, M2, dx, dy, _, n2.m, r1.mono n2.k n2.p, r2, h2, fun H3 al3 M3 z dz n3 r3 h3 => ?_⟩
  have n13 := n1.trans (n2.trans n3)
  cases dz with
  | bl k =>
    rw [RDat] at r3
    refine ⟨k, r3, ?_⟩
    cases k with
    | true =>
      rw [if_pos rfl]
      exact ⟨ρ, al3, M3, Ex, _, r.go n13, h3, fun H4 al4 M4 w dw n4 r4 h4 => ⟨al4, M4, dy, dw, R, n4.m, r2.mono (n3.k.trans n4.k) (n3.p.trans n4.p), r4, h4, c.nxt (n13.trans n4)⟩, xc.nxt n13⟩
    | false =>
      rw [if_neg Bool.false_ne_true]
      exact c _ _ _ _ _ n13 (by rw [RDat]) h3
  | _ => exact h3.elim
theorem me_chain {op op' : CmpOp} {g g' : Op2} (ho : OpR X (compareOp op) (LR G g)) (ho' : OpR X (compareOp op') (LR G g')) (ha : ME X G a ta) (hb : ME X G b tb) (hc : ME X G c tc)
    (hm : lastMarks [op, op'] [b, c] = false) : ME X G (.Compare a [op, op'] [b, c] pos) (eChain g g' ta tb tc) :=
  fun W tk => PE.imp (pe_chain ho ho' (ha W tk) (hb W tk) (hc W tk) hm) fun _ _ _ h => le_chain h
theorem mc_chain {op op' : CmpOp} {g g' : Op2} (ho : OpR X (compareOp op) (LR G g)) (ho' : OpR X (compareOp op') (LR G g')) (ha : ME X G a ta) (hb : ME X G b tb) (hc : ME X G c tc)
    (hm : lastMarks [op, op'] [b, c] = false) : MC X G (.Compare a [op, op'] [b, c] pos) (cB (eChain g g' ta tb tc)) := by
  refine fun W tk => PT.imp (pt_chain ho ho' (ha W tk) (hb W tk) (hc W tk) hm) fun σ H Q h => ?_
  obtain ⟨ρ, al, M, Ex, R, r, t, c, xc⟩ := h
  refine le_chain (g := g) (g' := g') ⟨ρ, al, M, Ex, _, r, t, fun H1 al1 M1 v d n1 r1 h1 => ?_, xc⟩
  cases d with
  | bl k => rw [RDat] at r1; exact ⟨k, r1, c _ _ _ _ n1 h1⟩
  | _ => exact h1.elim

/-! ### truth -/
def tru (d : D) (M : Mem) : Option Bool := match d with
  | .non => some false
  | .bl b => some b
  | .int i => some (i != 0)
  | .str x => if x.length ≤ sizeLine then some ((x.length : Int) != 0) else none
  | .tup xs => some (!xs.isEmpty)
  | .ref n => match M[n]? with
    | some (.lst xs) => some (!xs.isEmpty)
    | some (.fro xs) => some (!xs.isEmpty)
    | some (.dK kvs) => some (!kvs.isEmpty)
    | _ => none
  | .con xs => some (!xs.isEmpty)
theorem RDats.isEmpty {K : PySem.W.Frag} {H : Hp} {al : List Addr} {ds : List D} {vs : List V} (r : RDats K H al ds vs) : (!vs.isEmpty) = !ds.isEmpty := by
  have := r.length
  cases ds <;> cases vs <;> simp_all
theorem tru_ok {H : Hp} {al : List Addr} {M : Mem} {d : D} {v : V} {k : Bool} (m : RMem G H al M) (r : RDat G.K H al d v) (h : tru d M = some k) : TruV G.K v H k := by
  cases d with
  | non => rw [RDat] at r; subst r; simp [tru] at h; subst h; rfl
  | bl b => rw [RDat] at r; subst r; simp [tru] at h; subst h; rfl
  | int i => rw [RDat] at r; subst r; simp only [tru, Option.some.injEq] at h; exact h.symm
  | str x =>
    rw [RDat] at r; subst r
    have h : (if x.length ≤ sizeLine then some ((x.length : Int) != 0) else none) = some k := h
    by_cases hz : x.length ≤ sizeLine
    · rw [if_pos hz] at h; cases h; exact ⟨hz, rfl⟩
    · rw [if_neg hz] at h; cases h
  | tup xs =>
    rw [RDat] at r
    obtain ⟨a, vs, rfl, hs, rs⟩ := r
    simp only [tru, Option.some.injEq] at h
    exact .inr (.inl ⟨vs, hs, by rw [rs.isEmpty, h]⟩)
  | ref n =>
    unfold tru at h
    cases e : M[n]? with
    | none => simp [e] at h
    | some o =>
      cases o with
      | lst xs =>
        simp only [e, Option.some.injEq] at h
        obtain ⟨a, vs, rfl, _, e2, q⟩ := m.lst r e
        exact .inl ⟨vs, SqL.of e2, by rw [q.isEmpty, h]⟩
      | fro xs =>
        simp only [e, Option.some.injEq] at h
        obtain ⟨a, vs, rfl, e2, q⟩ := m.fro r e
        exact .inl ⟨vs, e2, by rw [q.isEmpty, h]⟩
      | dK kvs =>
        simp only [e, Option.some.injEq] at h
        rw [RDat] at r
        obtain ⟨a, ea, rfl⟩ := r
        obtain ⟨b, u, e1, e2, ws, e3, q⟩ := m.at_ n _ e
        rw [ea] at e1; cases e1; subst e3
        exact .inr (.inr ⟨ws, e2, by rw [← h]; cases q <;> rfl⟩)
      | ins _ _ => simp [e] at h
  | con xs =>
    rw [RDat] at r
    obtain ⟨a, vs, rfl, hs, rs⟩ := r
    simp only [tru, Option.some.injEq] at h
    exact .inl ⟨vs, hs.seq, by rw [rs.isEmpty, h]⟩
/-- a value's truth -/
def withTru (d : D) (M : Mem) (R : Bool → Mem → Prop) : Prop := match tru d M with | some k => R k M | none => False
def cT (t : SE) : SC := fun Ex ρ M R => t Ex ρ M fun d M1 => withTru d M1 R
theorem mc_tru (hK : X.K = G.K) (ha : ME X G a ta) (he : ∀ whole, isTrue a X.env whole = (do let v ← whole; standAt a.pos; holding [v] (truthy v))) : MC X G a (cT ta) := by
  refine fun W tk => PT.imp (pt_truth (ha W tk) he) fun σ H Q h => ?_
  obtain ⟨ρ, al, M, Ex, R, r, t, c, xc⟩ := h
  refine ⟨ρ, al, M, Ex, _, r, t, fun H1 al1 M1 v d n1 r1 h1 => ?_, xc⟩
  have h1 : withTru d M1 R := h1
  unfold withTru at h1
  cases e : tru d M1 with
  | none => rw [e] at h1; exact h1.elim
  | some k => rw [e] at h1; exact ⟨k, by rw [hK]; exact tru_ok n1.m r1 e, c _ _ _ _ n1 h1⟩
def cNot (t : SC) : SC := fun Ex ρ M R => t Ex ρ M fun k M1 => R (!k) M1
def cAnd (t u : SC) : SC := fun Ex ρ M R => t Ex ρ M fun k M1 => match k with | true => u Ex ρ M1 R | false => R false M1
def cOr (t u : SC) : SC := fun Ex ρ M R => t Ex ρ M fun k M1 => match k with | true => R true M1 | false => u Ex ρ M1 R
variable {t u : SC} {rest : List Expr}
theorem mc_not (ha : MC X G a t) : MC X G (.UnaryOp .Not a pos) (cNot t) := by
  refine fun W tk => PT.imp (pt_not (ha W tk)) fun σ H Q h => ?_
  obtain ⟨ρ, al, M, Ex, R, r, t, c, xc⟩ := h
  exact ⟨ρ, al, M, Ex, _, r, t, fun H1 al1 M1 k n1 h1 => c _ _ _ _ n1 h1, xc⟩
def MW (X : Cx) (G : GC) (e : Expr) (t : SC) : Prop := ∀ W, Takes X W → PW X e (LC G W t)
theorem MW.mc {e : Expr} (h : MW X G e t) : MC X G e t := fun W tk => (h W tk).pt
theorem mw_and1 (ha : MC X G a t) : MW X G (.BoolOp .And [a] pos) t := fun W tk => pw_and1 (ha W tk)
theorem mw_or1 (ha : MC X G a t) : MW X G (.BoolOp .Or [a] pos) t := fun W tk => pw_or1 (ha W tk)
theorem mw_and (ha : MC X G a t) (hb : MW X G (.BoolOp .And (b :: rest) pos) u) : MW X G (.BoolOp .And (a :: b :: rest) pos) (cAnd t u) := by
  refine fun W tk => PW.imp (pw_and (ha W tk) (hb W tk)) fun σ H Q h => ?_
  obtain ⟨ρ, al, M, Ex, R, r, t, c, xc⟩ := h
  refine ⟨ρ, al, M, Ex, _, r, t, fun H1 al1 M1 k n1 h1 => ?_, xc⟩
  cases k with
  | true => rw [if_pos rfl]; exact ⟨ρ, al1, M1, Ex, R, r.go n1, h1, fun H2 al2 M2 k n2 h2 => c _ _ _ _ (n1.trans n2) h2, xc.nxt n1⟩
  | false => rw [if_neg Bool.false_ne_true]; exact c _ _ _ _ n1 h1
theorem mw_or (ha : MC X G a t) (hb : MW X G (.BoolOp .Or (b :: rest) pos) u) : MW X G (.BoolOp .Or (a :: b :: rest) pos) (cOr t u) := by
  refine fun W tk => PW.imp (pw_or (ha W tk) (hb W tk)) fun σ H Q h => ?_
  obtain ⟨ρ, al, M, Ex, R, r, t, c, xc⟩ := h
  refine ⟨ρ, al, M, Ex, _, r, t, fun H1 al1 M1 k n1 h1 => ?_, xc⟩
  cases k with
  | false => rw [if_neg Bool.false_ne_true]; exact ⟨ρ, al1, M1, Ex, R, r.go n1, h1, fun H2 al2 M2 k n2 h2 => c _ _ _ _ (n1.trans n2) h2, xc.nxt n1⟩
  | true => rw [if_pos rfl]; exact c _ _ _ _ n1 h1
/-! ### and, or, not as values -/
def eAnd (ta tb : SE) : SE := fun Ex ρ M R => ta Ex ρ M fun x M1 => match tru x M1 with | some true => tb Ex ρ M1 R | some false => R x M1 | none => False
def eOr (ta tb : SE) : SE := fun Ex ρ M R => ta Ex ρ M fun x M1 => match tru x M1 with | some true => R x M1 | some false => tb Ex ρ M1 R | none => False
def eNot (ta : SE) : SE := fun Ex ρ M R => ta Ex ρ M fun x M1 => match tru x M1 with | some k => R (.bl (!k)) M1 | none => False
theorem me_one {op} (h : ME X G a ta) : ME X G (.BoolOp op [a] pos) ta := fun W tk => pe_one (h W tk)
theorem me_and (hK : X.K = G.K) (ha : ME X G a ta) (hb : ME X G (.BoolOp .And (b :: rest) pos) tb) : ME X G (.BoolOp .And (a :: b :: rest) pos) (eAnd ta tb) := by
  refine fun W tk => PE.imp (pe_andT (ha W tk) (hb W tk)) fun σ H Q h => ?_
  obtain ⟨ρ, al, M, Ex, R, r, t, c, xc⟩ := h
  refine ⟨ρ, al, M, Ex, _, r, t, fun H1 al1 M1 x d n1 r1 h1 => ?_, xc⟩
  cases e : tru d M1 with
  | none => simp only [e] at h1
  | some k =>
    refine ⟨k, by rw [hK]; exact tru_ok n1.m r1 e, ?_⟩
    cases k with
    | true => simp only [e] at h1; rw [if_pos rfl]; exact ⟨ρ, al1, M1, Ex, R, r.go n1, h1, c.nxt n1, xc.nxt n1⟩
    | false => simp only [e] at h1; rw [if_neg Bool.false_ne_true]; exact c _ _ _ _ _ n1 r1 h1
theorem me_or (hK : X.K = G.K) (ha : ME X G a ta) (hb : ME X G (.BoolOp .Or (b :: rest) pos) tb) : ME X G (.BoolOp .Or (a :: b :: rest) pos) (eOr ta tb) := by
  refine fun W tk => PE.imp (pe_orT (ha W tk) (hb W tk)) fun σ H Q h => ?_
  obtain ⟨ρ, al, M, Ex, R, r, t, c, xc⟩ := h
  refine ⟨ρ, al, M, Ex, _, r, t, fun H1 al1 M1 x d n1 r1 h1 => ?_, xc⟩
  cases e : tru d M1 with
  | none => simp only [e] at h1
  | some k =>
    refine ⟨k, by rw [hK]; exact tru_ok n1.m r1 e, ?_⟩
    cases k with
    | false => simp only [e] at h1; rw [if_neg Bool.false_ne_true]; exact ⟨ρ, al1, M1, Ex, R, r.go n1, h1, c.nxt n1, xc.nxt n1⟩
    | true => simp only [e] at h1; rw [if_pos rfl]; exact c _ _ _ _ _ n1 r1 h1
theorem me_not (hK : X.K = G.K) (ha : ME X G a ta) : ME X G (.UnaryOp .Not a pos) (eNot ta) := by
  refine fun W tk => PE.imp (pe_notT (ha W tk)) fun σ H Q h => ?_
  obtain ⟨ρ, al, M, Ex, R, r, t, c, xc⟩ := h
  refine ⟨ρ, al, M, Ex, _, r, t, fun H1 al1 M1 x d n1 r1 h1 => ?_, xc⟩
  cases e : tru d M1 with
  | none => simp only [e] at h1
  | some k => simp only [e] at h1; exact ⟨k, by rw [hK]; exact tru_ok n1.m r1 e, c _ _ _ _ _ n1 (by rw [RDat]) h1⟩
def eIf (t : SC) (ta tb : SE) : SE := fun Ex ρ M R => t Ex ρ M fun k M1 => match k with | true => ta Ex ρ M1 R | false => tb Ex ρ M1 R
theorem me_ifExp (hc : MC X G c t) (ha : ME X G a ta) (hb : ME X G b tb) : ME X G (.IfExp c a b pos) (eIf t ta tb) := by
  refine fun W tk => PE.imp (pe_ifExp (hc W tk) (ha W tk) (hb W tk)) fun σ H Q h => ?_
  obtain ⟨ρ, al, M, Ex, R, r, t, c, xc⟩ := h
  refine ⟨ρ, al, M, Ex, _, r, t, fun H1 al1 M1 k n1 h1 => ?_, xc⟩
  cases k with
  | true => rw [if_pos rfl]; exact ⟨ρ, al1, M1, Ex, R, r.go n1, h1, c.nxt n1, xc.nxt n1⟩
  | false => rw [if_neg Bool.false_ne_true]; exact ⟨ρ, al1, M1, Ex, R, r.go n1, h1, c.nxt n1, xc.nxt n1⟩

/-! ### argument lists, displays -/
def aNil : SA := fun _ _ M R => R [] M
def aCons (ta : SE) (tr : SA) : SA := fun Ex ρ M R => ta Ex ρ M fun x M1 => tr Ex ρ M1 fun xs M2 => R (x :: xs) M2
variable {es : List Expr} {tt : SA}
theorem ma_nil : MA X G [] aNil := by
  refine fun W tk => PA.imp pa_nil fun σ H Q h => ?_
  obtain ⟨ρ, al, M, Ex, R, r, t, c, xc⟩ := h
  exact c _ _ _ _ _ r.m.go RDats.nil rfl t
theorem ma_cons (ha : ME X G a ta) (hr : MA X G es tt) (hs : starEach (a :: es) X.env = (false, eval a X.env) :: starEach es X.env) : MA X G (a :: es) (aCons ta tt) := by
  refine fun W tk => PA.imp (pa_cons (ha W tk) (hr W tk) hs) fun σ H Q h => ?_
  obtain ⟨ρ, al, M, Ex, R, r, t, c, xc⟩ := h
  exact ⟨ρ, al, M, Ex, _, r, t, fun H1 al1 M1 x d n1 r1 h1 => ⟨ρ, al1, M1, Ex, _, r.go n1, h1, fun H2 al2 M2 xs ds n2 r2 l2 h2 => c _ _ _ _ _ (n1.trans n2) (RDats.cons (r1.mono n2.k n2.p) r2) (by rw [List.length_cons, List.length_cons, l2]) h2, xc.nxt n1⟩, xc⟩
def eTup (tt : SA) : SE := fun Ex ρ M R => tt Ex ρ M fun ds M1 => ds.length ≤ sizeLine ∧ R (.tup ds) M1
def eLst (tt : SA) : SE := fun Ex ρ M R => tt Ex ρ M fun ds M1 => ds.length ≤ sizeLine ∧ R (.ref M1.length) (M1 ++ [.lst ds])
theorem me_tup {x1} (h : MA X G es tt) : ME X G (.Tuple es x1 pos) (eTup tt) := by
  refine fun W tk => PE.imp (pe_tup (h W tk)) fun σ H Q h => ?_
  obtain ⟨ρ, al, M, Ex, R, r, t, c, xc⟩ := h
  refine ⟨ρ, al, M, Ex, _, r, t, fun H1 al1 M1 vs ds n1 r1 l1 h1 => ?_, xc⟩
  obtain ⟨hz, h1⟩ := h1
  refine ⟨by rw [← r1.length]; exact hz, fun p hp => ?_⟩
  have n2 := n1.m.tup (vs := vs) hp
  exact c _ _ _ _ _ (n1.trans n2) (RDat.tup_of (SqT.of upd_same) (r1.mono n2.k n2.p)) h1
theorem rdat_new {H : Hp} {al : List Addr} {M : Mem} {p : Addr} (hl : al.length = M.length) : RDat G.K H (al ++ [p]) (.ref M.length) (.ref p) := by
  rw [RDat, ← hl]
  exact ⟨p, by rw [List.getElem?_append_right (Nat.le_refl _), Nat.sub_self]; rfl, rfl⟩
theorem me_lst (h : MA X G es tt) : ME X G (.List es pos) (eLst tt) := by
  refine fun W tk => PE.imp (pe_lst (h W tk)) fun σ H Q h => ?_
  obtain ⟨ρ, al, M, Ex, R, r, t, c, xc⟩ := h
  refine ⟨ρ, al, M, Ex, _, r, t, fun H1 al1 M1 vs ds n1 r1 l1 h1 => ?_, xc⟩
  obtain ⟨hz, h1⟩ := h1
  refine ⟨by rw [← r1.length]; exact hz, fun p hp => ?_⟩
  have n2 := n1.m.new (o := .lst ds) (u := .lst vs) hp ⟨vs, rfl, r1⟩
  exact c _ _ _ _ _ (n1.trans n2) (rdat_new n1.m.len) h1

/-! ### calls of built-ins -/
abbrev OpN := List D → Mem → KD → Prop
def LCall (G : GC) (g : OpN) : List V → Hp → VK → Prop := fun xs H Q => ∃ al M ds R, RMem G H al M ∧ RDats G.K H al ds xs ∧ g ds M R ∧ VCl G H al R Q
def eCallB (g : OpN) (tt : SA) : SE := fun Ex ρ M R => tt Ex ρ M fun ds M1 => g ds M1 R
theorem le_callB {W : WX} {g : OpN} {n : Nat} {σ : L2.St} {H : Hp} {Q : VK} (h : LE G W (eCallB g tt) σ H Q) : tCB (LCall G g) (LA G W n tt) σ H Q := by
  obtain ⟨ρ, al, M, Ex, R, r, t, c, xc⟩ := h
  exact ⟨ρ, al, M, Ex, _, r, t, fun H1 al1 M1 vs ds n1 r1 l1 h1 => ⟨al1, M1, ds, R, n1.m, r1, h1, c.nxt n1⟩, xc⟩
theorem me_callB {g : OpN} {x : Str} {id : String} {p : Pos} (hc : CallR X (.builtin id) (LCall G g)) (hg : Gl X x) (hm : X.mg x = none) (hv : bootBuiltins x = some (.builtin id)) (ha : MA X G (a :: es) tt) (hn : x ≠ "__name__") (hdb : (x == ("__debug__" : Str)) = false)
    (he : starEach (a :: es) X.env = (false, eval a X.env) :: starEach es X.env) (hpl : (backTo pos (starEach es X.env)).any (·.1) = false) : ME X G (.Call (.Name x p) (a :: es) [] pos) (eCallB g tt) :=
  fun W tk => PE.imp (pe_callB hc hg hm hv (ha W tk) hn hdb he hpl) fun _ _ _ h => le_callB h
theorem me_callTy {g : OpN} {x : Str} {T : String} {p : Pos} (hc : CallR X (.type T) (LCall G g)) (hg : Gl X x) (hm : X.mg x = none) (hv : bootBuiltins x = some (.type T)) (ha : MA X G (a :: es) tt) (hn : x ≠ "__name__") (hdb : (x == ("__debug__" : Str)) = false)
    (he : starEach (a :: es) X.env = (false, eval a X.env) :: starEach es X.env) (hpl : (backTo pos (starEach es X.env)).any (·.1) = false) : ME X G (.Call (.Name x p) (a :: es) [] pos) (eCallB g tt) :=
  fun W tk => PE.imp (pe_callTy hc hg hm hv (ha W tk) hn hdb he hpl) fun _ _ _ h => le_callB h

/-! ### methods of built-in types -/
abbrev OpM := D → List D → Mem → KD → Prop
def LMt (G : GC) (g : OpM) : V → List V → Hp → VK → Prop := fun x xs H Q => ∃ al M d ds R, RMem G H al M ∧ RDat G.K H al d x ∧ RDats G.K H al ds xs ∧ g d ds M R ∧ VCl G H al R Q
def eMt (g : OpM) (to : SE) (tt : SA) : SE := fun Ex ρ M R => to Ex ρ M fun d M1 => tt Ex ρ M1 fun ds M2 => g d ds M2 R

/-! ### calls of defs -/
/-- a def's promise over data -/
def LSp (G : GC) (F : Fn) (n : Nat) : Sp := fun vs H Q E => ∃ al M ds R Ex, vs.length = n ∧ RMem G H al M ∧ RDats G.K H al ds vs ∧ F ds M R Ex ∧ VCl G H al R Q ∧
  ∀ H' al' M' x cls dd, Nxt G H al H' al' M' → RExn G.K G.cm H' al' x cls dd → Ex x M' → E cls dd H'
def eCall (F : Fn) (tt : SA) : SE := fun Ex ρ M R => tt Ex ρ M fun ds M1 => F ds M1 R Ex
theorem RDats.vlen {K : PySem.W.Frag} {H : Hp} {al : List Addr} {ds : List D} {vs : List V} (r : RDats K H al ds vs) : vs.length = ds.length := r.length.symm
theorem me_call {k : Nat} {f : Addr} {fd : FuncData} {ps : List Str} {x : Str} {p : Pos} {F : Fn} {n : Nat} (hF : FnOk X.prog X.w X.K X.mg X.base (CX X.prog X.w) k f fd ps (LSp G F n)) (hr : Room k X.A) (hg : Gl X x) (hm : X.mg x = some (.ref f)) (hk : PySem.W.keepIn X.K (.ref f) = true) (hb : Binds X.K fd ps [])
    (ha : MA X G (a :: es) tt) (hn : (a :: es).length = n) (hdb : (x == ("__debug__" : Str)) = false) (he : starEach (a :: es) X.env = (false, eval a X.env) :: starEach es X.env) (hpl : (backTo pos (starEach es X.env)).any (·.1) = false) :
    ME X G (.Call (.Name x p) (a :: es) [] pos) (eCall F tt) := by
  intro W tk
  have hx : ∀ σ, PassesAt (CX X.prog X.w) X σ ((fun σ cls dd H => W cls dd σ H) σ) := fun σ => passAt tk σ
  refine PE.imp (pe_callSD hF hr hg hm hk hb .nil hx (ha W tk) hdb he hpl) fun σ H Q h => ?_
  obtain ⟨ρ, al, M, Ex, R, r, t, c, xc⟩ := h
  refine ⟨ρ, al, M, Ex, _, r, t, fun H1 al1 M1 vs ds n1 r1 l1 h1 => ?_, xc⟩
  show LSp G F n (vs ++ []) H1 Q _
  rw [List.append_nil]
  exact ⟨al1, M1, ds, R, Ex, by rw [r1.vlen, l1, hn], n1.m, r1, h1, c.nxt n1, fun H' al' M' x cls dd n' rx ex => xc _ _ _ _ _ _ (n1.trans n') rx ex⟩
end
end DN

set_option maxHeartbeats 4000000
/-! operations by values -/
namespace DN
open PySem PySem.Spec L2

/-! ### data as the library's data -/
mutual
def toPy : D → PyData
  | .non => .none | .bl b => .bool b | .int i => .int i | .str x => .str x | .tup xs => .tuple (toPys xs) | .ref _ => .none | .con _ => .none
def toPys : List D → List PyData
  | [] => []
  | x :: xs => toPy x :: toPys xs
end
mutual
def noref : D → Bool
  | .ref _ => false | .con _ => false | .tup xs => norefs xs | _ => true
def norefs : List D → Bool
  | [] => true
  | x :: xs => noref x && norefs xs
end
mutual
def eqD : D → D → Bool
  | .non, .non => true
  | .bl a, .bl b => a == b
  | .bl a, .int j => (if a then 1 else 0) == j
  | .int i, .bl b => i == (if b then 1 else 0)
  | .int i, .int j => i == j
  | .str x, .str y => x == y
  | .tup xs, .tup ys => eqL xs ys
  | _, _ => false
def eqL : List D → List D → Bool
  | [], [] => true
  | x :: xs, y :: ys => eqD x y && eqL xs ys
  | _, _ => false
end
mutual
theorem eqv_toPy : ∀ (x y : D), noref x = true → noref y = true → PyData.eqv (toPy x) (toPy y) = eqD x y
  | .tup xs, .tup ys, h1, h2 => by
    simp only [toPy, PyData.eqv, eqD]
    exact eqvs_toPys xs ys (by simpa [noref] using h1) (by simpa [noref] using h2)
  | .ref _, _, h1, _ => by simp [noref] at h1
  | .con _, _, h1, _ => by simp [noref] at h1
  | .non, .con _, _, h2 => by simp [noref] at h2
  | .bl _, .con _, _, h2 => by simp [noref] at h2
  | .int _, .con _, _, h2 => by simp [noref] at h2
  | .str _, .con _, _, h2 => by simp [noref] at h2
  | .tup _, .con _, _, h2 => by simp [noref] at h2
  | .non, .ref _, _, h2 => by simp [noref] at h2
  | .bl _, .ref _, _, h2 => by simp [noref] at h2
  | .int _, .ref _, _, h2 => by simp [noref] at h2
  | .str _, .ref _, _, h2 => by simp [noref] at h2
  | .tup _, .ref _, _, h2 => by simp [noref] at h2
  | .non, .non, _, _ => by simp [toPy, PyData.eqv, eqD]
  | .non, .bl _, _, _ => by simp [toPy, PyData.eqv, eqD]
  | .non, .int _, _, _ => by simp [toPy, PyData.eqv, eqD]
  | .non, .str _, _, _ => by simp [toPy, PyData.eqv, eqD]
  | .non, .tup _, _, _ => by simp [toPy, PyData.eqv, eqD]
  | .bl _, .non, _, _ => by simp [toPy, PyData.eqv, eqD]
  | .bl _, .bl _, _, _ => by simp [toPy, PyData.eqv, eqD]
  | .bl _, .int _, _, _ => by simp [toPy, PyData.eqv, eqD]
  | .bl _, .str _, _, _ => by simp [toPy, PyData.eqv, eqD]
  | .bl _, .tup _, _, _ => by simp [toPy, PyData.eqv, eqD]
  | .int _, .non, _, _ => by simp [toPy, PyData.eqv, eqD]
  | .int _, .bl _, _, _ => by simp [toPy, PyData.eqv, eqD]
  | .int _, .int _, _, _ => by simp [toPy, PyData.eqv, eqD]
  | .int _, .str _, _, _ => by simp [toPy, PyData.eqv, eqD]
  | .int _, .tup _, _, _ => by simp [toPy, PyData.eqv, eqD]
  | .str _, .non, _, _ => by simp [toPy, PyData.eqv, eqD]
  | .str _, .bl _, _, _ => by simp [toPy, PyData.eqv, eqD]
  | .str _, .int _, _, _ => by simp [toPy, PyData.eqv, eqD]
  | .str _, .str _, _, _ => by simp [toPy, PyData.eqv, eqD]
  | .str _, .tup _, _, _ => by simp [toPy, PyData.eqv, eqD]
  | .tup _, .non, _, _ => by simp [toPy, PyData.eqv, eqD]
  | .tup _, .bl _, _, _ => by simp [toPy, PyData.eqv, eqD]
  | .tup _, .int _, _, _ => by simp [toPy, PyData.eqv, eqD]
  | .tup _, .str _, _, _ => by simp [toPy, PyData.eqv, eqD]
theorem eqvs_toPys : ∀ (xs ys : List D), norefs xs = true → norefs ys = true → PyData.eqvAll (toPys xs) (toPys ys) = eqL xs ys
  | [], [], _, _ => by simp [toPys, PyData.eqvAll, eqL]
  | [], _ :: _, _, _ => by simp [toPys, PyData.eqvAll, eqL]
  | _ :: _, [], _, _ => by simp [toPys, PyData.eqvAll, eqL]
  | x :: xs, y :: ys, h1, h2 => by
    simp only [norefs, Bool.and_eq_true] at h1 h2
    simp only [toPys, PyData.eqvAll, eqL]
    rw [eqv_toPy x y h1.1 h2.1, eqvs_toPys xs ys h1.2 h2.2]
end
section
variable {K : PySem.W.Frag} {H : Hp} {al : List Addr}
mutual
theorem dp_of : ∀ {d : D} {v : V}, RDat K H al d v → noref d = true → Dp K H v (toPy d)
  | .non, _, h, _ => by rw [RDat] at h; subst h; exact .non
  | .bl b, _, h, _ => by rw [RDat] at h; subst h; exact .bl b
  | .int i, _, h, _ => by rw [RDat] at h; subst h; exact .int i
  | .str x, _, h, _ => by rw [RDat] at h; subst h; exact .str x
  | .tup xs, _, h, n => by
    rw [RDat] at h
    obtain ⟨a, vs, rfl, hs, hl⟩ := h
    exact .tup hs (dps_of hl (by simpa [noref] using n))
  | .ref _, _, _, n => by simp [noref] at n
  | .con _, _, _, n => by simp [noref] at n
theorem dps_of : ∀ {ds : List D} {vs : List V}, RDats K H al ds vs → norefs ds = true → DpAll K H vs (toPys ds)
  | [], _, h, _ => by rw [RDats] at h; subst h; exact .nil
  | x :: xs, _, h, n => by
    rw [RDats] at h
    obtain ⟨v, r, rfl, h1, h2⟩ := h
    simp only [norefs, Bool.and_eq_true] at n
    exact .cons (dp_of h1 n.1) (dps_of h2 n.2)
end
end
/-- no mutable objects within, texts of signs, not too deep -/
def okD (d : D) : Prop := noref d = true ∧ (toPy d).depth ≤ 64
def okL (ds : List D) : Prop := norefs ds = true
mutual
theorem plain_toPy : ∀ d : D, (toPy d).plain = true
  | .non => rfl | .bl _ => rfl | .int _ => rfl | .str _ => rfl | .ref _ => rfl | .con _ => rfl
  | .tup xs => by simpa [toPy, PyData.plain] using plain_toPys xs
theorem plain_toPys : ∀ ds : List D, PyData.plainAll (toPys ds) = true
  | [] => rfl
  | d :: ds => by simp [toPys, PyData.plainAll, plain_toPy d, plain_toPys ds]
end

/-! ### the operations -/
def mlst (M : Mem) (n : Nat) : Option (List D) := match M[n]? with | some (.lst xs) => some xs | _ => none
def opAdd : Op2 := fun x y M R => match x, y with
  | .int i, .int j => R (.int (i + j)) M
  | .str a, .str b => a.length + b.length ≤ sizeLine ∧ R (.str (a ++ b)) M
  | .tup xs, .tup ys => xs.length + ys.length ≤ sizeLine ∧ R (.tup (xs ++ ys)) M
  | .ref a, .ref b => match mlst M a, mlst M b with
    | some xs, some ys => xs.length + ys.length ≤ sizeLine ∧ R (.ref M.length) (M ++ [.lst (xs ++ ys)])
    | _, _ => False
  | _, _ => False
def opSub : Op2 := fun x y M R => match x, y with
  | .int i, .int j => R (.int (i - j)) M
  | _, _ => False
def repS (x : Str) (n : Nat) : Str := ⟨(List.replicate n x.cps.toList).flatten.toArray⟩
def opMul : Op2 := fun x y M R => match x, y with
  | .int i, .int j => IntMulOk i j ∧ R (.int (i * j)) M
  | .str a, .int j => 0 ≤ j ∧ j < 2 ^ 62 ∧ a.length * j.toNat ≤ 1000000 ∧ R (.str (repS a j.toNat)) M
  | .tup xs, .int j => (xs.isEmpty = false ∧ 2 ≤ j ∧ j ≤ 1000000 ∧ xs.length * j.toNat ≤ 1000000) ∧ R (.tup (List.replicate j.toNat xs).flatten) M
  | .ref n, .int j => match mlst M n with
    | some xs => (-(2 ^ 63) ≤ j ∧ j < 2 ^ 63 ∧ xs.length * j.toNat ≤ sizeLine) ∧ R (.ref M.length) (M ++ [.lst (List.replicate j.toNat xs).flatten])
    | none => False
  | _, _ => False
def opDiv : Op2 := fun x y M R => match x, y with
  | .int i, .int j => 0 < j ∧ j.natAbs.log2 < 9000 ∧ R (.int (i / j)) M
  | _, _ => False
def opMod : Op2 := fun x y M R => match x, y with
  | .int i, .int j => 0 < j ∧ R (.int (i % j)) M
  | _, _ => False
def opPow : Op2 := fun x y M R => match x, y with
  | .int i, .int j => (0 ≤ j ∧ j ≤ 1000000 ∧ i.natAbs < 2 ^ 64) ∧ R (.int (i ^ j.toNat)) M
  | _, _ => False
def opNeg : Op1 := fun x M R => match x with
  | .int i => R (.int (-i)) M
  | _ => False
def scalD : D → D → Bool
  | .non, .non => true | .non, .int _ => true | .int _, .non => true | .non, .bl _ => true | .bl _, .non => true | .non, .str _ => true | .str _, .non => true
  | .int _, .int _ => true | .bl _, .bl _ => true | .str _, .str _ => true
  | .int _, .str _ => true | .str _, .int _ => true | .bl _, .str _ => true | .str _, .bl _ => true
  | _, _ => false
def pyM (M : Mem) : D → Option PyData
  | .ref n => match lstAt M n with | some xs => if norefs xs = true then some (.list (toPys xs)) else none | none => none
  | d => if noref d = true then some (toPy d) else none
def eqM (x y : D) (M : Mem) (R : Bool → Prop) : Prop := match scalD x y with
  | true => R (eqD x y)
  | false => match pyM M x, pyM M y with
    | some p, some q => min p.depth q.depth ≤ 64 ∧ R (PyData.eqv p q)
    | _, _ => False
def opEq : Op2 := fun x y M R => eqM x y M fun b => R (.bl b) M
def opNe : Op2 := fun x y M R => eqM x y M fun b => R (.bl (!b)) M
abbrev ltS (a b : Str) : Bool := decide (a.cps.toList < b.cps.toList)
def opLt : Op2 := fun x y M R => match x, y with
  | .int i, .int j => R (.bl (decide (i < j))) M
  | .str a, .str b => R (.bl (ltS a b)) M
  | _, _ => False
def opLe : Op2 := fun x y M R => match x, y with
  | .int i, .int j => R (.bl (decide (i ≤ j))) M
  | .str a, .str b => R (.bl (!ltS b a)) M
  | _, _ => False
def opGt : Op2 := fun x y M R => match x, y with
  | .int i, .int j => R (.bl (decide (j < i))) M
  | .str a, .str b => R (.bl (ltS b a)) M
  | _, _ => False
def opGe : Op2 := fun x y M R => match x, y with
  | .int i, .int j => R (.bl (decide (j ≤ i))) M
  | .str a, .str b => R (.bl (!ltS a b)) M
  | _, _ => False
def isNon : D → Bool | .non => true | _ => false
def opIs : Op2 := fun x y M R => match y with
  | .non => R (.bl (isNon x)) M
  | _ => False
def opIsNot : Op2 := fun x y M R => match y with
  | .non => R (.bl (!isNon x)) M
  | .bl b => (match x with | .bl a => R (.bl (!decide (a = b))) M | _ => False)
  | _ => False
def strIn (a b : Str) : Bool := !(Builtin.Str.occurrences b a 0 b.length 1).isEmpty
def inD (x : D) (ys : List D) : Bool := ys.any fun z => eqD z x
def inM (x y : D) (M : Mem) (R : Bool → Prop) : Prop := match y with
  | .str b => match x with | .str a => R (strIn a b) | _ => False
  | .tup ys => okD x ∧ okL ys ∧ R (inD x ys)
  | .ref n => match lstAt M n with
    | some ys => okD x ∧ okL ys ∧ R (inD x ys)
    | none => False
  | _ => False
def opIn : Op2 := fun x y M R => inM x y M fun b => R (.bl b) M
def opNotIn : Op2 := fun x y M R => inM x y M fun b => R (.bl (!b)) M
/-- an index of any sign -/
def ixM (x y : D) (M : Mem) (R : D → Prop) : Prop := match y with
  | .int i => match x with
    | .tup xs => match atI xs i with | some d => R d | none => False
    | .str z => z.length ≤ sizeLine ∧ (match atI z.cps.toList i with | some c => R (.str ⟨#[c]⟩) | none => False)
    | .ref n => match lstAt M n with | some xs => (match atI xs i with | some d => R d | none => False) | none => False
    | .con xs => match atI xs i with | some d => R d | none => False
    | _ => False
  | _ => False
def opIx : Op2 := fun x y M R => ixM x y M fun d => R d M

theorem mlst_lst {M : Mem} {n : Nat} {xs : List D} (h : mlst M n = some xs) : M[n]? = some (.lst xs) := by
  unfold mlst at h
  cases e : M[n]? with
  | none => rw [e] at h; cases h
  | some o => rw [e] at h; cases o <;> first | (cases h; rfl) | cases h

section
variable {X : Cx} {G : GC}
theorem dec_intD {i j : Int} : decide (V.int i = V.int j) = (i == j) := dec_int
theorem or_add (hK : X.K = G.K) : OpR X (binaryOp .Add) (LR G opAdd) := by
  intro pins s σ H x y v u Q I rx ry h
  obtain ⟨al, M, dx, dy, R, m, r1, r2, g, c⟩ := h
  cases dx with
  | int i =>
    cases dy with
    | int j =>
      simp only [RDat] at r1 r2; subst r1 r2
      exact op_add pins s σ H _ _ v u Q I rx ry ⟨i, j, rfl, rfl, c _ _ _ _ _ m.go (by rw [RDat]) g⟩
    | _ => exact (g : False).elim
  | str i =>
    cases dy with
    | str j =>
      simp only [RDat] at r1 r2; subst r1 r2
      obtain ⟨hz, g⟩ := (g : _ ∧ _)
      exact op_add_str pins s σ H _ _ v u Q I rx ry ⟨i, j, rfl, rfl, hz, c _ _ _ _ _ m.go (by rw [RDat]) g⟩
    | _ => exact (g : False).elim
  | tup xs =>
    cases dy with
    | tup ys =>
      rw [RDat] at r1 r2
      obtain ⟨a, vs, rfl, s1, l1⟩ := r1
      obtain ⟨b, ws, rfl, s2, l2⟩ := r2
      obtain ⟨hz, g⟩ := (g : _ ∧ _)
      refine op_catA pins s σ H _ _ v u Q I rx ry ⟨a, b, vs, ws, rfl, rfl, by rw [hK]; exact s1, by rw [hK]; exact s2, by rw [← l1.length, ← l2.length]; exact hz, fun e => ?_, fun _ e => ?_, fun _ _ p hp => ?_⟩
      · subst e
        have e' : xs = [] := List.eq_nil_of_length_eq_zero l1.length
        subst e'
        exact c _ _ _ _ _ m.go (RDat.tup_of s2 l2) g
      · subst e
        have e' : ys = [] := List.eq_nil_of_length_eq_zero l2.length
        subst e'
        rw [List.append_nil] at g
        exact c _ _ _ _ _ m.go (RDat.tup_of s1 l1) g
      · have n := m.tup (vs := vs ++ ws) hp
        exact c _ _ _ _ _ n (RDat.tup_of (SqT.of upd_same) ((l1.append l2).mono n.k n.p)) g
    | _ => exact (g : False).elim
  | ref a =>
    cases dy with
    | ref b =>
      have g : (match mlst M a, mlst M b with
        | some xs, some ys => xs.length + ys.length ≤ sizeLine ∧ R (.ref M.length) (M ++ [.lst (xs ++ ys)])
        | _, _ => False) := g
      cases e1 : mlst M a with
      | none => simp [e1] at g
      | some xs =>
        cases e2 : mlst M b with
        | none => simp [e1, e2] at g
        | some ys =>
          simp only [e1, e2] at g
          obtain ⟨hz, g⟩ := g
          obtain ⟨p, vs, rfl, _, h1, l1⟩ := m.lst r1 (mlst_lst e1)
          obtain ⟨q, ws, rfl, _, h2, l2⟩ := m.lst r2 (mlst_lst e2)
          refine op_cat pins s σ H _ _ v u Q I rx ry ⟨p, q, vs, ws, rfl, rfl, h1, h2, by rw [← l1.length, ← l2.length]; exact hz, fun z hp => ?_⟩
          have n := m.new (o := .lst (xs ++ ys)) (u := .lst (vs ++ ws)) hp ⟨_, rfl, l1.append l2⟩
          exact c _ _ _ _ _ n (rdat_new m.len) g
    | _ => exact (g : False).elim
  | _ => exact (g : False).elim
theorem or_int {f : Value → Value → Sem Value} {C : Int → Int → Prop} {k : Int → Int → Int} (ho : OpR X f (rI C fun i j => .int (k i j)))
    {g : Op2} (hg : ∀ x y M R, g x y M R → ∃ i j, x = .int i ∧ y = .int j ∧ C i j ∧ R (.int (k i j)) M) : OpR X f (LR G g) := by
  intro pins s σ H x y v u Q I rx ry h
  obtain ⟨al, M, dx, dy, R, m, r1, r2, gg, c⟩ := h
  obtain ⟨i, j, rfl, rfl, hc, gg⟩ := hg _ _ _ _ gg
  simp only [RDat] at r1 r2; subst r1 r2
  exact ho pins s σ H _ _ v u Q I rx ry ⟨i, j, rfl, rfl, hc, c _ _ _ _ _ m.go (by rw [RDat]) gg⟩
theorem or_sub : OpR X (binaryOp .Sub) (LR G opSub) := by
  intro pins s σ H x y v u Q I rx ry h
  obtain ⟨al, M, dx, dy, R, m, r1, r2, g, c⟩ := h
  cases dx with
  | int i =>
    cases dy with
    | int j =>
      simp only [RDat] at r1 r2; subst r1 r2
      exact op_sub pins s σ H _ _ v u Q I rx ry ⟨i, j, rfl, rfl, c _ _ _ _ _ m.go (by rw [RDat]) g⟩
    | _ => exact (g : False).elim
  | _ => exact (g : False).elim
theorem op_mulK : OpR X (binaryOp .Mult) (rI IntMulOk fun i j => .int (i * j)) := opI fun _ _ _ _ _ _ _ hc q => PyProof.Rows.mul_int q hc
theorem foldl_app (l : List (Array Nat)) : ∀ acc : Array Nat, (l.foldl (· ++ ·) acc).toList = acc.toList ++ (l.map (·.toList)).flatten := by
  induction l with
  | nil => intro acc; simp
  | cons a r ih => intro acc; rw [List.foldl_cons, ih]; simp
theorem mul_repS (x : Str) (n : Int) (h0 : 0 ≤ n) : Txt.mul x n = repS x n.toNat := by
  have inj : ∀ {a b : Str}, a.cps.toList = b.cps.toList → a = b := fun {a b} h => Str.ext' (Array.toList_inj.mp h)
  unfold Txt.mul
  by_cases h1 : n < 1
  · rw [if_pos h1]
    have e : n.toNat = 0 := by omega
    rw [e]; rfl
  · rw [if_neg h1]
    by_cases h2 : (n == 1 || x.length == 0) = true
    · rw [if_pos h2]
      refine inj ?_
      rcases Bool.or_eq_true_iff.mp h2 with e | e
      · have e' : n.toNat = 1 := by have := beq_iff_eq.mp e; omega
        simp [repS, e']
      · have e' : x.cps.toList = [] := by
          have := beq_iff_eq.mp e
          exact List.eq_nil_of_length_eq_zero (by simpa [Str.length] using this)
        simp [repS, e']
    · rw [if_neg h2]
      refine inj ?_
      show (List.foldl (· ++ ·) #[] (List.replicate n.toNat x.cps)).toList = _
      rw [foldl_app]
      simp [repS]
theorem RDats.rep {K : PySem.W.Frag} {H : Hp} {al : List Addr} {xs : List D} {vs : List V} (h : RDats K H al xs vs) : ∀ n : Nat, RDats K H al (List.replicate n xs).flatten (List.replicate n vs).flatten
  | 0 => RDats.nil
  | n + 1 => by
    rw [List.replicate_succ, List.replicate_succ, List.flatten_cons, List.flatten_cons]
    exact h.append (RDats.rep h n)
/-! ### a tuple many times -/
def rRepW (K : PySem.W.Frag) : R2 := fun x y H Q => ∃ a j vs, x = .ref a ∧ y = .int j ∧ SqT K H a vs ∧ vs ≠ [] ∧ 2 ≤ j ∧ j ≤ 1000000 ∧ vs.length * j.toNat ≤ 1000000 ∧ ∀ p, H p = none → Q (.ref p) (upd H p (.tup (List.replicate j.toNat vs).flatten))
theorem op_repW {X : Cx} : OpR X (binaryOp .Mult) (rRepW X.K) := by
  rintro pins st σ H x y v u Q I rx ry ⟨a, j, vs, rfl, rfl, sq, ne, j2, j3, mx, q⟩
  cases rx
  obtain ⟨tk, rfl⟩ := ry
  obtain ⟨ws, rel, ⟨⟨cl, di, da, so⟩, got, e1, nn, e2⟩, _⟩ := I.tuple sq
  dsimp only at e1 e2
  subst e1 e2
  have len : ws.length = vs.length := rel.length.symm
  have emp : ws.toArray.isEmpty = false := by
    cases ws with
    | nil => exact absurd (List.eq_nil_of_length_eq_zero len.symm) ne
    | cons _ _ => rfl
  have size : ws.toArray.size = vs.length := by simp [len]
  have all : (List.replicate j.toNat ws).flatten.length = vs.length * j.toNat := by rw [PyProof.Rows.lm_len_rep_flat, len, Nat.mul_comm]
  have all2 : (List.replicate j.toNat vs).flatten.length = vs.length * j.toNat := by rw [PyProof.Rows.lm_len_rep_flat, Nat.mul_comm]
  have prod : ((ws.toArray.size : Nat) : Int) * j = ((vs.length * j.toNat : Nat) : Int) := by rw [size, Int.natCast_mul, Int.toNat_of_nonneg (by omega)]
  have sl := sizeLine_eq
  have k0 : (decide (j < -(2 ^ 63)) || decide (j ≥ 2 ^ 63)) = false := by simp; omega
  have k1 : (ws.toArray.isEmpty || j == 1) = false := by rw [emp]; simp; omega
  have k2 : (decide (j ≤ 0) || ws.toArray.isEmpty) = false := by rw [emp]; simp; omega
  have k4 : Builtin.Tuple.tupleTooMany (((ws.toArray.size : Nat) : Int) * j) = false := by
    rw [prod]
    exact decide_eq_false (by omega)
  have walk := tuple_mulW a ws.toArray nn di so j tk k0 k1 k2 (by rw [prod]; omega) k4 (by rw [size_rep, List.size_toArray, all]; omega)
  refine wpAny_binaryOp_repeat_ref (T := "tuple") (U := "int") (by decide) ⟨_, got, rfl⟩ (fun z => typeIs_int z j tk) noFill_tuple_mul F.fills_int_mul F.slot_int_rmul repeat_tuple F.slot_int_index.lookup ?_
  refine call_meets F.slot_int_rmul (typeIs_int st j tk) F.entry_int_rmul (F.args_int_rmul_2 _ _) (int_rmul_tuple j tk a ws.toArray nn di so) ⟨got, rfl, ⟨_, got, rfl⟩, ?_⟩
  refine call_meets F.slot_tuple_mul ⟨_, got, rfl⟩ F.entry_tuple_mul (F.args_tuple_mul_2 _ _) walk ⟨got, ?_⟩
  rw [size_rep]
  have put := I.laid (t' := st.toks) (o := .tup (List.replicate j.toNat vs).flatten) (fun _ _ z => Heap.get?_push_of_some _ z) (Nat.le_refl _) ⟨by rw [all2]; omega, _, rel.rep j.toNat, PyProof.Rows.IsTup.new _ _⟩
  exact ⟨.ref st.heap.objs.size, _, put, rfl, q _ (I.hok.fresh (Nat.le_refl _))⟩
theorem or_mul (hK : X.K = G.K) : OpR X (binaryOp .Mult) (LR G opMul) := by
  intro pins s σ H x y v u Q I rx ry h
  obtain ⟨al, M, dx, dy, R, m, r1, r2, g, c⟩ := h
  cases dx with
  | int i =>
    cases dy with
    | int j =>
      obtain ⟨hc, g⟩ := (g : _ ∧ _)
      simp only [RDat] at r1 r2; subst r1 r2
      exact op_mulK pins s σ H _ _ v u Q I rx ry ⟨i, j, rfl, rfl, hc, c _ _ _ _ _ m.go (by rw [RDat]) g⟩
    | _ => exact (g : False).elim
  | str z =>
    cases dy with
    | int j =>
      obtain ⟨h0, h1, h2, g⟩ := (g : _ ∧ _ ∧ _ ∧ _)
      simp only [RDat] at r1 r2; subst r1 r2
      obtain ⟨t, rfl⟩ := rx
      obtain ⟨t', rfl⟩ := ry
      refine SB.mul ⟨?_, fun h3 h4 => ?_, fun h3 h4 => ?_⟩ fun t2 k => ⟨.str _, H, I.tok _, ⟨_, by rw [mul_repS z j h0]⟩, c _ _ _ _ _ m.go (by rw [RDat]) g⟩
      · rw [decide_eq_false (by omega), decide_eq_false (by omega)]; rfl
      · have hj : 0 < j := by omega
        have e1 : (z.length : Int) * j ≤ 1000000 := by
          have : ((z.length * j.toNat : Nat) : Int) ≤ 1000000 := by omega
          rw [Int.natCast_mul, Int.toNat_of_nonneg h0] at this; exact this
        have e2 : (z.length : Int) ≤ (2 ^ 63 - 1) / j := by
          rw [Int.le_ediv_iff_mul_le hj]; omega
        omega
      · show decide (_ > sizeLine) = false
        refine decide_eq_false ?_
        have : sizeLine = 16777216 := sizeLine_eq
        omega
    | _ => exact (g : False).elim
  | tup xs =>
    cases dy with
    | int j =>
      obtain ⟨⟨h0, h1, h2, h3⟩, g⟩ := (g : _ ∧ _)
      rw [RDat] at r1
      rw [RDat] at r2
      subst r2
      obtain ⟨a, vs, rfl, s1, l1⟩ := r1
      have l := l1.length
      refine op_repW pins s σ H _ _ v u Q I rx ry ⟨a, j, vs, rfl, rfl, by rw [hK]; exact s1, fun e => ?_, h1, h2, by rw [← l]; exact h3, fun p hp => ?_⟩
      · subst e
        cases xs with
        | nil => cases h0
        | cons _ _ => cases l
      · have n := m.tup (vs := (List.replicate j.toNat vs).flatten) hp
        exact c _ _ _ _ _ n (RDat.tup_of (SqT.of upd_same) ((RDats.rep l1 _).mono n.k n.p)) g
    | _ => exact (g : False).elim
  | ref n =>
    cases dy with
    | int j =>
      have g : (match mlst M n with
        | some xs => (-(2 ^ 63) ≤ j ∧ j < 2 ^ 63 ∧ xs.length * j.toNat ≤ sizeLine) ∧ R (.ref M.length) (M ++ [.lst (List.replicate j.toNat xs).flatten])
        | none => False) := g
      rw [RDat] at r2; subst r2
      cases e1 : mlst M n with
      | none => simp [e1] at g
      | some xs =>
        simp only [e1] at g
        obtain ⟨⟨h0, h1, h2⟩, g⟩ := g
        obtain ⟨p, vs, rfl, _, hh, l1⟩ := m.lst r1 (mlst_lst e1)
        refine op_rep pins s σ H _ _ v u Q I rx ry ⟨p, j, vs, rfl, rfl, hh, h0, h1, by rw [← l1.length]; exact h2, fun z hp => ?_⟩
        have n := m.new (o := .lst (List.replicate j.toNat xs).flatten) (u := .lst (List.replicate j.toNat vs).flatten) hp ⟨_, rfl, RDats.rep l1 _⟩
        exact c _ _ _ _ _ n (rdat_new m.len) g
    | _ => exact (g : False).elim
  | _ => exact (g : False).elim
theorem or_div : OpR X (binaryOp .FloorDiv) (LR G opDiv) := by
  refine or_int op_fdivW fun x y M R g => ?_
  cases x with
  | int i =>
    cases y with
    | int j => obtain ⟨h1, h2, g⟩ := (g : _ ∧ _ ∧ _); exact ⟨i, j, rfl, rfl, ⟨h1, h2⟩, g⟩
    | _ => exact (g : False).elim
  | _ => exact (g : False).elim
theorem or_mod : OpR X (binaryOp .Mod) (LR G opMod) := by
  refine or_int op_mod fun x y M R g => ?_
  cases x with
  | int i =>
    cases y with
    | int j => obtain ⟨h1, g⟩ := (g : _ ∧ _); exact ⟨i, j, rfl, rfl, h1, g⟩
    | _ => exact (g : False).elim
  | _ => exact (g : False).elim
theorem or_pow : OpR X (binaryOp .Pow) (LR G opPow) := by
  refine or_int op_pow fun x y M R g => ?_
  cases x with
  | int i =>
    cases y with
    | int j => obtain ⟨h1, g⟩ := (g : _ ∧ _); exact ⟨i, j, rfl, rfl, h1, g⟩
    | _ => exact (g : False).elim
  | _ => exact (g : False).elim
theorem ur_neg : UnR X (unaryOp .USub) (LU G opNeg) := by
  intro pins s σ H x v Q I rx h
  obtain ⟨al, M, dx, R, m, r1, g, c⟩ := h
  cases dx with
  | int i => rw [RDat] at r1; subst r1; exact un_neg pins s σ H _ v Q I rx ⟨i, rfl, c _ _ _ _ _ m.go (by rw [RDat]) g⟩
  | _ => exact (g : False).elim
/-! comparisons -/
theorem scal_of {H : Hp} {al : List Addr} {x y : D} {v u : V} (r1 : RDat G.K H al x v) (r2 : RDat G.K H al y u) (h : scalD x y = true) : scal v u = true ∧ decide (v = u) = eqD x y := by
  cases x <;> cases y <;> first
    | (simp [scalD] at h; done)
    | (simp only [RDat] at r1 r2; subst r1 r2; refine ⟨rfl, ?_⟩; simp [eqD, Bool.beq_eq_decide_eq]; done)
theorem pyM_ok {H : Hp} {al : List Addr} {M : Mem} {d : D} {v : V} {p : PyData} (m : RMem G H al M) (r : RDat G.K H al d v) (h : pyM M d = some p) : Dp G.K H v p := by
  cases d with
  | ref n =>
    unfold pyM at h
    cases e : lstAt M n with
    | none => simp [e] at h
    | some xs =>
      simp only [e] at h
      by_cases hn : norefs xs = true
      · rw [if_pos hn] at h; cases h
        obtain ⟨a, vs, rfl, hs, l⟩ := m.seq r e
        exact .lst hs (dps_of l hn)
      · rw [if_neg hn] at h; cases h
  | con xs => simp [pyM, noref] at h
  | non => cases h; exact dp_of r rfl
  | bl b => cases h; exact dp_of r rfl
  | int b => cases h; exact dp_of r rfl
  | str b => cases h; exact dp_of r rfl
  | tup xs =>
    have h : (if noref (.tup xs) = true then some (toPy (.tup xs)) else none) = some p := h
    by_cases hn : noref (.tup xs) = true
    · rw [if_pos hn] at h; cases h; exact dp_of r hn
    · rw [if_neg hn] at h; cases h
theorem pyM_plain {M : Mem} {d : D} {p : PyData} (h : pyM M d = some p) : p.plain = true := by
  cases d with
  | ref n =>
    unfold pyM at h
    cases e : lstAt M n with
    | none => simp [e] at h
    | some xs =>
      simp only [e] at h
      by_cases hn : norefs xs = true
      · rw [if_pos hn] at h; cases h
        exact plain_toPys xs
      · rw [if_neg hn] at h; cases h
  | con xs => simp [pyM, noref] at h
  | tup xs =>
    have h : (if noref (.tup xs) = true then some (toPy (.tup xs)) else none) = some p := h
    by_cases hn : noref (.tup xs) = true
    · rw [if_pos hn] at h; cases h; exact plain_toPy _
    · rw [if_neg hn] at h; cases h
  | _ => cases h; rfl
theorem op_eqP (hu : X.A.units + 64 < cLine) : OpR X (compareOp .Eq) (fun x y H Q => ∃ d e, Dp X.K H x d ∧ Dp X.K H y e ∧ d.plain = true ∧ e.plain = true ∧ min d.depth e.depth ≤ 64 ∧ Q (.bl (PyData.eqv d e)) H) := by
  intro pins s σ H x y v u Q I rx ry h
  obtain ⟨d, e, hd, he, sd, se, hm, q⟩ := h
  obtain ⟨as, r1⟩ := Dp.reads I d x v hd rx
  obtain ⟨bs, r2⟩ := Dp.reads I e y u he ry
  exact SeqAt.eq_plain r1 r2 sd se (by omega) ⟨.bl _, H, I, rfl, q⟩
theorem op_neP (hu : X.A.units + 64 < cLine) : OpR X (compareOp .NotEq) (fun x y H Q => ∃ d e, Dp X.K H x d ∧ Dp X.K H y e ∧ d.plain = true ∧ e.plain = true ∧ min d.depth e.depth ≤ 64 ∧ Q (.bl (!PyData.eqv d e)) H) := by
  intro pins s σ H x y v u Q I rx ry h
  obtain ⟨d, e, hd, he, sd, se, hm, q⟩ := h
  obtain ⟨as, r1⟩ := Dp.reads I d x v hd rx
  obtain ⟨bs, r2⟩ := Dp.reads I e y u he ry
  exact SeqAt.ne_plain r1 r2 sd se (by omega) ⟨.bl _, H, I, rfl, q⟩
theorem or_eqv (hK : X.K = G.K) (hu : X.A.units + 64 < cLine) {f : Value → Value → Sem Value} {k : Bool → Bool} (h1 : OpR X f (fun x y H Q => scal x y = true ∧ Q (.bl (k (decide (x = y)))) H))
    (h2 : OpR X f (fun x y H Q => ∃ d e, Dp X.K H x d ∧ Dp X.K H y e ∧ d.plain = true ∧ e.plain = true ∧ min d.depth e.depth ≤ 64 ∧ Q (.bl (k (PyData.eqv d e))) H)) : OpR X f (LR G fun x y M R => eqM x y M fun b => R (.bl (k b)) M) := by
  intro pins s σ H x y v u Q I rx ry h
  obtain ⟨al, M, dx, dy, R, m, r1, r2, g, c⟩ := h
  unfold eqM at g
  cases e : scalD dx dy with
  | true =>
    simp only [e] at g
    obtain ⟨e1, e2⟩ := scal_of r1 r2 e
    exact h1 pins s σ H _ _ v u Q I rx ry ⟨e1, c _ _ _ _ _ m.go (by rw [RDat, e2]) g⟩
  | false =>
    simp only [e] at g
    cases p1 : pyM M dx with
    | none => simp [p1] at g
    | some p =>
      cases p2 : pyM M dy with
      | none => simp [p1, p2] at g
      | some q =>
        simp only [p1, p2] at g
        obtain ⟨s1, g⟩ := g
        exact h2 pins s σ H _ _ v u Q I rx ry ⟨p, q, by rw [hK]; exact pyM_ok m r1 p1, by rw [hK]; exact pyM_ok m r2 p2, pyM_plain p1, pyM_plain p2, s1, c _ _ _ _ _ m.go (by rw [RDat]) g⟩
theorem or_eq (hK : X.K = G.K) (hu : X.A.units + 64 < cLine) : OpR X (compareOp .Eq) (LR G opEq) := or_eqv hK hu (k := fun b => b) op_eq (op_eqP hu)
theorem or_ne (hK : X.K = G.K) (hu : X.A.units + 64 < cLine) : OpR X (compareOp .NotEq) (LR G opNe) := or_eqv hK hu (k := fun b => !b) op_ne (op_neP hu)
theorem or_ord {f : Value → Value → Sem Value} {k : Int → Int → Bool} {l : Str → Str → Bool} (h1 : OpR X f (rI0 fun i j => .bl (k i j))) (h2 : OpR X f (fun x y H Q => ∃ i j, x = .str i ∧ y = .str j ∧ Q (.bl (l i j)) H))
    {g : Op2} (hg : ∀ x y M R, g x y M R → (∃ i j, x = .int i ∧ y = .int j ∧ R (.bl (k i j)) M) ∨ ∃ i j, x = .str i ∧ y = .str j ∧ R (.bl (l i j)) M) : OpR X f (LR G g) := by
  intro pins s σ H x y v u Q I rx ry h
  obtain ⟨al, M, dx, dy, R, m, r1, r2, g, c⟩ := h
  rcases hg _ _ _ _ g with ⟨i, j, rfl, rfl, gg⟩ | ⟨i, j, rfl, rfl, gg⟩
  · simp only [RDat] at r1 r2; subst r1 r2
    exact h1 pins s σ H _ _ v u Q I rx ry ⟨i, j, rfl, rfl, c _ _ _ _ _ m.go (by rw [RDat]) gg⟩
  · simp only [RDat] at r1 r2; subst r1 r2
    exact h2 pins s σ H _ _ v u Q I rx ry ⟨i, j, rfl, rfl, c _ _ _ _ _ m.go (by rw [RDat]) gg⟩
theorem or_lt : OpR X (compareOp .Lt) (LR G opLt) := or_ord op_lt op_lt_str fun x y M R g => by
  cases x <;> cases y <;> first | exact (g : False).elim | exact .inl ⟨_, _, rfl, rfl, g⟩ | exact .inr ⟨_, _, rfl, rfl, g⟩
theorem or_le : OpR X (compareOp .LtE) (LR G opLe) := or_ord op_le op_le_str fun x y M R g => by
  cases x <;> cases y <;> first | exact (g : False).elim | exact .inl ⟨_, _, rfl, rfl, g⟩ | exact .inr ⟨_, _, rfl, rfl, g⟩
theorem or_gt : OpR X (compareOp .Gt) (LR G opGt) := or_ord op_gt op_gt_str fun x y M R g => by
  cases x <;> cases y <;> first | exact (g : False).elim | exact .inl ⟨_, _, rfl, rfl, g⟩ | exact .inr ⟨_, _, rfl, rfl, g⟩
theorem or_ge : OpR X (compareOp .GtE) (LR G opGe) := or_ord op_ge op_ge_str fun x y M R g => by
  cases x <;> cases y <;> first | exact (g : False).elim | exact .inl ⟨_, _, rfl, rfl, g⟩ | exact .inr ⟨_, _, rfl, rfl, g⟩
theorem isNon_ok {H : Hp} {al : List Addr} {x : D} {v : V} (r : RDat G.K H al x v) : decide (v = .non) = isNon x := by
  cases x with
  | tup xs => rw [RDat] at r; obtain ⟨a, vs, rfl, _⟩ := r; rfl
  | ref n => rw [RDat] at r; obtain ⟨a, _, rfl⟩ := r; rfl
  | con xs => rw [RDat] at r; obtain ⟨a, vs, rfl, _⟩ := r; rfl
  | _ => rw [RDat] at r; subst r; rfl
theorem or_is : OpR X (compareOp .Is) (LR G opIs) := by
  intro pins s σ H x y v u Q I rx ry h
  obtain ⟨al, M, dx, dy, R, m, r1, r2, g, c⟩ := h
  cases dy with
  | non => rw [RDat] at r2; exact op_isN pins s σ H _ _ v u Q I rx ry ⟨r2, c _ _ _ _ _ m.go (by rw [RDat, isNon_ok r1]) g⟩
  | _ => exact (g : False).elim
theorem or_isNot : OpR X (compareOp .IsNot) (LR G opIsNot) := by
  intro pins s σ H x y v u Q I rx ry h
  obtain ⟨al, M, dx, dy, R, m, r1, r2, g, c⟩ := h
  cases dy with
  | non => rw [RDat] at r2; exact op_notN pins s σ H _ _ v u Q I rx ry ⟨r2, c _ _ _ _ _ m.go (by rw [RDat, isNon_ok r1]) g⟩
  | bl b =>
    cases dx with
    | bl a => rw [RDat] at r1 r2; exact op_notBl pins s σ H _ _ v u Q I rx ry ⟨a, b, r1, r2, c _ _ _ _ _ m.go (by rw [RDat]) g⟩
    | _ => exact (g : False).elim
  | _ => exact (g : False).elim
end
end DN

set_option maxHeartbeats 4000000
/-! in, indexes, slices, built-ins, methods -/
namespace DN
open PySem PySem.Spec L2

/-! ### in, not in -/
section
variable {X : Cx} {G : GC}
theorem any_eqv : ∀ (ys : List D) (x : D), noref x = true → norefs ys = true → ((toPys ys).any fun z => PyData.eqv z (toPy x)) = inD x ys
  | [], _, _, _ => by simp [toPys, inD]
  | y :: ys, x, h1, h2 => by
    simp only [norefs, Bool.and_eq_true] at h2
    have ih := any_eqv ys x h1 h2.2
    simp only [toPys, List.any_cons, inD] at ih ⊢
    rw [ih, eqv_toPy y x h2.1 h1]
theorem or_inG (hK : X.K = G.K) (hu : X.A.units + 65 < cLine) {op : CmpOp} {k : Bool → Bool}
    (h1 : OpR X (compareOp op) (fun x y H Q => ∃ i j, x = .str i ∧ y = .str j ∧ Q (.bl (k (strIn i j))) H))
    (h2 : OpR X (compareOp op) (fun x y H Q => ∃ d ds, Dp X.K H x d ∧ (Dp X.K H y (.list ds) ∨ Dp X.K H y (.tuple ds)) ∧ d.plain = true ∧ PyData.plainAll ds = true ∧ d.depth ≤ 64 ∧ Q (.bl (k (ds.any fun z => PyData.eqv z d))) H)) :
    OpR X (compareOp op) (LR G fun x y M R => inM x y M fun b => R (.bl (k b)) M) := by
  intro pins s σ H x y v u Q I rx ry h
  obtain ⟨al, M, dx, dy, R, m, r1, r2, g, c⟩ := h
  cases dy with
  | str j =>
    cases dx with
    | str i => simp only [RDat] at r1 r2; subst r1 r2; exact h1 pins s σ H _ _ v u Q I rx ry ⟨i, j, rfl, rfl, c _ _ _ _ _ m.go (by rw [RDat]) g⟩
    | _ => exact (g : False).elim
  | tup ys =>
    obtain ⟨o1, o2, g⟩ := (g : _ ∧ _ ∧ _)
    refine h2 pins s σ H _ _ v u Q I rx ry ⟨toPy dx, toPys ys, by rw [hK]; exact dp_of r1 o1.1, .inr (by rw [hK]; have := dp_of r2 (by simpa [noref] using (show norefs ys = true from o2)); simpa [toPy] using this), plain_toPy dx, plain_toPys ys, o1.2, c _ _ _ _ _ m.go (by rw [RDat, any_eqv ys dx o1.1 o2]) g⟩
  | ref n =>
    have g : (match lstAt M n with | some ys => okD dx ∧ okL ys ∧ R (.bl (k (inD dx ys))) M | none => False) := g
    cases e : lstAt M n with
    | none => simp [e] at g
    | some ys =>
      simp only [e] at g
      obtain ⟨o1, o2, g⟩ := g
      obtain ⟨a, vs, rfl, hs, l⟩ := m.seq r2 e
      exact h2 pins s σ H _ _ v u Q I rx ry ⟨toPy dx, toPys ys, by rw [hK]; exact dp_of r1 o1.1, .inl (by rw [hK]; exact .lst hs (dps_of l o2)), plain_toPy dx, plain_toPys ys, o1.2, c _ _ _ _ _ m.go (by rw [RDat, any_eqv ys dx o1.1 o2]) g⟩
  | _ => exact (g : False).elim
theorem room_inS {X : Cx} {d : PyData} {ds : List PyData} (sd : d.depth ≤ 64) (hu : X.A.units + 65 < cLine) : X.A.units + 1 + min (PyData.depthAll ds) d.depth < cLine := by
  have h1 := sd
  have h2 : min (PyData.depthAll ds) d.depth ≤ d.depth := Nat.min_le_right _ _
  omega
theorem or_in (hK : X.K = G.K) (hu : X.A.units + 65 < cLine) : OpR X (compareOp .In) (LR G opIn) := by
  refine or_inG hK hu (k := fun b => b) op_in_str ?_
  intro pins s σ H x y v u Q I rx ry h
  obtain ⟨d, ds, hd, he, sd, se, hm, q⟩ := h
  obtain ⟨as, r1⟩ := Dp.reads I d x v hd rx
  rcases he with he | he
  · obtain ⟨bs, r2⟩ := Dp.reads I (.list ds) y u he ry
    exact SeqAt.in_list_data r2 r1 se sd (room_inS hm hu) ⟨.bl _, H, I, rfl, q⟩
  · obtain ⟨bs, r2⟩ := Dp.reads I (.tuple ds) y u he ry
    exact SeqAt.in_tuple_data r2 r1 se sd (room_inS hm hu) ⟨.bl _, H, I, rfl, q⟩
theorem or_notIn (hK : X.K = G.K) (hu : X.A.units + 65 < cLine) : OpR X (compareOp .NotIn) (LR G opNotIn) := by
  refine or_inG hK hu (k := fun b => !b) op_notin_str ?_
  intro pins s σ H x y v u Q I rx ry h
  obtain ⟨d, ds, hd, he, sd, se, hm, q⟩ := h
  obtain ⟨as, r1⟩ := Dp.reads I d x v hd rx
  rcases he with he | he
  · obtain ⟨bs, r2⟩ := Dp.reads I (.list ds) y u he ry
    exact SeqAt.notIn_list_data r2 r1 se sd (room_inS hm hu) ⟨.bl _, H, I, rfl, q⟩
  · obtain ⟨bs, r2⟩ := Dp.reads I (.tuple ds) y u he ry
    exact SeqAt.notIn_tuple_data r2 r1 se sd (room_inS hm hu) ⟨.bl _, H, I, rfl, q⟩

/-! ### indexes -/
theorem atI_rel {K : PySem.W.Frag} {H : Hp} {al : List Addr} {ds : List D} {vs : List V} {i : Int} {d : D} (r : RDats K H al ds vs) (h : atI ds i = some d) : ∃ v, atI vs i = some v ∧ RDat K H al d v := by
  unfold atI at h ⊢
  rw [← r.length]
  cases e : ixN ds.length i with
  | none => rw [e] at h; cases h
  | some j => rw [e] at h; exact r.get h
theorem xr_ix (hK : X.K = G.K) : IxR X (LR G opIx) := by
  intro value slice pins s σ H x y v u Q I rx ry h hs
  obtain ⟨al, M, dx, dy, R, m, r1, r2, g, c⟩ := h
  cases dy with
  | int i =>
    rw [RDat] at r2; subst r2
    cases dx with
    | tup xs =>
      rw [RDat] at r1
      obtain ⟨a, vs, rfl, s1, l1⟩ := r1
      have g : (match atI xs i with | some d => R d M | none => False) := g
      cases e : atI xs i with
      | none => simp [e] at g
      | some d =>
        simp only [e] at g
        obtain ⟨w, e1, rw1⟩ := atI_rel l1 e
        exact ix_tup value slice pins s σ H _ _ v u Q I rx ry ⟨a, vs, i, w, rfl, rfl, by rw [hK]; exact s1, e1, c _ _ _ _ _ m.go rw1 g⟩ hs
    | str z =>
      rw [RDat] at r1; subst r1
      obtain ⟨hz, g⟩ := (g : _ ∧ (match atI z.cps.toList i with | some c => R (.str ⟨#[c]⟩) M | none => False))
      cases e : atI z.cps.toList i with
      | none => simp [e] at g
      | some d =>
        simp only [e] at g
        exact ix_str value slice pins s σ H _ _ v u Q I rx ry ⟨z, i, d, rfl, rfl, hz, e, c _ _ _ _ _ m.go (by rw [RDat]) g⟩ hs
    | ref n =>
      have g : (match lstAt M n with | some xs => (match atI xs i with | some d => R d M | none => False) | none => False) := g
      cases el : lstAt M n with
      | none => simp [el] at g
      | some xs =>
        simp only [el] at g
        cases e : atI xs i with
        | none => simp [e] at g
        | some d =>
          simp only [e] at g
          obtain ⟨a, vs, rfl, s1, l1⟩ := m.seq r1 el
          obtain ⟨w, e1, rw1⟩ := atI_rel l1 e
          exact ix_list value slice pins s σ H _ _ v u Q I rx ry ⟨a, vs, i, w, rfl, rfl, by rw [hK]; exact s1, e1, c _ _ _ _ _ m.go rw1 g⟩ hs
    | con xs =>
      rw [RDat] at r1
      obtain ⟨a, vs, rfl, s1, l1⟩ := r1
      have g : (match atI xs i with | some d => R d M | none => False) := g
      cases e : atI xs i with
      | none => simp [e] at g
      | some d =>
        simp only [e] at g
        obtain ⟨w, e1, rw1⟩ := atI_rel l1 e
        exact ix_list value slice pins s σ H _ _ v u Q I rx ry ⟨a, vs, i, w, rfl, rfl, by rw [hK]; exact s1.seq, e1, c _ _ _ _ _ m.go rw1 g⟩ hs
    | _ => exact (g : False).elim
  | _ => exact (g : False).elim

/-! ### slices -/
def cutL {α : Type} (xs : List α) (lo hi : Option Int) : List α := (xs.drop (HT.sIx xs.length 0 lo)).take (HT.sIx xs.length xs.length hi - HT.sIx xs.length 0 lo)
theorem cut_rel {K : PySem.W.Frag} {H : Hp} {al : List Addr} {ds : List D} {vs : List V} (lo hi : Option Int) (r : RDats K H al ds vs) : RDats K H al (cutL ds lo hi) (cutV vs lo hi) := by
  unfold cutL cutV
  rw [← r.length]
  exact (r.drop _).take _
abbrev OpS := D → Option Int → Option Int → Mem → KD → Prop
def opSl : OpS := fun x lo hi M R => match x with
  | .tup xs => R (.tup (cutL xs lo hi)) M
  | .str z => z.length ≤ sizeLine ∧ R (.str (cutS z lo hi)) M
  | .ref n => match lstAt M n with | some xs => R (.ref M.length) (M ++ [.lst (cutL xs lo hi)]) | none => False
  | .con xs => R (.ref M.length) (M ++ [.lst (cutL xs lo hi)])
  | _ => False
def LSl (G : GC) (g : OpS) : V → Option Int → Option Int → Hp → VK → Prop := fun x lo hi H Q => ∃ al M d R, RMem G H al M ∧ RDat G.K H al d x ∧ g d lo hi M R ∧ VCl G H al R Q
theorem sr_sl (hK : X.K = G.K) : SlR X (LSl G opSl) := by
  intro pins s σ H x v vl vu lo hi sl Q I rx hs pl pu h
  obtain ⟨al, M, d, R, m, r1, g, c⟩ := h
  cases d with
  | tup xs =>
    rw [RDat] at r1
    obtain ⟨a, vs, rfl, s1, l1⟩ := r1
    refine sl_tupA pins s σ H _ v vl vu lo hi sl Q I rx hs pl pu ⟨a, vs, rfl, by rw [hK]; exact s1, fun e => ?_, fun _ p hp => ?_⟩
    · have e' : cutL xs lo hi = xs := by
        unfold cutL
        rw [l1.length, e.1, e.2, List.drop_zero, Nat.sub_zero, ← l1.length, List.take_length]
      have g : R (.tup (cutL xs lo hi)) M := g
      rw [e'] at g
      exact c _ _ _ _ _ m.go (RDat.tup_of s1 l1) g
    · have n := m.tup (vs := cutV vs lo hi) hp
      exact c _ _ _ _ _ n (RDat.tup_of (SqT.of upd_same) ((cut_rel lo hi l1).mono n.k n.p)) g
  | str z =>
    rw [RDat] at r1; subst r1
    obtain ⟨hz, g⟩ := (g : _ ∧ _)
    exact sl_str pins s σ H _ v vl vu lo hi sl Q I rx hs pl pu ⟨z, rfl, hz, c _ _ _ _ _ m.go (by rw [RDat]) g⟩
  | ref n =>
    have g : (match lstAt M n with | some xs => R (.ref M.length) (M ++ [.lst (cutL xs lo hi)]) | none => False) := g
    cases el : lstAt M n with
    | none => simp [el] at g
    | some xs =>
      simp only [el] at g
      obtain ⟨a, vs, rfl, s1, l1⟩ := m.seq r1 el
      refine sl_list pins s σ H _ v vl vu lo hi sl Q I rx hs pl pu ⟨a, vs, rfl, by rw [hK]; exact s1, fun p hp => ?_⟩
      have n := m.new (o := .lst (cutL xs lo hi)) (u := .lst (cutV vs lo hi)) hp ⟨_, rfl, cut_rel lo hi l1⟩
      exact c _ _ _ _ _ n (rdat_new m.len) g
  | con xs =>
    rw [RDat] at r1
    obtain ⟨a, vs, rfl, s1, l1⟩ := r1
    refine sl_list pins s σ H _ v vl vu lo hi sl Q I rx hs pl pu ⟨a, vs, rfl, by rw [hK]; exact s1.seq, fun p hp => ?_⟩
    have n := m.new (o := .lst (cutL xs lo hi)) (u := .lst (cutV vs lo hi)) hp ⟨_, rfl, cut_rel lo hi l1⟩
    exact c _ _ _ _ _ n (rdat_new m.len) g
  | _ => exact (g : False).elim
abbrev SO := XC → Env → Mem → (Option Int → Mem → Prop) → Prop
def oNo : SO := fun _ _ M R => R none M
def oSome (t : SE) : SO := fun Ex ρ M R => t Ex ρ M fun d M1 => match d with | .int i => R (some i) M1 | _ => False
def LO (G : GC) (W : WX) (t : SO) : TO := fun σ H Q => ∃ ρ al M Ex R, RSt G H al M σ ρ ∧ t Ex ρ M R ∧ (∀ H' al' M' o, Nxt G H al H' al' M' → R o M' → Q o H') ∧ XCl G W H al Ex σ
def MO (X : Cx) (G : GC) (e : Option Expr) (t : SO) : Prop := ∀ W, Takes X W → PO X e (LO G W t)
theorem PO.imp {X : Cx} {e : Option Expr} {t t' : TO} (h : PO X e t) (i : ∀ σ H Q, t' σ H Q → t σ H Q) : PO X e t' := ⟨fun pins s σ H Q I w => h.run pins s σ H Q I (i σ H Q w)⟩
variable {a b : Expr} {ta tb : SE} {pos : Pos} {lo hi : Option Expr} {tl th : SO}
theorem mo_none : MO X G none oNo := by
  refine fun W tk => PO.imp po_none fun σ H Q h => ?_
  obtain ⟨ρ, al, M, Ex, R, r, t, c, xc⟩ := h
  exact c _ _ _ _ r.m.go t
theorem mo_some (ha : ME X G a ta) : MO X G (some a) (oSome ta) := by
  refine fun W tk => PO.imp (po_some (ha W tk)) fun σ H Q h => ?_
  obtain ⟨ρ, al, M, Ex, R, r, t, c, xc⟩ := h
  refine ⟨ρ, al, M, Ex, _, r, t, fun H1 al1 M1 v d n1 r1 h1 => ?_, xc⟩
  cases d with
  | int i => rw [RDat] at r1; exact ⟨i, r1, c _ _ _ _ n1 h1⟩
  | _ => exact (h1 : False).elim
def eSl (ta : SE) (tl th : SO) : SE := fun Ex ρ M R => ta Ex ρ M fun x M1 => tl Ex ρ M1 fun l M2 => th Ex ρ M2 fun h M3 => opSl x l h M3 R
theorem me_slice {p2 : Pos} (hK : X.K = G.K) (ha : ME X G a ta) (hl : MO X G lo tl) (hh : MO X G hi th) : ME X G (.Subscript a (.Slice lo hi none p2) pos) (eSl ta tl th) := by
  refine fun W tk => PE.imp (pe_slice (sr_sl hK) (ha W tk) (hl W tk) (hh W tk)) fun σ H Q h => ?_
  obtain ⟨ρ, al, M, Ex, R, r, t, c, xc⟩ := h
  exact ⟨ρ, al, M, Ex, _, r, t, fun H1 al1 M1 x dx n1 r1 h1 => ⟨ρ, al1, M1, Ex, _, r.go n1, h1, fun H2 al2 M2 l n2 h2 =>
    ⟨ρ, al2, M2, Ex, _, r.go (n1.trans n2), h2, fun H3 al3 M3 u n3 h3 => ⟨al3, M3, dx, R, n3.m, r1.mono (n2.k.trans n3.k) (n2.p.trans n3.p), h3, c.nxt (n1.trans (n2.trans n3))⟩, xc.nxt (n1.trans n2)⟩, xc.nxt n1⟩, xc⟩

/-! ### built-ins -/
def cnLen : OpN := fun ds M R => match ds with
  | [.tup xs] => R (.int xs.length) M
  | [.str z] => z.length ≤ sizeLine ∧ R (.int z.length) M
  | [.ref n] => match lstAt M n with | some xs => R (.int xs.length) M | none => False
  | [.con xs] => R (.int xs.length) M
  | _ => False
theorem rd1 {K : PySem.W.Frag} {H : Hp} {al : List Addr} {d : D} {vs : List V} (r : RDats K H al [d] vs) : ∃ v, vs = [v] ∧ RDat K H al d v := by
  rw [RDats] at r
  obtain ⟨v, r', e, h, t⟩ := r
  rw [RDats] at t; subst t
  exact ⟨v, e, h⟩
theorem rd2 {K : PySem.W.Frag} {H : Hp} {al : List Addr} {d e : D} {vs : List V} (r : RDats K H al [d, e] vs) : ∃ v w, vs = [v, w] ∧ RDat K H al d v ∧ RDat K H al e w := by
  rw [RDats] at r
  obtain ⟨v, r', e1, h, t⟩ := r
  obtain ⟨w, e2, h2⟩ := rd1 t
  subst e2
  exact ⟨v, w, e1, h, h2⟩
theorem cr_len (hK : X.K = G.K) : CallR X (.builtin "len") (LCall G cnLen) := by
  intro pins s σ H xs us Q I r h
  obtain ⟨al, M, ds, R, m, r1, g, c⟩ := h
  cases ds with
  | nil => exact (g : False).elim
  | cons d t =>
    cases t with
    | cons _ _ => cases d <;> exact (g : False).elim
    | nil =>
      obtain ⟨v, rfl, r2⟩ := rd1 r1
      cases d with
      | tup ys =>
        rw [RDat] at r2
        obtain ⟨a, vs, rfl, s1, l1⟩ := r2
        exact call_len_seq pins s σ H _ us Q I r ⟨a, vs, rfl, .inr (by rw [hK]; exact s1), c _ _ _ _ _ m.go (by rw [RDat, l1.length]) g⟩
      | str z =>
        obtain ⟨hz, g⟩ := (g : _ ∧ _)
        rw [RDat] at r2; subst r2
        exact call_len_str pins s σ H _ us Q I r ⟨z, rfl, hz, c _ _ _ _ _ m.go (by rw [RDat]) g⟩
      | ref n =>
        have g : (match lstAt M n with | some xs => R (.int xs.length) M | none => False) := g
        cases el : lstAt M n with
        | none => simp [el] at g
        | some ys =>
          simp only [el] at g
          obtain ⟨a, vs, rfl, s1, l1⟩ := m.seq r2 el
          exact call_len_seq pins s σ H _ us Q I r ⟨a, vs, rfl, .inl (by rw [hK]; exact s1), c _ _ _ _ _ m.go (by rw [RDat, l1.length]) g⟩
      | con ys =>
        rw [RDat] at r2
        obtain ⟨a, vs, rfl, s1, l1⟩ := r2
        exact call_len_seq pins s σ H _ us Q I r ⟨a, vs, rfl, .inl (by rw [hK]; exact s1.seq), c _ _ _ _ _ m.go (by rw [RDat, l1.length]) g⟩
      | _ => exact (g : False).elim
def cnInt : OpN := fun ds M R => match ds with
  | [.int i] => R (.int i) M
  | [.bl k] => R (.int (if k then 1 else 0)) M
  | [.str a] => match PySem.intText? a with | some n => a.length ≤ 640 ∧ R (.int n) M | none => False
  | _ => False
theorem cr_int : CallR X (.type "int") (LCall G cnInt) := by
  intro pins s σ H xs us Q I r h
  obtain ⟨al, M, ds, R, m, r1, g, c⟩ := h
  cases ds with
  | nil => exact (g : False).elim
  | cons d t =>
    cases t with
    | cons _ _ => cases d <;> exact (g : False).elim
    | nil =>
      obtain ⟨v, rfl, r2⟩ := rd1 r1
      cases d with
      | int i => rw [RDat] at r2; subst r2; exact call_int1 pins s σ H _ us Q I r (.inl ⟨i, rfl, c _ _ _ _ _ m.go (by rw [RDat]) g⟩)
      | bl i => rw [RDat] at r2; subst r2; exact call_int1 pins s σ H _ us Q I r (.inr ⟨i, rfl, c _ _ _ _ _ m.go (by rw [RDat]) g⟩)
      | str a =>
        have g : (match PySem.intText? a with | some n => a.length ≤ 640 ∧ R (.int n) M | none => False) := g
        cases e : PySem.intText? a with
        | none => rw [e] at g; exact g.elim
        | some n =>
          rw [e] at g
          rw [RDat] at r2; subst r2
          exact call_int_str pins s σ H _ us Q I r ⟨a, n, rfl, e, g.1, c _ _ _ _ _ m.go (by rw [RDat]) g.2⟩
      | _ => exact (g : False).elim
def cnAbs : OpN := fun ds M R => match ds with
  | [.int i] => R (.int (if i < 0 then -i else i)) M
  | _ => False
theorem cr_abs : CallR X (.builtin "abs") (LCall G cnAbs) := by
  intro pins s σ H xs us Q I r h
  obtain ⟨al, M, ds, R, m, r1, g, c⟩ := h
  cases ds with
  | nil => exact (g : False).elim
  | cons d t =>
    cases t with
    | cons _ _ => cases d <;> exact (g : False).elim
    | nil =>
      obtain ⟨v, rfl, r2⟩ := rd1 r1
      cases d with
      | int i => rw [RDat] at r2; subst r2; exact call_abs pins s σ H _ us Q I r ⟨i, rfl, c _ _ _ _ _ m.go (by rw [RDat]) g⟩
      | _ => exact (g : False).elim
def cnOrd : OpN := fun ds M R => match ds with
  | [.str x] => x.length = 1 ∧ R (.int (x.cps.getD 0 0 : Nat)) M
  | _ => False
theorem cr_ord : CallR X (.builtin "ord") (LCall G cnOrd) := by
  intro pins s σ H xs us Q I r h
  obtain ⟨al, M, ds, R, m, r1, g, c⟩ := h
  cases ds with
  | nil => exact (g : False).elim
  | cons d t =>
    cases t with
    | cons _ _ => cases d <;> exact (g : False).elim
    | nil =>
      obtain ⟨v, rfl, r2⟩ := rd1 r1
      cases d with
      | str i => obtain ⟨hz, g⟩ := (g : _ ∧ _); rw [RDat] at r2; subst r2; exact call_ord pins s σ H _ us Q I r ⟨i, rfl, hz, c _ _ _ _ _ m.go (by rw [RDat]) g⟩
      | _ => exact (g : False).elim
def cnMax : OpN := fun ds M R => match ds with
  | [.int i, .int j] => R (.int (if j > i then j else i)) M
  | _ => False
def cnMin : OpN := fun ds M R => match ds with
  | [.int i, .int j] => R (.int (if j < i then j else i)) M
  | _ => False
theorem cr_two {id : String} {k : Int → Int → Int} (hc : CallR X (.builtin id) (fun xs H Q => ∃ i j, xs = [.int i, .int j] ∧ Q (.int (k i j)) H)) {g : OpN} (hg : ∀ ds M R, g ds M R → ∃ i j, ds = [.int i, .int j] ∧ R (.int (k i j)) M) : CallR X (.builtin id) (LCall G g) := by
  intro pins s σ H xs us Q I r h
  obtain ⟨al, M, ds, R, m, r1, g, c⟩ := h
  obtain ⟨i, j, rfl, gg⟩ := hg _ _ _ g
  obtain ⟨v, w, rfl, r2, r3⟩ := rd2 r1
  rw [RDat] at r2; rw [RDat] at r3; subst r2 r3
  exact hc pins s σ H _ us Q I r ⟨i, j, rfl, c _ _ _ _ _ m.go (by rw [RDat]) gg⟩
theorem cr_max2 (hc : X.calm = true) : CallR X (.builtin "max") (LCall G cnMax) := cr_two (call_max2 hc) fun ds M R g => by
  rcases ds with _ | ⟨d, _ | ⟨e, _ | ⟨f, t⟩⟩⟩
  · exact (g : False).elim
  · cases d <;> exact (g : False).elim
  · cases d <;> cases e <;> first | exact (g : False).elim | exact ⟨_, _, rfl, g⟩
  · cases d <;> cases e <;> exact (g : False).elim
theorem cr_min2 (hc : X.calm = true) : CallR X (.builtin "min") (LCall G cnMin) := cr_two (call_min2 hc) fun ds M R g => by
  rcases ds with _ | ⟨d, _ | ⟨e, _ | ⟨f, t⟩⟩⟩
  · exact (g : False).elim
  · cases d <;> exact (g : False).elim
  · cases d <;> cases e <;> first | exact (g : False).elim | exact ⟨_, _, rfl, g⟩
  · cases d <;> cases e <;> exact (g : False).elim
/-- the intsD of a list of data -/
def intsD : List D → Option (List Int)
  | [] => some []
  | .int i :: r => (intsD r).map (i :: ·)
  | _ => none
theorem intsD_rel {K : PySem.W.Frag} {H : Hp} {al : List Addr} : ∀ {ds : List D} {vs : List V} {ns : List Int}, RDats K H al ds vs → intsD ds = some ns → vs = ns.map V.int
  | [], _, _, r, h => by rw [RDats] at r; subst r; cases h; rfl
  | d :: ds, _, ns, r, h => by
    rw [RDats] at r
    obtain ⟨v, r', rfl, h1, h2⟩ := r
    cases d with
    | int i =>
      have h : (intsD ds).map (i :: ·) = some ns := h
      cases e : intsD ds with
      | none => rw [e] at h; cases h
      | some ms =>
        rw [e] at h; cases h
        rw [RDat] at h1; subst h1
        rw [intsD_rel h2 e]; rfl
    | _ => cases h
def cnSum : OpN := fun ds M R => match ds with
  | [.ref n] => match (lstAt M n).bind intsD with | some ns => R (.int ns.sum) M | none => False
  | _ => False
theorem cr_sumL (hK : X.K = G.K) (hc : X.calm = true) : CallR X (.builtin "sum") (LCall G cnSum) := by
  intro pins s σ H xs us Q I r h
  obtain ⟨al, M, ds, R, m, r1, g, c⟩ := h
  cases ds with
  | nil => exact (g : False).elim
  | cons d t =>
    cases t with
    | cons _ _ => cases d <;> exact (g : False).elim
    | nil =>
      obtain ⟨v, rfl, r2⟩ := rd1 r1
      cases d with
      | ref n =>
        have g : (match (lstAt M n).bind intsD with | some ns => R (.int ns.sum) M | none => False) := g
        cases el : lstAt M n with
        | none => simp [el] at g
        | some ys =>
          cases ei : intsD ys with
          | none => simp [el, ei] at g
          | some ns =>
            simp only [el, Option.bind_some, ei] at g
            obtain ⟨a, vs, rfl, s1, l1⟩ := m.seq r2 el
            have e := intsD_rel l1 ei
            subst e
            exact cr_sum hc pins s σ H _ us Q I r ⟨a, ns, rfl, by rw [hK]; exact s1, c _ _ _ _ _ m.go (by rw [RDat]) g⟩
      | _ => exact (g : False).elim
def cnTuple : OpN := fun ds M R => match ds with
  | [.tup xs] => R (.tup xs) M
  | [.ref n] => match lstAt M n with | some xs => R (.tup xs) M | none => False
  | _ => False
theorem cr_tuple (hK : X.K = G.K) : CallR X (.type "tuple") (LCall G cnTuple) := by
  intro pins s σ H xs us Q I r h
  obtain ⟨al, M, ds, R, m, r1, g, c⟩ := h
  cases ds with
  | nil => exact (g : False).elim
  | cons d t =>
    cases t with
    | cons _ _ => cases d <;> exact (g : False).elim
    | nil =>
      obtain ⟨v, rfl, r2⟩ := rd1 r1
      cases d with
      | tup ys =>
        have r3 := r2
        rw [RDat] at r2
        obtain ⟨a, vs, rfl, s1, l1⟩ := r2
        exact call_tuple_of pins s σ H _ us Q I r ⟨a, vs, rfl, .inr ⟨by rw [hK]; exact s1, c _ _ _ _ _ m.go r3 g⟩⟩
      | ref n =>
        have g : (match lstAt M n with | some xs => R (.tup xs) M | none => False) := g
        cases el : lstAt M n with
        | none => simp [el] at g
        | some ys =>
          simp only [el] at g
          obtain ⟨a, vs, rfl, s1, l1⟩ := m.seq r2 el
          refine call_tuple_of pins s σ H _ us Q I r ⟨a, vs, rfl, .inl ⟨by rw [hK]; exact s1, fun p hp => ?_⟩⟩
          have n := m.tup (vs := vs) hp
          exact c _ _ _ _ _ n (RDat.tup_of (SqT.of upd_same) (l1.mono n.k n.p)) g
      | _ => exact (g : False).elim
def cnList : OpN := fun ds M R => match ds with
  | [.tup xs] => R (.ref M.length) (M ++ [.lst xs])
  | [.ref n] => match lstAt M n with | some xs => R (.ref M.length) (M ++ [.lst xs]) | none => False
  | _ => False
theorem cr_list (hK : X.K = G.K) : CallR X (.type "list") (LCall G cnList) := by
  intro pins s σ H xs us Q I r h
  obtain ⟨al, M, ds, R, m, r1, g, c⟩ := h
  cases ds with
  | nil => exact (g : False).elim
  | cons d t =>
    cases t with
    | cons _ _ => cases d <;> exact (g : False).elim
    | nil =>
      obtain ⟨v, rfl, r2⟩ := rd1 r1
      cases d with
      | tup ys =>
        rw [RDat] at r2
        obtain ⟨a, vs, rfl, s1, l1⟩ := r2
        refine call_list_of pins s σ H _ us Q I r ⟨a, vs, rfl, .inr (by rw [hK]; exact s1), fun p hp => ?_⟩
        have n := m.new (o := .lst ys) (u := .lst vs) hp ⟨_, rfl, l1⟩
        exact c _ _ _ _ _ n (rdat_new m.len) g
      | ref n =>
        have g : (match lstAt M n with | some xs => R (.ref M.length) (M ++ [.lst xs]) | none => False) := g
        cases el : lstAt M n with
        | none => simp [el] at g
        | some ys =>
          simp only [el] at g
          obtain ⟨a, vs, rfl, s1, l1⟩ := m.seq r2 el
          refine call_list_of pins s σ H _ us Q I r ⟨a, vs, rfl, .inl (by rw [hK]; exact s1), fun p hp => ?_⟩
          have n := m.new (o := .lst ys) (u := .lst vs) hp ⟨_, rfl, l1⟩
          exact c _ _ _ _ _ n (rdat_new m.len) g
      | _ => exact (g : False).elim
/-! ### isinstance -/
def tyD (d : D) (M : Mem) : Option String := match d with
  | .non => some "NoneType" | .bl _ => some "bool" | .int _ => some "int" | .str _ => some "str" | .tup _ => some "tuple"
  | .ref n => match M[n]? with
    | some (.lst _) => some "list"
    | _ => none
  | .con _ => none
def isi (T : String) (d : D) (M : Mem) : Option Bool := (tyD d M).bind fun t => kitB t T
def eIsi (T : String) (ta : SE) : SE := fun Ex ρ M R => ta Ex ρ M fun d M1 => match isi T d M1 with | some b => R (.bl b) M1 | none => False
theorem kit_isi {K : PySem.W.Frag} {H : Hp} {al : List Addr} {M : Mem} {d : D} {v : V} {T : String} {b : Bool} (hG : G.K = K) (m : RMem G H al M) (r : RDat K H al d v) (h : isi T d M = some b) :
    ∃ t, TyX K H v t ∧ PySem.W.kitOne K t (.type T) = some b := by
  have key : ∀ t, tyD d M = some t → TyX K H v (.type t) → ∃ t, TyX K H v t ∧ PySem.W.kitOne K t (.type T) = some b := fun t e ty => by
    unfold isi at h
    rw [e, Option.bind_some] at h
    exact ⟨_, ty, kit_ty h⟩
  cases d with
  | non => rw [RDat] at r; subst r; exact key _ rfl (.base .non)
  | bl k => rw [RDat] at r; subst r; exact key _ rfl (.base (.bl k))
  | int k => rw [RDat] at r; subst r; exact key _ rfl (.base (.int k))
  | str k => rw [RDat] at r; subst r; exact key _ rfl (.base (.str k))
  | tup xs =>
    rw [RDat] at r
    obtain ⟨a, vs, rfl, s1, l1⟩ := r
    refine key _ rfl ?_
    rcases s1 with (e | ⟨o, e⟩) | ⟨o, its, n, e, hc, _⟩
    · exact .base (.tup e)
    · exact .fTuple e
    · exact .kTuple e hc
  | ref n =>
    cases e : M[n]? with
    | none => simp [isi, tyD, e] at h
    | some o =>
      cases o with
      | lst xs =>
        subst hG
        obtain ⟨a, vs, rfl, _, e2, _⟩ := m.lst r e
        exact key "list" (by simp [tyD, e]) (.base (.lst e2))
      | _ => simp [isi, tyD, e] at h
  | con xs => simp [isi, tyD] at h
theorem me_isi {T : Str} {TS : String} {p pT : Pos} (hK : X.K = G.K) (hg : Gl X "isinstance") (hm : X.mg "isinstance" = none) (hgT : Gl X T) (hmT : X.mg T = none) (hv : bootBuiltins T = some (.type TS)) (hn : T ≠ "__name__") (hd : (T == ("__debug__" : Str)) = false)
    (ha : ME X G a ta) (he : starEach [a, .Name T pT] X.env = (false, eval a X.env) :: starEach [.Name T pT] X.env) (hpl : (backTo pos (starEach [.Name T pT] X.env)).any (·.1) = false) :
    ME X G (.Call (.Name "isinstance" p) [a, .Name T pT] [] pos) (eIsi TS ta) := by
  refine fun W tk => PE.imp (pe_callB (call_isi) hg hm (by decide +kernel) (pa_cons (ha W tk) (pa_cons (pe_bltn (v := .ty TS) hgT hmT hv rfl hn hd) pa_nil) he) (by decide) (by decide) he hpl) fun σ H Q h => ?_
  obtain ⟨ρ, al, M, Ex, R, r, t, c, xc⟩ := h
  refine ⟨ρ, al, M, Ex, _, r, t, fun H1 al1 M1 x d n1 r1 h1 => ?_, xc⟩
  cases e : isi TS d M1 with
  | none => simp only [e] at h1
  | some b =>
    simp only [e] at h1
    obtain ⟨t, ty, k⟩ := kit_isi rfl n1.m r1 e
    exact ⟨x, .ty TS, t, .type TS, b, rfl, .ty TS, by rw [hK]; exact ty, by rw [hK]; exact k, c _ _ _ _ _ n1 (by rw [RDat]) h1⟩
end
end DN

set_option maxHeartbeats 4000000
/-! iteration, comprehensions, statements -/
namespace DN
open PySem PySem.Spec L2

/-! ### targets: names and tuples of names -/
inductive Tg where
  | nm (i : Nat)
  | tp (ts : List Tg)
mutual
def asgD : Tg → D → Env → Option Env
  | .nm i, d, ρ => some (ρ.set i (some d))
  | .tp ts, .tup ds, ρ => asgDs ts ds ρ
  | .tp _, _, _ => none
def asgDs : List Tg → List D → Env → Option Env
  | [], [], ρ => some ρ
  | t :: ts, d :: ds, ρ => match asgD t d ρ with
    | some ρ1 => asgDs ts ds ρ1
    | none => none
  | _, _, _ => none
end
mutual
def slotsT : Tg → List Nat
  | .nm i => [i]
  | .tp ts => slotsTs ts
def slotsTs : List Tg → List Nat
  | [] => []
  | t :: ts => slotsT t ++ slotsTs ts
end
section
variable {X : Cx} {G : GC}
/-- only the slots js have changed -/
def Only (js : List Nat) (σ σ' : L2.St) : Prop := σ'.length = σ.length ∧ ∀ i, i ∉ js → σ'[i]? = σ[i]?
theorem Only.refl (js : List Nat) (σ : L2.St) : Only js σ σ := ⟨rfl, fun _ _ => rfl⟩
theorem Only.trans {js ks : List Nat} {a b c : L2.St} (x : Only js a b) (y : Only ks b c) : Only (js ++ ks) a c :=
  ⟨y.1.trans x.1, fun i hi => by
    rw [List.mem_append, not_or] at hi
    rw [y.2 i hi.2, x.2 i hi.1]⟩
theorem Only.mono {js ks : List Nat} {a b : L2.St} (x : Only js a b) (h : ∀ i ∈ js, i ∈ ks) : Only ks a b := ⟨x.1, fun i hi => x.2 i fun z => hi (h i z)⟩
theorem wipe_get : ∀ (vs : List Nat) (σ : L2.St) (i : Nat), (wipe σ vs)[i]? = if i ∈ vs then (if i < σ.length then some none else none) else σ[i]?
  | [], σ, i => by simp [wipe]
  | v :: vs, σ, i => by
    unfold wipe
    by_cases hv : v = i
    · subst hv
      rw [if_pos (List.mem_cons_self), List.getElem?_set]
      simp [wipe_length]
    · rw [List.getElem?_set_ne hv, wipe_get vs σ i]
      have : (i ∈ v :: vs) ↔ i ∈ vs := by simp [Ne.symm hv]
      simp only [this]
theorem Only.wipe {js vs : List Nat} {a b : L2.St} (x : Only js a b) (h : ∀ i ∈ js, i ∈ vs) : L2.wipe b vs = L2.wipe a vs := by
  apply List.ext_getElem?
  intro i
  rw [wipe_get, wipe_get, x.1]
  by_cases hi : i ∈ vs
  · rw [if_pos hi, if_pos hi]
  · rw [if_neg hi, if_neg hi]
    exact x.2 i fun z => hi (h i z)
def NoX (G : GC) (js : List Nat) : Prop := ∀ n, G.xn = some n → n.i ∉ js
theorem RSt.setS {H : Hp} {al : List Addr} {M : Mem} {σ : L2.St} {ρ : Env} {i : Nat} {d : D} {v : V} (r : RSt G H al M σ ρ) (q : RDat G.K H al d v) (hx : NoX G [i]) : RSt G H al M (σ.set i (some v)) (ρ.set i (some d)) := by
  refine ⟨r.m, ⟨by rw [List.length_set, List.length_set]; exact r.e.1, fun j d' h => ?_⟩, ?_⟩
  · by_cases hj : i = j
    · subst hj
      have hl : i < ρ.length := by
        have := (List.getElem?_eq_some_iff.mp h).1
        rwa [List.length_set] at this
      rw [List.getElem?_set_self hl] at h
      cases h
      exact ⟨v, by rw [List.getElem?_set_self (by rw [← r.e.1]; exact hl)], q⟩
    · rw [List.getElem?_set_ne hj] at h ⊢
      exact r.e.2 j d' h
  · have := r.x
    unfold XOk at this ⊢
    cases e : G.xn with
    | none => trivial
    | some n =>
      rw [e] at this
      refine ⟨this.1, ?_⟩
      have hn : i ≠ n.i := fun z => hx n e (by simp [z])
      show (σ.set i (some v))[n.i]? = _
      rw [List.getElem?_set_ne hn]
      exact this.2
def LG (G : GC) (tg : Tg) : TG := fun v σ H Q => ∃ ρ al M d ρ', RSt G H al M σ ρ ∧ RDat G.K H al d v ∧ asgD tg d ρ = some ρ' ∧ ∀ σ', RSt G H al M σ' ρ' → Only (slotsT tg) σ σ' → Q σ' H
def LGs (G : GC) (ts : List Tg) : TGs := fun vs σ H Q => ∃ ρ al M ds ρ', RSt G H al M σ ρ ∧ RDats G.K H al ds vs ∧ asgDs ts ds ρ = some ρ' ∧ ∀ σ', RSt G H al M σ' ρ' → Only (slotsTs ts) σ σ' → Q σ' H
theorem PG.imp {X : Cx} {e : Expr} {t t' : TG} (h : PG X e t) (i : ∀ v σ H Q, t' v σ H Q → t v σ H Q) : PG X e t' := ⟨fun pins s σ H v u Q I r w => h.run pins s σ H v u Q I r (i v σ H Q w)⟩
theorem PGs.imp {X : Cx} {e : List Expr} {t t' : TGs} (h : PGs X e t) (i : ∀ v σ H Q, t' v σ H Q → t v σ H Q) : PGs X e t' := ⟨fun pins s σ H v u Q I r w => h.run pins s σ H v u Q I r (i v σ H Q w)⟩
def MG (X : Cx) (G : GC) (e : Expr) (tg : Tg) : Prop := PG X e (LG G tg)
def MGs (X : Cx) (G : GC) (es : List Expr) (ts : List Tg) : Prop := PGs X es (LGs G ts)
theorem mg_name {i : Nat} {x : Str} {pos : Pos} (hN : X.N.Nodup) (hi : X.N[i]? = some x) (hx : Loc X.env.scope x) (hf : X.fn x = true ∨ X.env.scope.names.lookup x = some .local) (hX : NoX G [i]) : MG X G (.Name x pos) (.nm i) := by
  refine PG.imp (pg_name (i := i) hN hi hx hf) fun v σ H Q h => ?_
  obtain ⟨ρ, al, M, d, ρ', r, q, e, c⟩ := h
  simp only [asgD, Option.some.injEq] at e
  subst e
  refine c _ (r.setS q hX) ⟨by rw [List.length_set], fun j hj => ?_⟩
  have hj : j ≠ i := by simpa [slotsT] using hj
  rw [List.getElem?_set_ne (Ne.symm hj)]
theorem mgs_nil : MGs X G [] [] := by
  refine PGs.imp pgs_nil fun vs σ H Q h => ?_
  obtain ⟨ρ, al, M, ds, ρ', r, q, e, c⟩ := h
  cases ds with
  | nil =>
    rw [RDats] at q
    simp only [asgDs, Option.some.injEq] at e
    subst e
    exact ⟨q, c _ r (Only.refl _ _)⟩
  | cons d t => simp [asgDs] at e
theorem mgs_cons {a : Expr} {es : List Expr} {t : Tg} {ts : List Tg} (ha : MG X G a t) (hs : MGs X G es ts) (h : (assignEach (a :: es) X.env).map (·.2) = assign a X.env :: (assignEach es X.env).map (·.2)) : MGs X G (a :: es) (t :: ts) := by
  refine PGs.imp (pgs_cons ha hs h) fun vs σ H Q h => ?_
  obtain ⟨ρ, al, M, ds, ρ', r, q, e, c⟩ := h
  cases ds with
  | nil => simp [asgDs] at e
  | cons d ds =>
    rw [RDats] at q
    obtain ⟨v, vr, rfl, q1, q2⟩ := q
    simp only [asgDs] at e
    cases e1 : asgD t d ρ with
    | none => rw [e1] at e; cases e
    | some ρ1 =>
      rw [e1] at e
      exact ⟨v, vr, rfl, ρ, al, M, d, ρ1, r, q1, e1, fun σ1 r1 o1 => ⟨ρ1, al, M, ds, ρ', r1, q2, e, fun σ2 r2 o2 => c _ r2 (by simpa [slotsTs] using o1.trans o2)⟩⟩
theorem mg_tup {es : List Expr} {k : Nat} {pos : Pos} {ts : List Tg} (hK : X.K = G.K) (hc : X.calm = true) (h : MGs X G es ts) (hl : es.length = ts.length) (hn : (assignEach es X.env).length = es.length) (hst : (assignEach es X.env).findIdx? (·.1) = none) : MG X G (.Tuple es k pos) (.tp ts) := by
  refine PG.imp (pg_tup (n := es.length) hc h hn hst) fun v σ H Q h => ?_
  obtain ⟨ρ, al, M, d, ρ', r, q, e, c⟩ := h
  cases d with
  | tup ds =>
    rw [RDat] at q
    obtain ⟨a, vs, rfl, s1, l1⟩ := q
    simp only [asgD] at e
    have lenD : ∀ (ts : List Tg) (ds : List D) (ρ ρ' : Env), asgDs ts ds ρ = some ρ' → ds.length = ts.length := by
      intro ts
      induction ts with
      | nil => intro ds ρ ρ' h; cases ds <;> simp_all [asgDs]
      | cons t ts ih =>
        intro ds ρ ρ' h
        cases ds with
        | nil => simp [asgDs] at h
        | cons d ds =>
          simp only [asgDs] at h
          cases e1 : asgD t d ρ with
          | none => rw [e1] at h; cases h
          | some ρ1 => rw [e1] at h; rw [List.length_cons, List.length_cons, ih ds _ _ h]
    exact ⟨a, vs, rfl, by rw [hK]; exact s1, by rw [← l1.length, lenD _ _ _ _ e, hl], ρ, al, M, ds, ρ', r, l1, e, fun σ' r' o' => c _ r' (by simpa [slotsT] using o')⟩
  | _ => simp [asgD] at e

/-! ### what is walked -/
structure Iter where
  items : List D
  ok : Mem → Prop
abbrev SI := XC → Env → Mem → (Iter → Mem → Prop) → Prop
def ItR (G : GC) (H0 : Hp) (al0 : List Addr) (J : It) (it : Iter) : Prop :=
  ∀ (i : Nat) (H : Hp) (al : List Addr) (M : Mem), Nxt G H0 al0 H al M → it.ok M →
    (∀ d, it.items[i]? = some d → J.go i H ∧ ∀ x H', J.yld i H x H' → Nxt G H al H' al M ∧ RDat G.K H' al d x) ∧ (it.items.length = i → J.stop i H)
def LI (G : GC) (W : WX) (t : SI) : TI := fun σ H Q => ∃ ρ al M Ex R, RSt G H al M σ ρ ∧ t Ex ρ M R ∧ (∀ H' al' M' J it, Nxt G H al H' al' M' → ItR G H' al' J it → R it M' → Q J H') ∧ XCl G W H al Ex σ
def MI (X : Cx) (G : GC) (tg iter : Expr) (t : SI) : Prop := ∀ W, Takes X W → PI X tg iter (LI G W t)
theorem PI.imp {X : Cx} {tg e : Expr} {t t' : TI} (h : PI X tg e t) (i : ∀ σ H Q, t' σ H Q → t σ H Q) : PI X tg e t' := ⟨fun pins s σ H R I w => h.run pins s σ H R I (i σ H R w)⟩
/-- two rules for one thing: by what it is -/
theorem PI.or {X : Cx} {tg e : Expr} {t u : TI} (h : PI X tg e t) (h' : PI X tg e u) : PI X tg e (fun σ H Q => t σ H Q ∨ u σ H Q) :=
  ⟨fun pins s σ H R I w => w.elim (h.run pins s σ H R I) (h'.run pins s σ H R I)⟩
theorem PE.or {X : Cx} {e : Expr} {t u : TE} (h : PE X e t) (h' : PE X e u) : PE X e (fun σ H Q => t σ H Q ∨ u σ H Q) :=
  ⟨fun pins s σ H R I w => w.elim (h.run pins s σ H R I) (h'.run pins s σ H R I)⟩
/-- a list or a tuple or a text, walked: by the value that comes -/
theorem itr_tup {H : Hp} {al : List Addr} {a : Addr} {vs : List V} {xs : List D} (s1 : SqT G.K H a vs) (l1 : RDats G.K H al xs vs) : ItR G H al (Itt G.K a) ⟨xs, fun _ => True⟩ := by
  intro i H' al' M' n _
  refine ⟨fun d hd => ?_, fun hl => ⟨vs, n.k.sqT s1, by rw [← l1.length]; exact Nat.le_of_eq hl⟩⟩
  obtain ⟨v, e1, e2⟩ := l1.get hd
  refine ⟨⟨vs, v, n.k.sqT s1, e1⟩, fun x H2 y => ?_⟩
  obtain ⟨rfl, q⟩ := y
  have := q vs (n.k.sqT s1)
  rw [e1] at this
  cases this
  exact ⟨n.m.go, e2.mono n.k n.p⟩
def iSeq (t : SE) : SI := fun Ex ρ M R => t Ex ρ M fun d M1 => match d with
  | .tup xs => R ⟨xs, fun _ => True⟩ M1
  | .ref n => match lstAt M1 n with | some xs => R ⟨xs, fun M => lstAt M n = some xs⟩ M1 | none => False
  | .str z => R ⟨z.cps.toList.map fun c => .str ⟨#[c]⟩, fun _ => True⟩ M1
  | .con xs => R ⟨xs, fun _ => True⟩ M1
  | _ => False
theorem itr_con {H : Hp} {al : List Addr} {a : Addr} {xs : List D} {vs : List V} (s0 : SqF G.K H a vs) (l0 : RDats G.K H al xs vs) : ItR G H al (Itl G.K a) ⟨xs, fun _ => True⟩ := by
  intro i H' al' M' nx _
  have s1 := (nx.k.sqF s0).seq
  have l1 := l0.mono nx.k nx.p
  refine ⟨fun d hd => ?_, fun hl => ⟨vs, s1, by rw [← l1.length]; exact Nat.le_of_eq hl⟩⟩
  obtain ⟨v, e1, e2⟩ := l1.get hd
  refine ⟨⟨vs, v, s1, e1⟩, fun x H2 y => ?_⟩
  obtain ⟨rfl, q⟩ := y
  have := q vs s1
  rw [e1] at this
  cases this
  exact ⟨nx.m.go, e2⟩
theorem itr_lst {H0 : Hp} {al0 : List Addr} {n : Nat} {a : Addr} {xs : List D} (ha : al0[n]? = some a) : ItR G H0 al0 (Itl G.K a) ⟨xs, fun M => lstAt M n = some xs⟩ := by
  intro i H' al' M' nx ok
  have ok : lstAt M' n = some xs := ok
  have rd : RDat G.K H' al' (.ref n) (.ref a) := by rw [RDat]; exact ⟨a, pfx_get nx.p ha, rfl⟩
  obtain ⟨b, vs, e0, s1, l1⟩ := nx.m.seq rd ok
  cases e0
  refine ⟨fun d hd => ?_, fun hl => ⟨vs, s1, by rw [← l1.length]; exact Nat.le_of_eq hl⟩⟩
  obtain ⟨v, e1, e2⟩ := l1.get hd
  refine ⟨⟨vs, v, s1, e1⟩, fun x H2 y => ?_⟩
  obtain ⟨rfl, q⟩ := y
  have := q vs s1
  rw [e1] at this
  cases this
  exact ⟨nx.m.go, e2⟩
theorem itr_str {H : Hp} {al : List Addr} {z : Str} : ItR G H al (Its z) ⟨z.cps.toList.map fun c => .str ⟨#[c]⟩, fun _ => True⟩ := by
  intro i H' al' M' n _
  refine ⟨fun d hd => ?_, fun hl => (by show z.cps.size ≤ i; simpa using Nat.le_of_eq hl)⟩
  rw [List.getElem?_map] at hd
  cases e : z.cps.toList[i]? with
  | none => rw [e] at hd; cases hd
  | some c =>
    rw [e] at hd; cases hd
    have hi : i < z.cps.size := by simpa using (List.getElem?_eq_some_iff.mp e).1
    refine ⟨hi, fun x H2 y => ?_⟩
    obtain ⟨rfl, c', e1, rfl⟩ := y
    rw [Array.getElem?_toList, e1] at e
    cases e
    exact ⟨n.m.go, by rw [RDat]⟩
/-! ### an iterator by the value that comes -/
def iAny (K : PySem.W.Frag) (tl : TE) : TI := fun σ H Q => tl σ H fun x H1 =>
  (∃ a xs, x = .ref a ∧ SqL K H1 a xs ∧ Q (Itl K a) H1) ∨ (∃ a xs, x = .ref a ∧ SqT K H1 a xs ∧ Q (Itt K a) H1) ∨ ∃ z, x = .str z ∧ Q (Its z) H1
theorem pi_any {tg l : Expr} {tl : TE} (hl : PE X l tl) : PI X tg l (iAny X.K tl) := by
  refine ⟨fun pins s σ H Q I h => ?_⟩
  refine thn (hl.run pins s σ H _ I h) ?_
  rintro v s1 ⟨x, H1, I1, r1, (⟨a, xs, rfl, hq, q⟩ | ⟨a, xs, rfl, hq, q⟩ | ⟨z, rfl, q⟩)⟩
  · cases r1
    obtain ⟨its, _, pl, _⟩ := I1.list hq
    exact wpAny_pyIter_list pl.isList (pi_one (tk := s1.toks) I1 _ (turn_list a _) ⟨_, Heap.get?_push_size _ rfl, rfl, rfl⟩ q)
  · cases r1
    obtain ⟨its, _, pl, _⟩ := I1.tuple hq
    exact wpAny_pyIter_tuple (show s1.heap.IsTuple a its.toArray from pl) (pi_one (tk := s1.toks) I1 _ (turn_tuple a _) ⟨_, Heap.get?_push_size _ rfl, rfl, rfl⟩ q)
  · obtain ⟨t, rfl⟩ := r1
    cases ha : z.cps.all (· < 128) with
    | false => exact wpAny_pyIter_wide ha (pi_one (tk := s1.toks) I1 _ (turn_str _ z t _ (.inr rfl)) ⟨_, Heap.get?_push_size _ rfl, rfl, rfl⟩ q)
    | true => exact wpAny_pyIter_ascii ha (pi_one (tk := s1.toks) I1 _ (turn_str _ z t _ (.inl rfl)) ⟨_, Heap.get?_push_size _ rfl, rfl, rfl⟩ q)
theorem mi_seq {tg l : Expr} {tl : SE} (hK : X.K = G.K) (hl : ME X G l tl) : MI X G tg l (iSeq tl) := by
  refine fun W tk => PI.imp (pi_any (hl W tk)) fun σ H Q h => ?_
  obtain ⟨ρ, al, M, Ex, R, r, t, c, xc⟩ := h
  refine ⟨ρ, al, M, Ex, _, r, t, fun H1 al1 M1 v d n1 r1 h1 => ?_, xc⟩
  cases d with
  | tup xs =>
    rw [RDat] at r1
    obtain ⟨a, vs, rfl, s1, l1⟩ := r1
    exact .inr (.inl ⟨a, vs, rfl, by rw [hK]; exact s1, by rw [hK]; exact c _ _ _ _ _ n1 (itr_tup s1 l1) h1⟩)
  | str z =>
    rw [RDat] at r1
    exact .inr (.inr ⟨z, r1, c _ _ _ _ _ n1 itr_str h1⟩)
  | ref n =>
    have h1 : (match lstAt M1 n with | some xs => R ⟨xs, fun M => lstAt M n = some xs⟩ M1 | none => False) := h1
    cases el : lstAt M1 n with
    | none => simp [el] at h1
    | some xs =>
      simp only [el] at h1
      obtain ⟨a, vs, rfl, s1, l1⟩ := n1.m.seq r1 el
      have ha : al1[n]? = some a := by
        rw [RDat] at r1
        obtain ⟨b, e1, e2⟩ := r1
        cases e2; exact e1
      exact .inl ⟨a, vs, rfl, by rw [hK]; exact s1, by rw [hK]; exact c _ _ _ _ _ n1 (itr_lst ha) h1⟩
  | con xs =>
    rw [RDat] at r1
    obtain ⟨a, vs, rfl, s1, l1⟩ := r1
    exact .inl ⟨a, vs, rfl, by rw [hK]; exact s1.seq, by rw [hK]; exact c _ _ _ _ _ n1 (itr_con s1 l1) h1⟩
  | _ => exact (h1 : False).elim
/-! ranges -/
def rngD (lo : Int) (n : Nat) : List D := (List.range n).map fun i => .int (lo + (i : Nat))
theorem rngD_get {lo : Int} {n i : Nat} {d : D} (h : (rngD lo n)[i]? = some d) : i < n ∧ d = .int (lo + (i : Nat)) := by
  unfold rngD at h
  rw [List.getElem?_map] at h
  cases e : (List.range n)[i]? with
  | none => rw [e] at h; cases h
  | some j =>
    rw [e] at h; cases h
    obtain ⟨h1, h2⟩ := List.getElem?_eq_some_iff.mp e
    rw [List.length_range] at h1
    rw [List.getElem_range] at h2
    exact ⟨h1, by rw [h2]⟩
theorem itr_rng {H : Hp} {al : List Addr} {lo : Int} {n : Nat} : ItR G H al (Itr lo n) ⟨rngD lo n, fun _ => True⟩ := by
  intro i H' al' M' nx _
  refine ⟨fun d hd => ?_, fun hl => (by show n ≤ i; simpa [rngD] using Nat.le_of_eq hl)⟩
  obtain ⟨h1, rfl⟩ := rngD_get hd
  refine ⟨h1, fun x H2 y => ?_⟩
  obtain ⟨rfl, rfl⟩ := y
  exact ⟨nx.m.go, by rw [RDat]⟩
def iRange1 (ta : SA) : SI := fun Ex ρ M R => ta Ex ρ M fun ds M1 => match ds with
  | [.int j] => j < 2 ^ 62 ∧ -(2 ^ 62) ≤ j ∧ R ⟨rngD 0 j.toNat, fun _ => True⟩ M1
  | _ => False
def iRange2 (ta : SA) : SI := fun Ex ρ M R => ta Ex ρ M fun ds M1 => match ds with
  | [.int i, .int j] => (-(2 ^ 62) ≤ i ∧ i < 2 ^ 62 ∧ -(2 ^ 62) ≤ j ∧ j < 2 ^ 62) ∧ R ⟨rngD i (j - i).toNat, fun _ => True⟩ M1
  | _ => False
theorem mi_range1 {tg a : Expr} {ta : SA} {p pos : Pos} (hg : Gl X "range") (hm : X.mg "range" = none) (ha : MA X G [a] ta) (hs : starEach [a] X.env = [(false, eval a X.env)]) : MI X G tg (.Call (.Name "range" p) [a] [] pos) (iRange1 ta) := by
  refine fun W tk => PI.imp (pi_range1 hg hm (ha W tk) hs) fun σ H Q h => ?_
  obtain ⟨ρ, al, M, Ex, R, r, t, c, xc⟩ := h
  refine ⟨ρ, al, M, Ex, _, r, t, fun H1 al1 M1 vs ds n1 r1 l1 h1 => ?_, xc⟩
  rcases ds with _ | ⟨d, _ | ⟨e, t⟩⟩
  · exact (h1 : False).elim
  · obtain ⟨v, rfl, r2⟩ := rd1 r1
    cases d with
    | int j =>
      obtain ⟨h2, h3, h1⟩ := (h1 : _ ∧ _ ∧ _)
      rw [RDat] at r2; subst r2
      exact ⟨j, rfl, h3, h2, c _ _ _ _ _ n1 itr_rng h1⟩
    | _ => exact (h1 : False).elim
  · cases d <;> exact (h1 : False).elim
theorem mi_range2 {tg a b : Expr} {ta : SA} {p pos : Pos} (hg : Gl X "range") (hm : X.mg "range" = none) (ha : MA X G [a, b] ta) (hs : starEach [a, b] X.env = [(false, eval a X.env), (false, eval b X.env)]) (hs2 : starEach [b] X.env = [(false, eval b X.env)]) :
    MI X G tg (.Call (.Name "range" p) [a, b] [] pos) (iRange2 ta) := by
  refine fun W tk => PI.imp (pi_range2 hg hm (ha W tk) hs hs2) fun σ H Q h => ?_
  obtain ⟨ρ, al, M, Ex, R, r, t, c, xc⟩ := h
  refine ⟨ρ, al, M, Ex, _, r, t, fun H1 al1 M1 vs ds n1 r1 l1 h1 => ?_, xc⟩
  rcases ds with _ | ⟨d, _ | ⟨e, _ | ⟨f, t⟩⟩⟩
  · exact (h1 : False).elim
  · cases d <;> exact (h1 : False).elim
  · obtain ⟨v, w, rfl, r2, r3⟩ := rd2 r1
    cases d with
    | int i =>
      cases e with
      | int j =>
        obtain ⟨h2, h1⟩ := (h1 : _ ∧ _)
        rw [RDat] at r2 r3; subst r2 r3
        exact ⟨i, j, rfl, h2, c _ _ _ _ _ n1 itr_rng h1⟩
      | _ => exact (h1 : False).elim
    | _ => cases e <;> exact (h1 : False).elim
  · cases d <;> cases e <;> exact (h1 : False).elim
end
end DN

set_option maxHeartbeats 4000000
/-! enumerate over tuples, lists, texts -/
namespace DN
open PySem PySem.Spec L2

theorem meets_enum1 {v : Value} {o : Obj} {H : Heap → Prop} (B : Begins v o H) :
    Meets (Builtin.«enumerate.__new__» ⟨[.type "enumerate", v], []⟩) (fun _ R s => H s.heap ∧
      R (.ok (.ret (.ref (s.heap.push o).objs.size))) { s with heap := (s.heap.push o).push { cls := .type "enumerate", data := .fields #[.none, .bool false, .ref s.heap.objs.size, rawInt 0, .none, .none] } }) :=
  .of_wp fun prog w A R s h => by
    obtain ⟨hp, g, d, tk, os⟩ := s; obtain ⟨h1, h⟩ := h
    have hsub := sub_enumerate
    have q1 : ∀ {A' : Around} {E : Value → Shared → Prop} {Q : Value → Shared → Prop}, Q (.ref hp.objs.size) ⟨hp.push o, g, d, tk, os⟩ → wpAny (model prog w) A' (pyIter v) Q E ⟨hp, g, d, tk, os⟩ :=
      fun q => B.iter prog w _ _ ⟨hp, g, d, tk, os⟩ _ h1 q
    wp_walk using q1
    refine wpAny_stack_any fun st => wpAny_pure ?_
    split
    · rename_i c _ _ _ _ _
      cases (c == Value.type "enumerate") <;> (wp_walk using q1; exact ⟨_, rfl, h⟩)
    · wp_walk using q1
      exact ⟨_, rfl, h⟩
section
variable {prog : Program} {w : World} {A : Around} {E : Value → Shared → Prop} {s : Shared}
theorem enum_one {v : Value} {o : Obj} {H : Heap → Prop} {Q : Value → Shared → Prop} (B : Begins v o H) (h1 : H s.heap)
    (h : ∀ h', IsEnum h' (s.heap.objs.size + 1) s.heap.objs.size 0 .none → h'.get? s.heap.objs.size = some o → (∀ b ob, s.heap.get? b = some ob → h'.get? b = some ob) → Q (.ref (s.heap.objs.size + 1)) { s with heap := h' }) :
    wpAny (model prog w) A (call (.type "enumerate") [v]) Q E s := by
  refine callType_new F.called_enumerate (by decide) (F.typeCall_enumerate_1 _) (F.newCall_enumerate_1 _) (fun obj => F.args_object_init_2 obj _) F.entry_enumerate_new (meets_enum1 B) ⟨h1, ?_⟩
  have hz : (s.heap.push o).objs.size = s.heap.objs.size + 1 := Heap.size_push ..
  show _ ∧ _
  rw [hz]
  have he : IsEnum ((s.heap.push o).push { cls := .type "enumerate", data := .fields #[.none, .bool false, .ref s.heap.objs.size, rawInt 0, .none, .none] }) (s.heap.objs.size + 1) s.heap.objs.size 0 .none := by
    have := Heap.get?_push_size (s.heap.push o) (o := { cls := .type "enumerate", data := .fields #[.none, .bool false, .ref s.heap.objs.size, rawInt 0, .none, .none] }) rfl
    rw [hz] at this; exact this
  exact ⟨⟨_, he, rfl⟩, h _ he (Heap.get?_push_of_some _ (Heap.get?_push_size _ B.free)) fun b ob x => Heap.get?_push_of_some _ (Heap.get?_push_of_some _ x)⟩
end

/-- an iterator over known values: what it draws at turn i -/
structure Src (P : Program) (w : World) (K : PySem.W.Frag) (it : Addr) (go : Nat → Hp → Prop) (at_ : Nat → Hp → V → Prop) (stop : Nat → Hp → Prop) (tn : Nat → Heap → Prop) : Prop where
  draws : ∀ (X : Cx), X.prog = P → X.w = w → X.K = K → X.calm = true → ∀ (pins : List (Addr × Obj)) (s : Shared) (σ : L2.St) (H : Hp) (i : Nat), Inv X pins σ H s → H it = none → (go i H ∨ stop i H) → tn i s.heap →
    ∃ (fp : List Addr) (n : Nat) (Pv : Nat → Value → Prop) (St : Nat → Heap → Prop), Draws P w X.A.in1 it fp n Pv St ∧ St i s.heap ∧ (go i H → i < n ∧ ∀ u, Pv i u → ∃ x, RelV x u ∧ at_ i H x) ∧ (stop i H → i = n) ∧ (∀ j h, St j h → tn j h) ∧
      ∀ b ∈ fp, b = it ∨ (∃ o, s.heap.get? b = some o ∧ o.cls ≠ .type "enumerate")
  obj : ∀ i h, tn i h → ∃ o, h.get? it = some o ∧ o.cls ≠ .type "enumerate" ∧ ∀ v, o.data ≠ .cell v
  keep : ∀ i h h', tn i h → (∀ o, h.get? it = some o → h'.get? it = some o) → tn i h'
def Iten (k0 : Int) (go : Nat → Hp → Prop) (at_ : Nat → Hp → V → Prop) (stop : Nat → Hp → Prop) : It :=
  ⟨go, fun i H v H' => ∃ T x, v = .ref T ∧ H T = none ∧ H' = upd H T (.tup [.int (k0 + (i : Nat)), x]) ∧ at_ i H x, stop⟩
theorem turn_en {P : Program} {w : World} {K : PySem.W.Frag} {elts : List Expr} {kk : Nat} {tpos : Pos} {k0 : Int} {e it : Addr} {go : Nat → Hp → Prop} {at_ : Nat → Hp → V → Prop} {stop : Nat → Hp → Prop} {tn : Nat → Heap → Prop}
    (S : Src P w K it go at_ stop tn) : Turn P w K (.Tuple elts kk tpos) (Iten k0 go at_ stop) [e, it] e (fun i h => (∃ old, IsEnum h e it (k0 + ((i : Nat) : Int)) old) ∧ tn i h ∧ e ≠ it) where
  mem := by simp
  obj := fun i h st b hb => by
    obtain ⟨⟨old, he⟩, ht, _⟩ := st
    rcases List.mem_cons.mp hb with z | z
    · exact ⟨_, by rw [z]; exact he, fun v q => by cases q⟩
    · obtain ⟨o, ho, _, hd⟩ := S.obj i h ht
      exact ⟨o, by rw [List.mem_singleton.mp z]; exact ho, hd⟩
  keep := fun i h h' st k => by
    obtain ⟨⟨old, he⟩, ht, hne⟩ := st
    exact ⟨⟨old, k e (by simp) _ he⟩, S.keep _ _ _ ht fun o q => k it (by simp) o q, hne⟩
  item := by
    intro X hP hw hK hc i pins s σ H E I hf st hg
    subst hP hw hK
    obtain ⟨⟨old, he⟩, ht, hne⟩ := st
    have hg : go i H := hg
    obtain ⟨fp, n, Pv, St, Dr, hst, hgo, _, hSt, hfp⟩ := S.draws X rfl rfl rfl hc pins s σ H i I (hf it (by simp)).1 (.inl hg) ht
    obtain ⟨hin, hat⟩ := hgo hg
    have hef : e ∉ fp := fun z => by
      rcases hfp e z with q | ⟨o, q1, q2⟩
      · exact hne q
      · rw [he] at q1; cases q1; exact q2 rfl
    have hel : e < s.heap.objs.size := Heap.lt_size he
    have hil : it < s.heap.objs.size := by obtain ⟨o, q, _⟩ := S.obj i _ ht; exact Heap.lt_size q
    refine wpAny_pyNext_enum_itemC Dr he hst hin hne hef fun u h' tk hPv ho hs' hT hsz hk => ?_
    obtain ⟨x, rx, ax⟩ := hat u hPv
    refine ⟨_, rfl, wpAny_letOwnedTupleGo_enum (s := { s with heap := h', toks := tk + 1 }) ho fun h2 he' sb => ?_⟩
    have hT2 : h2.get? s.heap.objs.size = some { cls := .type "tuple", data := .seq #[.int (k0 + (i : Int)) tk, u] } := (sb.2 _ (Nat.ne_of_gt hel)).trans hT
    have new : ObjOk X.prog X.w (upd H s.heap.objs.size (.tup [.int (k0 + (i : Nat)), x])) h2 s.heap.objs.size (.tup [.int (k0 + (i : Nat)), x]) :=
      ⟨by show 2 ≤ sizeLine; decide, [.int (k0 + (i : Int)) tk, u], .cons ⟨_, rfl⟩ (.cons rx .nil), ⟨_, hT2, rfl, _, rfl⟩⟩
    have I1 : Inv X pins σ (upd H s.heap.objs.size (.tup [.int (k0 + (i : Nat)), x])) { s with heap := h2, toks := tk + 1 } :=
      I.turnedNew (ch := [e, it]) (fun b ob hb q => (sb.2 b (fun z => hb (by simp [z]))).trans (hk b ob (fun z => hb (by simp [z])) (fun z => hb (by simp [z])) q)) hf (Nat.le_refl _) new
    refine ⟨.ref s.heap.objs.size, _, I1, rfl, ⟨_, x, rfl, I.hok.fresh (Nat.le_refl _), rfl, ax⟩, ⟨⟨u, ?_⟩, ?_, hne⟩, fun b hb => ?_⟩
    · have e1 : k0 + ((i + 1 : Nat) : Int) = k0 + (i : Int) + 1 := by omega
      rw [e1]; exact he'
    · exact S.keep _ _ _ (hSt _ _ hs') fun o q => (sb.2 it (Ne.symm hne)).trans q
    · have hb' : b < s.heap.objs.size := by
        rcases List.mem_cons.mp hb with z | z
        · rw [z]; exact hel
        · rw [List.mem_singleton.mp z]; exact hil
      rw [upd_ne (Nat.ne_of_lt hb')]
      exact (hf b hb).1
  done := by
    intro X hP hw hK hc i pins s σ H E I hf st hg
    subst hP hw hK
    obtain ⟨⟨old, he⟩, ht, hne⟩ := st
    have hg : stop i H := hg
    obtain ⟨fp, n, Pv, St, Dr, hst, _, hstop, _, _⟩ := S.draws X rfl rfl rfl hc pins s σ H i I (hf it (by simp)).1 (.inr hg) ht
    have hn := hstop hg
    subst hn
    obtain ⟨f0, f1, f2, f3, f4, f5⟩ := hf it (by simp)
    exact wpAny_pyNext_enum_endD Dr he hst fun h' eb => ⟨rfl, I.turned (t' := s.toks) (fun b o hb q => eb b o hb q) f0 f1 f3 f4 f5⟩
  self := fun A i s Q E st h => let ⟨⟨_, he⟩, _⟩ := st; wpAny_pyIter_enum he h

theorem src_tup {P : Program} {w : World} {K : PySem.W.Frag} (a it : Addr) : Src P w K it (fun i H => ∃ xs x, SqT K H a xs ∧ xs[i]? = some x) (fun i H x => ∀ xs, SqT K H a xs → xs[i]? = some x) (fun i H => ∃ xs, SqT K H a xs ∧ xs.length = i)
    (fun i h => h.IsTupleIter it a i) where
  draws := by
    intro X hP hw hK hc pins s σ H i I hn hor ht
    subst hP hw hK
    obtain ⟨xs, hq⟩ : ∃ xs, SqT X.K H a xs := by rcases hor with ⟨xs, _, h, _⟩ | ⟨xs, h, _⟩ <;> exact ⟨xs, h⟩
    obtain ⟨its, rv, p, hz⟩ := I.tuple hq
    have p' : s.heap.IsTuple a its.toArray := p
    have hne : a ≠ it := fun z => by
      obtain ⟨o, e1, c1, _⟩ := p'
      obtain ⟨o2, e2, c2, _⟩ := id ht
      rw [z, e2] at e1; cases e1
      rw [c2] at c1; exact absurd c1 (by decide)
    refine ⟨[it, a], _, _, _, Draws.tuple (A := X.A.in1) (I.ok.hd hc) it a hne its.toArray, ⟨ht, p'⟩, fun hg => ?_, fun hg => ?_, fun j h z => z.1, fun b hb => ?_⟩
    · obtain ⟨ys, x, hy, hx⟩ := hg
      have e := I.tuple_inj hy hq
      subst e
      obtain ⟨u, hu, ru⟩ := rv.get hx
      refine ⟨by simpa using (List.getElem?_eq_some_iff.mp hu).1, fun u' hu' => ⟨x, ?_, fun zs hzs => by rw [I.tuple_inj hzs hq]; exact hx⟩⟩
      have hu' : its[i]? = some u' := by simpa using hu'
      rw [hu] at hu'; cases hu'; exact ru
    · obtain ⟨ys, hy, hl⟩ := hg
      have e := I.tuple_inj hy hq
      subst e
      have := rv.length
      simp; omega
    · rcases List.mem_cons.mp hb with z | z
      · exact .inl z
      · obtain ⟨o, e1, c1, _⟩ := p'
        exact .inr ⟨o, by rw [List.mem_singleton.mp z]; exact e1, by rw [c1]; decide⟩
  obj := fun i h ht => by
    obtain ⟨o, e, c, d⟩ := ht
    exact ⟨o, e, by rw [c]; decide, fun v z => by rw [d] at z; cases z⟩
  keep := fun i h h' ht k => ht.at fun o e => k o e
theorem src_lst {P : Program} {w : World} {K : PySem.W.Frag} (a it : Addr) : Src P w K it (fun i H => ∃ xs x, SqL K H a xs ∧ xs[i]? = some x) (fun i H x => ∀ xs, SqL K H a xs → xs[i]? = some x) (fun i H => ∃ xs, SqL K H a xs ∧ xs.length = i)
    (fun i h => h.IsListIter it a i) where
  draws := by
    intro X hP hw hK hc pins s σ H i I hn hor ht
    subst hP hw hK
    obtain ⟨xs, hq⟩ : ∃ xs, SqL X.K H a xs := by rcases hor with ⟨xs, _, h, _⟩ | ⟨xs, h, _⟩ <;> exact ⟨xs, h⟩
    obtain ⟨its, rv, p, hz⟩ := I.list hq
    have p' : s.heap.IsList a its.toArray := p.isList
    have hne : a ≠ it := fun z => by
      obtain ⟨o, e1, c1, _⟩ := p'
      obtain ⟨o2, e2, c2, _⟩ := id ht
      rw [z, e2] at e1; cases e1
      rw [c2] at c1; exact absurd c1 (by decide)
    refine ⟨[it, a], _, _, _, Draws.list (A := X.A.in1) (I.ok.hd hc) it a hne its.toArray, ⟨ht, p'⟩, fun hg => ?_, fun hg => ?_, fun j h z => z.1, fun b hb => ?_⟩
    · obtain ⟨ys, x, hy, hx⟩ := hg
      have e := I.list_inj hy hq
      subst e
      obtain ⟨u, hu, ru⟩ := rv.get hx
      refine ⟨by simpa using (List.getElem?_eq_some_iff.mp hu).1, fun u' hu' => ⟨x, ?_, fun zs hzs => by rw [I.list_inj hzs hq]; exact hx⟩⟩
      have hu' : its[i]? = some u' := by simpa using hu'
      rw [hu] at hu'; cases hu'; exact ru
    · obtain ⟨ys, hy, hl⟩ := hg
      have e := I.list_inj hy hq
      subst e
      have := rv.length
      simp; omega
    · rcases List.mem_cons.mp hb with z | z
      · exact .inl z
      · obtain ⟨o, e1, c1, _⟩ := p'
        exact .inr ⟨o, by rw [List.mem_singleton.mp z]; exact e1, by rw [c1]; decide⟩
  obj := fun i h ht => by
    obtain ⟨o, e, c, d⟩ := ht
    exact ⟨o, e, by rw [c]; decide, fun v z => by rw [d] at z; cases z⟩
  keep := fun i h h' ht k => ht.at fun o e => k o e
def goT (K : PySem.W.Frag) (a : Addr) : Nat → Hp → Prop := fun i H => ∃ xs x, SqT K H a xs ∧ xs[i]? = some x
def atT (K : PySem.W.Frag) (a : Addr) : Nat → Hp → V → Prop := fun i H x => ∀ xs, SqT K H a xs → xs[i]? = some x
def stT (K : PySem.W.Frag) (a : Addr) : Nat → Hp → Prop := fun i H => ∃ xs, SqT K H a xs ∧ xs.length = i
def goL (K : PySem.W.Frag) (a : Addr) : Nat → Hp → Prop := fun i H => ∃ xs x, SqL K H a xs ∧ xs[i]? = some x
def atL (K : PySem.W.Frag) (a : Addr) : Nat → Hp → V → Prop := fun i H x => ∀ xs, SqL K H a xs → xs[i]? = some x
def stL (K : PySem.W.Frag) (a : Addr) : Nat → Hp → Prop := fun i H => ∃ xs, SqL K H a xs ∧ xs.length = i
section
variable {X : Cx} {G : GC}
theorem enum_it {pins : List (Addr × Obj)} {σ : L2.St} {H : Hp} {s : Shared} {Q : It → Hp → Prop} {E : Value → Shared → Prop} {elts : List Expr} {kk : Nat} {tpos : Pos} {u : Value} {o : Obj} {Hh : Heap → Prop} {go : Nat → Hp → Prop} {at_ : Nat → Hp → V → Prop} {stop : Nat → Hp → Prop} {tn : Nat → Heap → Prop}
    (I : Inv X pins σ H s) (B : Begins u o Hh) (h1 : Hh s.heap) (S : Src X.prog X.w X.K s.heap.objs.size go at_ stop tn) (t0 : ∀ h : Heap, h.get? s.heap.objs.size = some o → tn 0 h) (q : Q (Iten 0 go at_ stop) H) :
    wpAny (model X.prog X.w) X.A (call (.type "enumerate") [u]) (fun v s1 => wpAny (model X.prog X.w) X.A (pyIter v) (PIE X pins σ (.Tuple elts kk tpos) Q) E s1) E s := by
  refine enum_one B h1 fun h' he ho hk => wpAny_pyIter_enum he ?_
  have I2 : Inv X pins σ H { s with heap := h' } := I.kept (t' := s.toks) hk
  refine ⟨s.heap.objs.size + 1, [s.heap.objs.size + 1, s.heap.objs.size], _, _, H, rfl, I2, turn_en (k0 := 0) S, ⟨⟨.none, by simpa using he⟩, t0 _ ho, Nat.succ_ne_self _⟩, fun b hb => ?_, q⟩
  have hle : s.heap.objs.size ≤ b := by
    rcases List.mem_cons.mp hb with z | z
    · rw [z]; exact Nat.le_add_right _ _
    · rw [List.mem_singleton.mp z]; exact Nat.le_refl _
  exact I.fpOk hle (I.hok.fresh hle)
def iEnumA (K : PySem.W.Frag) (ta : TA) : TI := fun σ H Q => ta σ H fun vs H1 => ∃ a, vs = [.ref a] ∧ ((∃ xs, SqL K H1 a xs ∧ Q (Iten 0 (goL K a) (atL K a) (stL K a)) H1) ∨ ∃ xs, SqT K H1 a xs ∧ Q (Iten 0 (goT K a) (atT K a) (stT K a)) H1)
theorem pi_enumA {e : Expr} {ta : TA} {p pos tpos : Pos} {elts : List Expr} {kk : Nat} (hg : Gl X "enumerate") (hm : X.mg "enumerate" = none) (ha : PA X [e] ta) (hs : starEach [e] X.env = [(false, eval e X.env)]) :
    PI X (.Tuple elts kk tpos) (.Call (.Name "enumerate" p) [e] [] pos) (iEnumA X.K ta) := by
  refine ⟨fun pins s σ H Q I h => ?_⟩
  refine PyProof.Rows.Call_ (ld_blt I hg hm PyProof.Rows.boot_enumerate (PyProof.Rows.callWith_type1 (thn (ha.run pos pins s σ H _ I h) ?_) hs rfl))
  rintro us s1 ⟨vs, H1, I1, r1, a, rfl, (⟨xs, hq, q⟩ | ⟨xs, hq, q⟩)⟩
  · rw [r1.ref1]
    obtain ⟨its, _, pl, _⟩ := I1.list hq
    exact enum_it I1 (begins_list a its.toArray) pl.isList (src_lst a _) (fun h e => ⟨_, e, rfl, rfl⟩) q
  · rw [r1.ref1]
    obtain ⟨its, _, pl, _⟩ := I1.tuple hq
    exact enum_it I1 (begins_tuple a its.toArray) (show s1.heap.IsTuple a its.toArray from pl) (src_tup a _) (fun h e => ⟨_, e, rfl, rfl⟩) q
def enumD (k : Int) : List D → List D
  | [] => []
  | d :: r => .tup [.int k, d] :: enumD (k + 1) r
theorem enumD_get : ∀ (xs : List D) (k : Int) (i : Nat) (d : D), (enumD k xs)[i]? = some d → ∃ x, xs[i]? = some x ∧ d = .tup [.int (k + (i : Nat)), x]
  | [], _, _, _, h => by simp [enumD] at h
  | x :: xs, k, 0, d, h => by
    simp [enumD] at h; subst h
    exact ⟨x, rfl, by simp⟩
  | x :: xs, k, i + 1, d, h => by
    have h : (enumD (k + 1) xs)[i]? = some d := by simpa [enumD] using h
    obtain ⟨y, e1, e2⟩ := enumD_get xs (k + 1) i d h
    refine ⟨y, by simpa using e1, ?_⟩
    rw [e2]
    have : k + 1 + (i : Int) = k + ((i + 1 : Nat) : Int) := by omega
    rw [this]
theorem enumD_length : ∀ (xs : List D) (k : Int), (enumD k xs).length = xs.length
  | [], _ => rfl
  | x :: xs, k => by rw [enumD, List.length_cons, List.length_cons, enumD_length]
theorem rdat_pair {H : Hp} {al : List Addr} {T : Addr} {x : V} {d : D} {i : Int} (h : RDat G.K H al d x) (hT : H T = none) : RDat G.K (upd H T (.tup [.int i, x])) al (.tup [.int i, d]) (.ref T) :=
  RDat.tup_of (SqT.of upd_same) (RDats.cons (by rw [RDat]) (RDats.cons (h.mono (KeepH.new hT) (List.prefix_refl _)) RDats.nil))
theorem itr_enT {H : Hp} {al : List Addr} {a : Addr} {vs : List V} {xs : List D} (s1 : SqT G.K H a vs) (l1 : RDats G.K H al xs vs) : ItR G H al (Iten 0 (goT G.K a) (atT G.K a) (stT G.K a)) ⟨enumD 0 xs, fun _ => True⟩ := by
  intro i H' al' M' n _
  refine ⟨fun d hd => ?_, fun hl => ?_⟩
  · obtain ⟨x, e1, rfl⟩ := enumD_get _ _ _ _ hd
    obtain ⟨v, e2, e3⟩ := l1.get e1
    refine ⟨⟨vs, v, n.k.sqT s1, e2⟩, fun y H2 hy => ?_⟩
    obtain ⟨T, x', rfl, hT, rfl, q⟩ := hy
    have q := q vs (n.k.sqT s1)
    rw [e2] at q; cases q
    exact ⟨n.m.tup hT, rdat_pair (e3.mono n.k n.p) hT⟩
  · rw [enumD_length] at hl
    exact ⟨vs, n.k.sqT s1, by rw [← l1.length]; exact hl⟩
theorem itr_enL {H0 : Hp} {al0 : List Addr} {n : Nat} {a : Addr} {xs : List D} (ha : al0[n]? = some a) : ItR G H0 al0 (Iten 0 (goL G.K a) (atL G.K a) (stL G.K a)) ⟨enumD 0 xs, fun M => lstAt M n = some xs⟩ := by
  intro i H' al' M' nx ok
  have ok : lstAt M' n = some xs := ok
  have rd : RDat G.K H' al' (.ref n) (.ref a) := by rw [RDat]; exact ⟨a, pfx_get nx.p ha, rfl⟩
  obtain ⟨b, vs, e0, s1, l1⟩ := nx.m.seq rd ok
  cases e0
  refine ⟨fun d hd => ?_, fun hl => ?_⟩
  · obtain ⟨x, e1, rfl⟩ := enumD_get _ _ _ _ hd
    obtain ⟨v, e2, e3⟩ := l1.get e1
    refine ⟨⟨vs, v, s1, e2⟩, fun y H2 hy => ?_⟩
    obtain ⟨T, x', rfl, hT, rfl, q⟩ := hy
    have q := q vs s1
    rw [e2] at q; cases q
    exact ⟨nx.m.tup hT, rdat_pair e3 hT⟩
  · rw [enumD_length] at hl
    exact ⟨vs, s1, by rw [← l1.length]; exact hl⟩
def iEnum1 (ta : SA) : SI := fun Ex ρ M R => ta Ex ρ M fun ds M1 => match ds with
  | [.tup xs] => R ⟨enumD 0 xs, fun _ => True⟩ M1
  | [.ref n] => match lstAt M1 n with | some xs => R ⟨enumD 0 xs, fun M => lstAt M n = some xs⟩ M1 | none => False
  | _ => False
theorem mi_enum {a : Expr} {ta : SA} {p pos tpos : Pos} {elts : List Expr} {kk : Nat} (hK : X.K = G.K) (hg : Gl X "enumerate") (hm : X.mg "enumerate" = none) (ha : MA X G [a] ta) (hs : starEach [a] X.env = [(false, eval a X.env)]) :
    MI X G (.Tuple elts kk tpos) (.Call (.Name "enumerate" p) [a] [] pos) (iEnum1 ta) := by
  refine fun W tk => PI.imp (pi_enumA hg hm (ha W tk) hs) fun σ H Q h => ?_
  obtain ⟨ρ, al, M, Ex, R, r, t, c, xc⟩ := h
  refine ⟨ρ, al, M, Ex, _, r, t, fun H1 al1 M1 vs ds n1 r1 l1 h1 => ?_, xc⟩
  rcases ds with _ | ⟨d, _ | ⟨e, t⟩⟩
  · exact (h1 : False).elim
  · obtain ⟨v, rfl, r2⟩ := rd1 r1
    cases d with
    | tup xs =>
      rw [RDat] at r2
      obtain ⟨b, ws, rfl, s1, l2⟩ := r2
      exact ⟨b, rfl, .inr ⟨ws, by rw [hK]; exact s1, by rw [hK]; exact c _ _ _ _ _ n1 (itr_enT s1 l2) h1⟩⟩
    | ref n =>
      have h1 : (match lstAt M1 n with | some xs => R ⟨enumD 0 xs, fun M => lstAt M n = some xs⟩ M1 | none => False) := h1
      cases el : lstAt M1 n with
      | none => simp [el] at h1
      | some xs =>
        simp only [el] at h1
        obtain ⟨b, ws, rfl, s1, l2⟩ := n1.m.seq r2 el
        have hb : al1[n]? = some b := by
          rw [RDat] at r2
          obtain ⟨b', e1, e2⟩ := r2
          cases e2; exact e1
        exact ⟨b, rfl, .inl ⟨ws, by rw [hK]; exact s1, by rw [hK]; exact c _ _ _ _ _ n1 (itr_enL hb) h1⟩⟩
    | _ => exact (h1 : False).elim
  · cases d <;> exact (h1 : False).elim
end
end DN

set_option maxHeartbeats 4000000
/-! comprehensions, methods, statements -/
namespace DN
open PySem PySem.Spec L2

/-! ### list comprehensions -/
def wipeD (ρ : Env) : List Nat → Env
  | [] => ρ
  | v :: vs => (wipeD ρ vs).set v none
theorem wipeD_length (ρ : Env) : ∀ vs : List Nat, (wipeD ρ vs).length = ρ.length
  | [] => rfl
  | v :: vs => by unfold wipeD; rw [List.length_set, wipeD_length ρ vs]
theorem wipeD_get : ∀ (vs : List Nat) (ρ : Env) (i : Nat), (wipeD ρ vs)[i]? = if i ∈ vs then (if i < ρ.length then some none else none) else ρ[i]?
  | [], ρ, i => by simp [wipeD]
  | v :: vs, ρ, i => by
    unfold wipeD
    by_cases hv : v = i
    · subst hv
      rw [if_pos (List.mem_cons_self), List.getElem?_set]
      simp [wipeD_length]
    · rw [List.getElem?_set_ne hv, wipeD_get vs ρ i]
      have : (i ∈ v :: vs) ↔ i ∈ vs := by simp [Ne.symm hv]
      simp only [this]
def noX : XC := fun _ _ => False
def lcL (ok : Mem → Prop) (tg : Tg) (tt : SC) (te : SE) (n : Nat) (ρ : Env) : List D → Mem → (Mem → Prop) → Prop
  | [], M, Kn => ok M ∧ Kn M
  | d :: r, M, Kn => ok M ∧ match asgD tg d ρ with
    | some ρ1 => tt noX ρ1 M fun b M2 => match b with
      | true => te noX ρ1 M2 fun y M3 => match mlst M3 n with
        | some acc => acc.length < sizeLine ∧ lcL ok tg tt te n ρ r (M3.set n (.lst (acc ++ [y]))) Kn
        | none => False
      | false => lcL ok tg tt te n ρ r M2 Kn
    | none => False
def eLc (ti : SI) (tg : Tg) (tt : SC) (te : SE) (vs : List Nat) : SE := fun Ex ρ M R => ti Ex ρ M fun it M1 =>
  lcL it.ok tg tt te M1.length (wipeD ρ vs) it.items (M1 ++ [.lst []]) fun M2 => R (.ref M1.length) M2
section
variable {X : Cx} {G : GC}
def MTs (X : Cx) (G : GC) (ifs : List Expr) (t : SC) : Prop := ∀ W, Takes X W → PTs X ifs (LC G W t)
theorem PTs.imp {X : Cx} {ifs : List Expr} {t t' : TT} (h : PTs X ifs t) (i : ∀ σ H Q, t' σ H Q → t σ H Q) : PTs X ifs t' := ⟨fun pins s σ H Q I w => h.run pins s σ H Q I (i σ H Q w)⟩
def cYes : SC := fun _ _ M R => R true M
theorem mts_nil : MTs X G [] cYes := by
  refine fun W tk => PTs.imp pts_nil fun σ H Q h => ?_
  obtain ⟨ρ, al, M, Ex, R, r, t, c, xc⟩ := h
  exact c _ _ _ _ r.m.go t
theorem mts_one {c : Expr} {t : SC} (h : MC X G c t) : MTs X G [c] t := fun W tk => pts_one (h W tk)
abbrev W0 : WX := fun _ _ _ _ => False
theorem xcl0 {H : Hp} {al : List Addr} {σ : L2.St} : XCl G W0 H al noX σ := fun _ _ _ _ _ _ _ _ e => (e : False)
theorem REnv.wipe {H : Hp} {al : List Addr} {σ : L2.St} {ρ : Env} (r : REnv G H al σ ρ) (vs : List Nat) : REnv G H al (L2.wipe σ vs) (wipeD ρ vs) := by
  refine ⟨by rw [wipe_length, wipeD_length]; exact r.1, fun i d h => ?_⟩
  rw [wipeD_get] at h
  rw [wipe_get]
  by_cases hi : i ∈ vs
  · rw [if_pos hi] at h
    split at h <;> cases h
  · rw [if_neg hi] at h ⊢
    exact r.2 i d h
theorem XOk.wipe {H : Hp} {al : List Addr} {σ : L2.St} {vs : List Nat} (x : XOk G H al σ) (hx : NoX G vs) : XOk G H al (L2.wipe σ vs) := by
  unfold XOk at x ⊢
  cases e : G.xn with
  | none => trivial
  | some n =>
    rw [e] at x
    refine ⟨x.1, ?_⟩
    rw [wipe_get, if_neg (hx n e)]
    exact x.2
theorem me_lc {elt tg iter : Expr} {ifs : List Expr} {scope : Scope} {own : List (Str × Nat)} {pos : Pos} {ti : SI} {t : Tg} {tt : SC} {te : SE} (hc : X.calm = true) (hN : X.N.Nodup) (hi : MI X G tg iter ti) (ok : BlkOk X.N X.env.scope scope own)
    (hg : ∀ (s : Shared) (H : Hp) (C : Addr) (cl : List (Str × Addr)) (fp : List Addr), MG (X.blk s H scope (compEnvC scope cl C X.env) fp) G tg t) (ht : ∀ (s : Shared) (H : Hp) (C : Addr) (cl : List (Str × Addr)) (fp : List Addr), MTs (X.blk s H scope (compEnvC scope cl C X.env) fp) G ifs tt)
    (he : ∀ (s : Shared) (H : Hp) (C : Addr) (cl : List (Str × Addr)) (fp : List Addr), ME (X.blk s H scope (compEnvC scope cl C X.env) fp) G elt te) (hs : ∀ x, foldedSetIterable iter X.env x = pure x)
    (hsl : ∀ i ∈ slotsT t, i ∈ own.map (·.2)) (hx : NoX G (own.map (·.2))) : ME X G (.ListComp elt [⟨tg, iter, ifs, 0⟩] scope pos) (eLc ti t tt te (own.map (·.2))) := by
  intro W tk
  have tk0 : ∀ s H C cl fp, Takes (X.blk s H scope (compEnvC scope cl C X.env) fp) W0 := fun s H C cl fp => takes0
  refine PE.imp (pe_lc hc hN (hi W tk) ok hg (fun s H C cl fp => ht s H C cl fp W0 (tk0 s H C cl fp)) (fun s H C cl fp => he s H C cl fp W0 (tk0 s H C cl fp)) hs) fun σ H Q h => ?_
  obtain ⟨ρ, al, M, Ex, R, r, h, c, xc⟩ := h
  refine ⟨ρ, al, M, Ex, _, r, h, fun H1 al1 M1 J it n1 itr h1 => ?_, xc⟩
  intro D hD
  have h1 : lcL it.ok t tt te M1.length (wipeD ρ (own.map (·.2))) it.items (M1 ++ [.lst []]) (fun M2 => R (.ref M1.length) M2) := h1
  have n2 := n1.m.new (o := .lst []) (u := .lst []) hD ⟨[], rfl, RDats.nil⟩
  have hD2 : (al1 ++ [D])[M1.length]? = some D := by
    rw [← n1.m.len, List.getElem?_append_right (Nat.le_refl _), Nat.sub_self]; rfl
  let Wi : Nat → Nat → Hp → Prop := fun i m H' => m = it.items.length - i ∧ i ≤ it.items.length ∧ ∃ al' M', Nxt G (upd H1 D (.lst [])) (al1 ++ [D]) H' al' M' ∧
    lcL it.ok t tt te M1.length (wipeD ρ (own.map (·.2))) (it.items.drop i) M' (fun M2 => R (.ref M1.length) M2)
  refine ⟨Wi, ⟨it.items.length, by simp, Nat.zero_le _, _, _, n2.m.go, by simpa using h1⟩, ?_⟩
  rintro i m H' ⟨rfl, hi, al', M', n3, hl⟩
  have n13 := n2.trans n3
  by_cases hlt : i < it.items.length
  · have ed : it.items.drop i = it.items[i] :: it.items.drop (i + 1) := List.drop_eq_getElem_cons hlt
    rw [ed] at hl
    obtain ⟨hok, hl⟩ := (hl : _ ∧ _)
    obtain ⟨hgo, _⟩ := itr i H' al' M' n13 hok
    obtain ⟨go, hy⟩ := hgo _ (List.getElem?_eq_getElem hlt)
    refine .inr ⟨go, fun H2 => Wi (i + 1) (it.items.length - (i + 1)) H2, fun H2 w => ⟨_, by omega, w⟩, fun x H2 hyx => ?_⟩
    obtain ⟨n4, rx⟩ := hy x H2 hyx
    cases ea : asgD t it.items[i] (wipeD ρ (own.map (·.2))) with
    | none => rw [ea] at hl; exact hl.elim
    | some ρ1 =>
      rw [ea] at hl
      have n14 := n13.trans n4
      have rw0 : RSt G H2 al' M' (L2.wipe σ (own.map (·.2))) (wipeD ρ (own.map (·.2))) :=
        ⟨n4.m, (r.e.mono (n1.k.trans n14.k) (n1.p.trans n14.p)).wipe _, (r.x.mono (n1.k.trans n14.k) (n1.p.trans n14.p)).wipe hx⟩
      refine ⟨_, al', M', _, ρ1, rw0, rx, ea, fun σ2 r2 o2 => ⟨?_, ρ1, al', M', noX, _, r2, hl, fun H5 al5 M5 b n5 h5 => ?_, xcl0⟩⟩
      · rw [o2.wipe hsl]
        apply List.ext_getElem?
        intro j
        rw [wipe_get, wipe_get, wipe_length]
        by_cases hj : j ∈ own.map (·.2)
        · rw [if_pos hj, if_pos hj]
        · rw [if_neg hj, if_neg hj]
      · have n15 := n3.trans (n4.trans n5)
        cases b with
        | false =>
          exact iteF ⟨rfl, hlt, al5, M5, n15, h5⟩
        | true =>
          refine iteT ?_
          refine ⟨ρ1, al5, M5, noX, _, r2.go n5, h5, fun H6 al6 M6 y d n6 r6 h6 => ?_, xcl0⟩
          have n16 := n15.trans n6
          cases em : mlst M6 M1.length with
          | none => simp only [em] at h6
          | some acc =>
            simp only [em] at h6
            obtain ⟨hz, h6⟩ := (h6 : _ ∧ _)
            have hD6 : al6[M1.length]? = some D := pfx_get n16.p hD2
            obtain ⟨a, vs, ev, ea6, eH, l6⟩ := n16.m.lst (v := .ref D) (by rw [RDat]; exact ⟨D, hD6, rfl⟩) (mlst_lst em)
            cases ev
            refine ⟨vs, eH, by rw [← l6.length]; exact hz, rfl, hlt, al6, _, n16.trans (n16.m.wr (o := .lst (acc ++ [d])) (u := .lst (vs ++ [y])) hD6 eH rfl ⟨_, rfl, l6.append (RDats.cons r6 RDats.nil)⟩), h6⟩
  · have ei : i = it.items.length := by omega
    subst ei
    rw [List.drop_length] at hl
    obtain ⟨hok, hl⟩ := (hl : _ ∧ _)
    obtain ⟨_, hst⟩ := itr _ H' al' M' n13 hok
    refine .inl ⟨hst rfl, c _ _ _ _ _ (n1.trans n13) ?_ hl⟩
    rw [RDat]
    exact ⟨D, pfx_get n3.p hD2, rfl⟩

/-! ### methods of built-in types -/
def rcv (T : String) (d : D) (M : Mem) : Prop := match d with
  | .str _ => T = "str"
  | .ref n => match M[n]? with
    | some (.lst _) => T = "list"
    | some (.fro _) => T = "list"
    | some (.dK _) => T = "dict"
    | _ => False
  | _ => False
theorem rcv_ok {H : Hp} {al : List Addr} {M : Mem} {d : D} {v : V} {T : String} (m : RMem G H al M) (r : RDat G.K H al d v) (h : rcv T d M) : tyV G.K T v H := by
  cases d with
  | str x => rw [RDat] at r; subst r; exact h
  | ref n =>
    have h : (match M[n]? with | some (.lst _) => T = "list" | some (.fro _) => T = "list" | some (.dK _) => T = "dict" | _ => False) := h
    cases e : M[n]? with
    | none => simp [e] at h
    | some o =>
      cases o with
      | lst xs =>
        simp only [e] at h
        obtain ⟨a, vs, rfl, _, e2, _⟩ := m.lst r e
        exact .inl ⟨h, vs, SqL.of e2⟩
      | fro xs =>
        simp only [e] at h
        obtain ⟨a, vs, rfl, e2, _⟩ := m.fro r e
        exact .inl ⟨h, vs, e2⟩
      | dK kvs =>
        simp only [e] at h
        rw [RDat] at r
        obtain ⟨a, ea, rfl⟩ := r
        obtain ⟨b, u, e1, e2, ws, e3, q⟩ := m.at_ n _ e
        rw [ea] at e1; cases e1; subst e3
        exact .inr (.inr (.inl ⟨h, .inl ⟨ws, e2⟩⟩))
      | ins _ _ => simp [e] at h
  | _ => exact (h : False).elim
def eBm (T : String) (g : OpM) (to : SE) (tt : SA) : SE := fun Ex ρ M R => to Ex ρ M fun d M1 => rcv T d M1 ∧ tt Ex ρ M1 fun ds M2 => g d ds M2 R
variable {o a : Expr} {es : List Expr} {to : SE} {tt : SA} {name : Str} {apos cpos : Pos} {T id : String} {g : OpM}
theorem me_bm0 (hK : X.K = G.K) (pa : PlainAttrs T) (slot : Slot T name id) (hty : typeOf (.builtin id) = pure (.type "method_descriptor")) (hm : MtR X id (LMt G g)) (ho : ME X G o to)
    (hbase : attributeBase o name X.env (eval o X.env) = eval o X.env) (hline : (apos.endLine == cpos.line) = true) : ME X G (.Call (.Attribute o name apos) [] [] cpos) (eBm T g to aNil) := by
  refine fun W tk => PE.imp (pe_bm0 pa slot hty hm (ho W tk) hbase hline) fun σ H Q h => ?_
  obtain ⟨ρ, al, M, Ex, R, r, h, c, xc⟩ := h
  refine ⟨ρ, al, M, Ex, _, r, h, fun H1 al1 M1 v d n1 r1 h1 => ?_, xc⟩
  obtain ⟨h1, h2⟩ := (h1 : _ ∧ _)
  exact ⟨by rw [hK]; exact rcv_ok n1.m r1 h1, al1, M1, d, [], R, n1.m, r1, RDats.nil, h2, c.nxt n1⟩
theorem me_bm (hK : X.K = G.K) (pa : PlainAttrs T) (slot : Slot T name id) (hty : typeOf (.builtin id) = pure (.type "method_descriptor")) (hm : MtR X id (LMt G g)) (ho : ME X G o to) (ha : MA X G (a :: es) tt)
    (hbase : attributeBase o name X.env (eval o X.env) = eval o X.env)
    (hfew : ((backTo cpos (starEach (a :: es) X.env)).all (fun x => !x.1) && (backToKw cpos (keywordEach [] X.env)).all (fun x => x.1.isSome)
      && decide ((a :: es).length + ([] : List Keyword).length + (if ([] : List Keyword).isEmpty then 0 else 1) < 30)) = true)
    (hline : (apos.endLine == cpos.line) = true) (hs : starEach (a :: es) X.env = (false, eval a X.env) :: starEach es X.env) (hplain : (backTo cpos (starEach es X.env)).any (·.1) = false) :
    ME X G (.Call (.Attribute o name apos) (a :: es) [] cpos) (eBm T g to tt) := by
  refine fun W tk => PE.imp (pe_bm pa slot hty hm (ho W tk) (ha W tk) hbase hfew hline hs hplain) fun σ H Q h => ?_
  obtain ⟨ρ, al, M, Ex, R, r, h, c, xc⟩ := h
  refine ⟨ρ, al, M, Ex, _, r, h, fun H1 al1 M1 v d n1 r1 h1 => ?_, xc⟩
  obtain ⟨h1, h2⟩ := (h1 : _ ∧ _)
  exact ⟨by rw [hK]; exact rcv_ok n1.m r1 h1, ρ, al1, M1, Ex, _, r.go n1, h2, fun H2 al2 M2 vs ds n2 r2 l2 h3 => ⟨al2, M2, d, ds, R, n2.m, r1.mono n2.k n2.p, r2, h3, c.nxt (n1.trans n2)⟩, xc.nxt n1⟩

def mAppend : OpM := fun d ds M R => match d, ds with
  | .ref n, [y] => match mlst M n with
    | some xs => xs.length < sizeLine ∧ R .non (M.set n (.lst (xs ++ [y])))
    | none => False
  | _, _ => False
theorem mr_append : MtR X "list.append" (LMt G mAppend) := by
  intro pins s σ H x xs v us Q I rx rs h
  obtain ⟨al, M, d, ds, R, m, r1, r2, g, c⟩ := h
  rcases ds with _ | ⟨y, _ | ⟨z, t⟩⟩
  · cases d <;> exact (g : False).elim
  · cases d with
    | ref n =>
      have g : (match mlst M n with | some xs => xs.length < sizeLine ∧ R .non (M.set n (.lst (xs ++ [y]))) | none => False) := g
      cases e : mlst M n with
      | none => simp [e] at g
      | some ys =>
        simp only [e] at g
        obtain ⟨hz, g⟩ := g
        obtain ⟨a, vs, rfl, ea, e2, l⟩ := m.lst r1 (mlst_lst e)
        obtain ⟨w, rfl, rw1⟩ := rd1 r2
        exact mt_append pins s σ H _ _ v us Q I rx rs ⟨a, vs, w, rfl, rfl, e2, by rw [← l.length]; exact hz, c _ _ _ _ _ (m.wr (o := .lst (ys ++ [y])) (u := .lst (vs ++ [w])) ea e2 rfl ⟨_, rfl, l.append (RDats.cons rw1 RDats.nil)⟩) (by rw [RDat]) g⟩
    | _ => exact (g : False).elim
  · cases d <;> exact (g : False).elim
theorem ext_tup (l : Addr) (items : Array Value) (n : Nat) (b : Addr) (items2 : Array Value) (n2 : Nat) (dd : Option Addr) (sl : Array (Option Value)) (hs0 : ¬(!items.isEmpty && Builtin.List.listTooLong (items.size + items2.size)) = true) (hs1 : items.size ≤ sizeLine) (hs2 : items.size + items2.size ≤ sizeLine + 1) :
    Meets (Builtin.«list.extend» ⟨[.ref l, .ref b], []⟩) (fun _ R s => s.heap.get? l = some { cls := .type "list", dict := none, data := .seq items n, slots := #[] } ∧ s.heap.get? b = some { cls := .type "tuple", dict := dd, data := .seq items2 n2, slots := sl } ∧
      R (.ok (.ret Value.none)) { s with heap := s.heap.update l (Obj.mapSeq fun x => x ++ items2), toks := s.toks }) :=
  .of_wp fun prog w A R s h => by
    obtain ⟨hp, g, d, tk, os⟩ := s
    obtain ⟨hl, hb, h⟩ := h
    have f1 := AutoSeq1.idx_int
    have f2 := AutoSeq1.sub_tuple_tuple
    have f3 := AutoSeq1.sub_list_list
    have f4 := AutoSeq1.sub_tuple_list
    have f5 := AutoSeq1.sub_list_tuple
    have hz' : (items ++ items2).size ≤ sizeLine + 1 := by rw [Array.size_append]; exact hs2
    wp_walk using (wpAny_updateSeq hl rfl (hz := hs1) (_hz' := hz')), AutoSeq1.wpAny_loadPart' hl, AutoSeq1.wpAny_loadPart' hb
    exact ⟨_, rfl, h⟩
def rExtT (K : PySem.W.Frag) : V → List V → Hp → VK → Prop := fun x vs H Q => ∃ l b xs zs, x = .ref l ∧ vs = [.ref b] ∧ H l = some (.lst xs) ∧ SqT K H b zs ∧ xs.length + zs.length ≤ sizeLine ∧ Q .non (upd H l (.lst (xs ++ zs)))
theorem mt_extT : MtR X "list.extend" (rExtT X.K) := by
  intro pins s σ H x vs v us Q I rx rv h
  obtain ⟨l, b, xs, zs, rfl, rfl, hH, hB, hz, q⟩ := h
  cases rx
  obtain ⟨u, rfl, ru⟩ := rv.one
  cases ru
  obtain ⟨z, its, n, r, hl, e⟩ := I.lstM hH
  obtain ⟨its2, r2, ⟨⟨c2, dd, dt, sl⟩, e2, hc2, n2, hd2⟩, hz2⟩ := I.tuple hB
  replace hc2 : c2 = .type "tuple" := hc2
  replace hd2 : dt = .seq its2.toArray n2 := hd2
  subst hc2 hd2
  have hl2 := r2.length
  have hsz : its.toArray.size + its2.toArray.size ≤ sizeLine := by rw [List.size_toArray, List.size_toArray]; omega
  have hlong : ¬ (!its.toArray.isEmpty && Builtin.List.listTooLong (its.toArray.size + its2.toArray.size)) = true := by
    rw [notLongL hsz, Bool.and_false]
    exact Bool.false_ne_true
  refine call_meets F.slot_list_extend ⟨_, e, rfl⟩ F.entry_list_extend (F.args_list_extend_2 _ _)
    (ext_tup l its.toArray n b its2.toArray n2 dd sl hlong (by rw [List.size_toArray]; omega) (by omega)) ⟨e, e2, ?_⟩
  refine ⟨.non, _, I.lset (its' := its ++ its2) hH e (by simp) (r.append r2) ?_, rfl, q⟩
  rw [List.length_append]
  omega
def mExtend : OpM := fun d ds M R => match d, ds with
  | .ref n, [.tup zs] => match mlst M n with
    | some xs => xs.length + zs.length ≤ sizeLine ∧ R .non (M.set n (.lst (xs ++ zs)))
    | none => False
  | .ref n, [.ref k] => match mlst M n, mlst M k with
    | some xs, some zs => xs.length + zs.length ≤ sizeLine ∧ R .non (M.set n (.lst (xs ++ zs)))
    | _, _ => False
  | _, _ => False
theorem mr_extend (hK : X.K = G.K) : MtR X "list.extend" (LMt G mExtend) := by
  intro pins s σ H x xs v us Q I rx rs h
  obtain ⟨al, M, d, ds, R, m, r1, r2, g, c⟩ := h
  rcases ds with _ | ⟨y, _ | ⟨z, t⟩⟩
  · cases d <;> exact (g : False).elim
  · cases d with
    | ref n =>
      obtain ⟨w, rfl, rw1⟩ := rd1 r2
      cases y with
      | tup zs =>
        have g : (match mlst M n with | some xs => xs.length + zs.length ≤ sizeLine ∧ R .non (M.set n (.lst (xs ++ zs))) | none => False) := g
        cases e : mlst M n with
        | none => simp [e] at g
        | some ys =>
          simp only [e] at g
          obtain ⟨hz, g⟩ := g
          obtain ⟨a, vs, rfl, ea, e2, l⟩ := m.lst r1 (mlst_lst e)
          rw [RDat] at rw1
          obtain ⟨b, ws, rfl, sb, lb⟩ := rw1
          exact mt_extT pins s σ H _ _ v us Q I rx rs ⟨a, b, vs, ws, rfl, rfl, e2, by rw [hK]; exact sb, by rw [← l.length, ← lb.length]; exact hz, c _ _ _ _ _ (m.wr (o := .lst (ys ++ zs)) (u := .lst (vs ++ ws)) ea e2 rfl ⟨_, rfl, l.append lb⟩) (by rw [RDat]) g⟩
      | ref k =>
        have g : (match mlst M n, mlst M k with | some xs, some zs => xs.length + zs.length ≤ sizeLine ∧ R .non (M.set n (.lst (xs ++ zs))) | _, _ => False) := g
        cases e : mlst M n with
        | none => simp [e] at g
        | some ys =>
          cases e' : mlst M k with
          | none => simp [e, e'] at g
          | some zs =>
            simp only [e, e'] at g
            obtain ⟨hz, g⟩ := g
            obtain ⟨a, vs, rfl, ea, e2, l⟩ := m.lst r1 (mlst_lst e)
            obtain ⟨b, ws, rfl, eb, e3, lb⟩ := m.lst rw1 (mlst_lst e')
            exact L2.mt_extend pins s σ H _ _ v us Q I rx rs ⟨a, b, vs, ws, rfl, rfl, e2, e3, by rw [← l.length, ← lb.length]; exact hz, c _ _ _ _ _ (m.wr (o := .lst (ys ++ zs)) (u := .lst (vs ++ ws)) ea e2 rfl ⟨_, rfl, l.append lb⟩) (by rw [RDat]) g⟩
      | _ => exact (g : False).elim
    | _ => cases y <;> exact (g : False).elim
  · cases d <;> cases y <;> exact (g : False).elim
/-- pop from the end -/
def mPop : OpM := fun d ds M R => match d, ds with
  | .ref n, [] => match mlst M n with
    | some xs => match xs.getLast? with
      | some y => R y (M.set n (.lst xs.dropLast))
      | none => False
    | none => False
  | .ref n, [.int i] => match mlst M n with
    | some xs => (-(2 ^ 63) ≤ i ∧ i < 2 ^ 63) ∧ (match seqIndex? i xs.length with
      | some k => match xs[k]? with
        | some y => R y (M.set n (.lst (xs.eraseIdx k)))
        | none => False
      | none => False)
    | none => False
  | _, _ => False
theorem mr_pop : MtR X "list.pop" (LMt G mPop) := by
  intro pins s σ H x xs v us Q I rx rs h
  obtain ⟨al, M, d, ds, R, m, r1, r2, g, c⟩ := h
  rcases ds with _ | ⟨y, _ | ⟨z, t⟩⟩
  · cases d with
    | ref n =>
      have g : (match mlst M n with
        | some xs => (match xs.getLast? with | some y => R y (M.set n (.lst xs.dropLast)) | none => False)
        | none => False) := g
      cases e : mlst M n with
      | none => simp [e] at g
      | some ys =>
        simp only [e] at g
        cases e3 : ys.getLast? with
        | none => simp [e3] at g
        | some y =>
          simp only [e3] at g
          obtain ⟨a, vs, rfl, ea, e2, l⟩ := m.lst r1 (mlst_lst e)
          rw [RDats] at r2; subst r2
          rw [List.getLast?_eq_getElem?] at e3
          obtain ⟨w, e4, rw1⟩ := l.get e3
          rw [l.length] at e4
          exact L2.mt_pop pins s σ H _ _ v us Q I rx rs ⟨a, vs, w, rfl, rfl, e2, e4, c _ _ _ _ _ (m.wr (o := .lst ys.dropLast) (u := .lst vs.dropLast) ea e2 rfl ⟨_, rfl, l.dropLast⟩)
            (rw1.mono (KeepH.wr e2 rfl) (List.prefix_refl _)) g⟩
    | _ => exact (g : False).elim
  · cases d with
    | ref n =>
      cases y with
      | int i =>
        have g : (match mlst M n with
          | some xs => (-(2 ^ 63) ≤ i ∧ i < 2 ^ 63) ∧ (match seqIndex? i xs.length with
            | some k => (match xs[k]? with | some y => R y (M.set n (.lst (xs.eraseIdx k))) | none => False)
            | none => False)
          | none => False) := g
        cases e : mlst M n with
        | none => simp [e] at g
        | some ys =>
          simp only [e] at g
          obtain ⟨⟨h1, h2⟩, g⟩ := g
          cases e5 : seqIndex? i ys.length with
          | none => simp [e5] at g
          | some k =>
            simp only [e5] at g
            cases e3 : ys[k]? with
            | none => simp [e3] at g
            | some y =>
              simp only [e3] at g
              obtain ⟨a, vs, rfl, ea, e2, l⟩ := m.lst r1 (mlst_lst e)
              obtain ⟨w0, rfl, rw0⟩ := rd1 r2
              rw [RDat] at rw0; subst rw0
              obtain ⟨w, e4, rw1⟩ := l.get e3
              rw [l.length] at e5
              exact mt_popAt pins s σ H _ _ v us Q I rx rs ⟨a, vs, i, k, w, rfl, rfl, e2, h1, h2, e5, e4, c _ _ _ _ _ (m.wr (o := .lst (ys.eraseIdx k)) (u := .lst (vs.eraseIdx k)) ea e2 rfl ⟨_, rfl, l.eraseIdx k⟩)
                (rw1.mono (KeepH.wr e2 rfl) (List.prefix_refl _)) g⟩
      | _ => exact (g : False).elim
    | _ => cases y <;> exact (g : False).elim
  · cases d <;> cases y <;> exact (g : False).elim
def mReverse : OpM := fun d ds M R => match d, ds with
  | .ref n, [] => match mlst M n with
    | some xs => R .non (M.set n (.lst xs.reverse))
    | none => False
  | _, _ => False
theorem mr_reverse : MtR X "list.reverse" (LMt G mReverse) := by
  intro pins s σ H x xs v us Q I rx rs h
  obtain ⟨al, M, d, ds, R, m, r1, r2, g, c⟩ := h
  rcases ds with _ | ⟨y, t⟩
  · cases d with
    | ref n =>
      have g : (match mlst M n with | some xs => R .non (M.set n (.lst xs.reverse)) | none => False) := g
      cases e : mlst M n with
      | none => simp [e] at g
      | some ys =>
        simp only [e] at g
        obtain ⟨a, vs, rfl, ea, e2, l⟩ := m.lst r1 (mlst_lst e)
        rw [RDats] at r2; subst r2
        exact mt_reverse pins s σ H _ _ v us Q I rx rs ⟨a, vs, rfl, rfl, e2, c _ _ _ _ _ (m.wr (o := .lst ys.reverse) (u := .lst vs.reverse) ea e2 rfl ⟨_, rfl, l.reverse⟩) (by rw [RDat]) g⟩
    | _ => exact (g : False).elim
  · cases d <;> exact (g : False).elim
/-- the texts of a list of data -/
def strsD : List D → Option (List Str)
  | [] => some []
  | .str i :: r => (strsD r).map (i :: ·)
  | _ => none
theorem strsD_rel {K : PySem.W.Frag} {H : Hp} {al : List Addr} : ∀ {ds : List D} {vs : List V} {ns : List Str}, RDats K H al ds vs → strsD ds = some ns → vs = ns.map V.str
  | [], _, _, r, h => by rw [RDats] at r; subst r; cases h; rfl
  | d :: ds, _, ns, r, h => by
    rw [RDats] at r
    obtain ⟨v, r', rfl, h1, h2⟩ := r
    cases d with
    | str i =>
      have h : (strsD ds).map (i :: ·) = some ns := h
      cases e : strsD ds with
      | none => rw [e] at h; cases h
      | some ms =>
        rw [e] at h; cases h
        rw [RDat] at h1; subst h1
        rw [strsD_rel h2 e]; rfl
    | _ => cases h
def mJoin : OpM := fun d ds M R => match d, ds with
  | .str a, [.tup xs] => match strsD xs with
    | some ys => (ys.map (·.length)).sum + ys.length * a.length ≤ 16777216 ∧ R (.str (Txt.join a ys)) M
    | none => False
  | .str a, [.ref n] => match (lstAt M n).bind strsD with
    | some ys => (ys.map (·.length)).sum + ys.length * a.length ≤ 16777216 ∧ R (.str (Txt.join a ys)) M
    | none => False
  | _, _ => False
theorem mr_join (hK : X.K = G.K) : MtR X "str.join" (LMt G mJoin) := by
  intro pins s σ H x xs v us Q I rx rs h
  obtain ⟨al, M, d, ds, R, m, r1, r2, g, c⟩ := h
  rcases ds with _ | ⟨y, _ | ⟨z, t⟩⟩
  · cases d <;> exact (g : False).elim
  · cases d with
    | str a =>
      rw [RDat] at r1; subst r1
      obtain ⟨w, rfl, rw1⟩ := rd1 r2
      cases y with
      | tup zs =>
        have g : (match strsD zs with | some ys => (ys.map (·.length)).sum + ys.length * a.length ≤ 16777216 ∧ R (.str (Txt.join a ys)) M | none => False) := g
        cases e : strsD zs with
        | none => simp [e] at g
        | some ys =>
          simp only [e] at g
          obtain ⟨hz, g⟩ := g
          rw [RDat] at rw1
          obtain ⟨b, ws, rfl, sb, lb⟩ := rw1
          have ew := strsD_rel lb e
          subst ew
          exact mt_join pins s σ H _ _ v us Q I rx rs ⟨a, b, ys, rfl, rfl, .inr (by rw [hK]; exact sb), hz, c _ _ _ _ _ m.go (by rw [RDat]) g⟩
      | ref k =>
        have g : (match (lstAt M k).bind strsD with | some ys => (ys.map (·.length)).sum + ys.length * a.length ≤ 16777216 ∧ R (.str (Txt.join a ys)) M | none => False) := g
        cases el : lstAt M k with
        | none => simp [el] at g
        | some zs =>
          cases e : strsD zs with
          | none => simp [el, e] at g
          | some ys =>
            simp only [el, Option.bind_some, e] at g
            obtain ⟨hz, g⟩ := g
            obtain ⟨b, ws, rfl, sb, lb⟩ := m.seq rw1 el
            have ew := strsD_rel lb e
            subst ew
            exact mt_join pins s σ H _ _ v us Q I rx rs ⟨a, b, ys, rfl, rfl, .inl (by rw [hK]; exact sb), hz, c _ _ _ _ _ m.go (by rw [RDat]) g⟩
      | _ => exact (g : False).elim
    | _ => cases y <;> exact (g : False).elim
  · cases d <;> cases y <;> exact (g : False).elim
end
end DN

set_option maxHeartbeats 4000000
/-! statements, defs -/
namespace DN
open PySem PySem.Spec L2

structure SD where
  nx : Env → Mem → Prop
  rt : KD
  bk : Env → Mem → Prop
  ct : Env → Mem → Prop
  ex : Exn → Env → Mem → Prop
abbrev SS := SD → Env → Mem → Prop

structure EndR (G : GC) (W : WX) (H : Hp) (al : List Addr) (Ds : SD) (De : Ends) : Prop where
  nx : ∀ σ' ρ' H' al' M', Nxt G H al H' al' M' → RSt G H' al' M' σ' ρ' → Ds.nx ρ' M' → De.nx σ' H'
  rt : VCl G H al Ds.rt De.rt
  bk : ∀ σ' ρ' H' al' M', Nxt G H al H' al' M' → RSt G H' al' M' σ' ρ' → Ds.bk ρ' M' → De.bk σ' H'
  ct : ∀ σ' ρ' H' al' M', Nxt G H al H' al' M' → RSt G H' al' M' σ' ρ' → Ds.ct ρ' M' → De.ct σ' H'
  ex : ∀ σ' ρ' H' al' M' x cls dd, Nxt G H al H' al' M' → RSt G H' al' M' σ' ρ' → RExn G.K G.cm H' al' x cls dd → Ds.ex x ρ' M' → W cls dd σ' H'
theorem EndR.nxt {G : GC} {W : WX} {H H1 : Hp} {al al1 : List Addr} {M1 : Mem} {Ds : SD} {De : Ends} (e : EndR G W H al Ds De) (n : Nxt G H al H1 al1 M1) : EndR G W H1 al1 Ds De :=
  ⟨fun _ _ _ _ _ n' => e.nx _ _ _ _ _ (n.trans n'), e.rt.nxt n, fun _ _ _ _ _ n' => e.bk _ _ _ _ _ (n.trans n'), fun _ _ _ _ _ n' => e.ct _ _ _ _ _ (n.trans n'), fun _ _ _ _ _ _ _ _ n' => e.ex _ _ _ _ _ _ _ _ (n.trans n')⟩
theorem EndR.xcl {G : GC} {W : WX} {H : Hp} {al : List Addr} {M : Mem} {Ds : SD} {De : Ends} {σ : L2.St} {ρ : Env} (e : EndR G W H al Ds De) (r : RSt G H al M σ ρ) : XCl G W H al (fun x M => Ds.ex x ρ M) σ :=
  fun H' al' M' x cls dd n rx h => e.ex σ ρ H' al' M' x cls dd n (r.go n) rx h
def LS (G : GC) (W : WX) (t : SS) : TS := fun De σ H => ∃ ρ al M Ds, RSt G H al M σ ρ ∧ t Ds ρ M ∧ EndR G W H al Ds De
def MS (X : Cx) (G : GC) (st : Stmt) (t : SS) : Prop := ∀ W, Takes X W → PS X st (LS G W t)
def MSs (X : Cx) (G : GC) (st : List Stmt) (t : SS) : Prop := ∀ W, Takes X W → PSs X st (LS G W t)

def sNop : SS := fun D ρ M => D.nx ρ M
def SD.sq (D : SD) (u : SD → Env → Mem → Prop) : SD := { D with nx := u D }
def SD.lp (D : SD) (K : Env → Mem → Prop) : SD := { D with nx := K, ct := K, bk := D.nx }
def sSeq (t u : SS) : SS := fun D ρ M => t (D.sq u) ρ M
def sBreak : SS := fun D ρ M => D.bk ρ M
def sCont : SS := fun D ρ M => D.ct ρ M
def sEx (t : SE) : SS := fun D ρ M => t (fun x M1 => D.ex x ρ M1) ρ M fun _ M1 => D.nx ρ M1
def sRet (t : SE) : SS := fun D ρ M => t (fun x M1 => D.ex x ρ M1) ρ M D.rt
def sRetN : SS := fun D _ M => D.rt .non M
def sIf (c : SC) (t u : SS) : SS := fun D ρ M => c (fun x M1 => D.ex x ρ M1) ρ M fun b M1 => match b with | true => t D ρ M1 | false => u D ρ M1
def sAsg (t : SE) (tg : Tg) : SS := fun D ρ M => t (fun x M1 => D.ex x ρ M1) ρ M fun d M1 => match asgD tg d ρ with | some ρ1 => D.nx ρ1 M1 | none => False
/-- o[i] = v -/
def setM (o i v : D) (M : Mem) (R : Mem → Prop) : Prop := match o, i with
  | .ref n, .int k => match mlst M n with
    | some xs => match ixN xs.length k with
      | some j => R (M.set n (.lst (xs.set j v)))
      | none => False
    | none => False
  | _, _ => False
def sSet (to ti tv : SE) : SS := fun D ρ M => tv (fun x M1 => D.ex x ρ M1) ρ M fun v M1 => to (fun x M1 => D.ex x ρ M1) ρ M1 fun o M2 => ti (fun x M1 => D.ex x ρ M1) ρ M2 fun i M3 => setM o i v M3 fun M4 => D.nx ρ M4
def forL (ok : Mem → Prop) (tg : Tg) (b : SS) (De : SD) : List D → Env → Mem → Prop
  | [], ρ, M => ok M ∧ De.nx ρ M
  | d :: r, ρ, M => ok M ∧ match asgD tg d ρ with
    | some ρ1 => b (De.lp (forL ok tg b De r)) ρ1 M
    | none => False
def sFor (ti : SI) (tg : Tg) (b : SS) : SS := fun D ρ M => ti (fun x M1 => D.ex x ρ M1) ρ M fun it M1 => forL it.ok tg b D it.items ρ M1
def whileN (c : SC) (b : SS) (D : SD) : Nat → Env → Mem → Prop
  | 0, _, _ => False
  | n + 1, ρ, M => c (fun x M1 => D.ex x ρ M1) ρ M fun k M1 => match k with
    | true => b (D.lp (whileN c b D n)) ρ M1
    | false => D.nx ρ M1
def sWhile (c : SC) (b : SS) : SS := fun D ρ M => ∃ n, whileN c b D n ρ M

section
variable {X : Cx} {G : GC} {st : Stmt} {rest : List Stmt} {t u : SS} {e : Expr} {te : SE} {pos : Pos}
theorem mss_nil : MSs X G [] sNop := by
  refine fun W tk => PSs.imp pss_nil fun De σ H h => ?_
  obtain ⟨ρ, al, M, Ds, r, h, er⟩ := h
  exact er.nx _ _ _ _ _ r.m.go r h
theorem mss_cons (h1 : MS X G st t) (h2 : MSs X G rest u) : MSs X G (st :: rest) (sSeq t u) := by
  refine fun W tk => PSs.imp (pss_cons (h1 W tk) (h2 W tk)) fun De σ H h => ?_
  obtain ⟨ρ, al, M, Ds, r, h, er⟩ := h
  exact ⟨ρ, al, M, _, r, h, ⟨fun σ' ρ' H' al' M' n r' h' => ⟨ρ', al', M', Ds, r', h', er.nxt n⟩, er.rt, er.bk, er.ct, er.ex⟩⟩
theorem mss_one (h1 : MS X G st t) : MSs X G [st] t := fun W tk => pss_one (h1 W tk)
theorem ms_pass : MS X G (.Pass pos) sNop := by
  refine fun W tk => PS.imp ps_pass fun De σ H h => ?_
  obtain ⟨ρ, al, M, Ds, r, h, er⟩ := h
  exact er.nx _ _ _ _ _ r.m.go r h
theorem ms_break : MS X G (.Break pos) sBreak := by
  refine fun W tk => PS.imp ps_break fun De σ H h => ?_
  obtain ⟨ρ, al, M, Ds, r, h, er⟩ := h
  exact er.bk _ _ _ _ _ r.m.go r h
theorem ms_cont : MS X G (.Continue pos) sCont := by
  refine fun W tk => PS.imp ps_continue fun De σ H h => ?_
  obtain ⟨ρ, al, M, Ds, r, h, er⟩ := h
  exact er.ct _ _ _ _ _ r.m.go r h
theorem ms_expr (he : ME X G e te) (hs : swapsWith e none pos.line X.env = pure false) : MS X G (.Expr e pos) (sEx te) := by
  refine fun W tk => PS.imp (ps_expr (he W tk) hs) fun De σ H h => ?_
  obtain ⟨ρ, al, M, Ds, r, h, er⟩ := h
  exact ⟨ρ, al, M, _, _, r, h, fun H1 al1 M1 v d n1 r1 h1 => er.nx _ _ _ _ _ n1 (r.go n1) h1, er.xcl r⟩
theorem ms_ret (he : ME X G e te) : MS X G (.Return (some e) pos) (sRet te) := by
  refine fun W tk => PS.imp (ps_ret (he W tk)) fun De σ H h => ?_
  obtain ⟨ρ, al, M, Ds, r, h, er⟩ := h
  exact ⟨ρ, al, M, _, _, r, h, er.rt, er.xcl r⟩
theorem ms_retN : MS X G (.Return none pos) sRetN := by
  refine fun W tk => PS.imp ps_retN fun De σ H h => ?_
  obtain ⟨ρ, al, M, Ds, r, h, er⟩ := h
  exact er.rt _ _ _ _ _ r.m.go (by rw [RDat]) h
theorem ms_if {c : Expr} {a b : List Stmt} {tc : SC} (hc : MC X G c tc) (ha : MSs X G a t) (hb : MSs X G b u) : MS X G (.If c a b pos) (sIf tc t u) := by
  refine fun W tk => PS.imp (ps_if (hc W tk) (ha W tk) (hb W tk)) fun De σ H h => ?_
  obtain ⟨ρ, al, M, Ds, r, h, er⟩ := h
  refine ⟨ρ, al, M, _, _, r, h, fun H1 al1 M1 k n1 h1 => ?_, er.xcl r⟩
  cases k with
  | true => exact iteT ⟨ρ, al1, M1, Ds, r.go n1, h1, er.nxt n1⟩
  | false => exact iteF ⟨ρ, al1, M1, Ds, r.go n1, h1, er.nxt n1⟩
theorem asg_end {W : WX} {De : Ends} {Ds : SD} {σ : L2.St} {ρ : Env} {H H1 : Hp} {al al1 : List Addr} {M M1 : Mem} {tg : Tg} {v : V} {d : D} (er : EndR G W H al Ds De) (r : RSt G H al M σ ρ) (n1 : Nxt G H al H1 al1 M1) (r1 : RDat G.K H1 al1 d v)
    (h1 : match asgD tg d ρ with | some ρ1 => Ds.nx ρ1 M1 | none => False) : LG G tg v σ H1 De.nx := by
  cases ea : asgD tg d ρ with
  | none => simp only [ea] at h1
  | some ρ1 =>
    simp only [ea] at h1
    exact ⟨ρ, al1, M1, d, ρ1, r.go n1, r1, ea, fun σ2 r2 o2 => er.nx _ _ _ _ _ n1 r2 h1⟩
theorem ms_asg {tg : Expr} {g : Tg} (he : ME X G e te) (hg : MG X G tg g) (hs : swapsWithSole [tg] e pos.line X.env = pure false) (hw : swappedStores [tg] e X.env = pure none) (h1 : (assignEach [tg] X.env).map (·.2) = [assign tg X.env]) : MS X G (.Assign [tg] e pos) (sAsg te g) := by
  refine fun W tk => PS.imp (ps_asg (he W tk) hg hs hw h1) fun De σ H h => ?_
  obtain ⟨ρ, al, M, Ds, r, h, er⟩ := h
  exact ⟨ρ, al, M, _, _, r, h, fun H1 al1 M1 v d n1 r1 h1 => asg_end er r n1 r1 h1, er.xcl r⟩
theorem ms_set {i : Nat} {x : Str} {pos' : Pos} (hN : X.N.Nodup) (hi : X.N[i]? = some x) (hx : Loc X.env.scope x) (he : ME X G e te) (hs : swapsWith e (some (.Name x pos')) pos.line X.env = pure false) (hf : X.fn x = true ∨ X.env.scope.names.lookup x = some .local) (hX : NoX G [i]) :
    MS X G (.Assign [.Name x pos'] e pos) (sAsg te (.nm i)) := by
  refine fun W tk => PS.imp (ps_set hN hi hx (he W tk) hs hf) fun De σ H h => ?_
  obtain ⟨ρ, al, M, Ds, r, h, er⟩ := h
  exact ⟨ρ, al, M, _, _, r, h, fun H1 al1 M1 v d n1 r1 h1 => er.nx _ _ _ _ _ n1 ((r.go n1).setS r1 hX) h1, er.xcl r⟩
theorem le_lc {W : WX} {elt tg iter : Expr} {ti : SI} {t : Tg} {tt : SC} {te : SE} {vs : List Nat} {σ : L2.St} {H : Hp} {Q : VK} (hsl : ∀ i ∈ slotsT t, i ∈ vs) (hx : NoX G vs) (h : LE G W (eLc ti t tt te vs) σ H Q) : tLc (LI G W ti) (LG G t) (LC G W0 tt) (LE G W0 te) vs σ H Q := by
  obtain ⟨ρ, al, M, Ex, R, r, h, c, xc⟩ := h
  refine ⟨ρ, al, M, Ex, _, r, h, fun H1 al1 M1 J it n1 itr h1 => ?_, xc⟩
  intro D hD
  have h1 : lcL it.ok t tt te M1.length (wipeD ρ vs) it.items (M1 ++ [.lst []]) (fun M2 => R (.ref M1.length) M2) := h1
  have n2 := n1.m.new (o := .lst []) (u := .lst []) hD ⟨[], rfl, RDats.nil⟩
  have hD2 : (al1 ++ [D])[M1.length]? = some D := by
    rw [← n1.m.len, List.getElem?_append_right (Nat.le_refl _), Nat.sub_self]; rfl
  let Wi : Nat → Nat → Hp → Prop := fun i m H' => m = it.items.length - i ∧ i ≤ it.items.length ∧ ∃ al' M', Nxt G (upd H1 D (.lst [])) (al1 ++ [D]) H' al' M' ∧
    lcL it.ok t tt te M1.length (wipeD ρ vs) (it.items.drop i) M' (fun M2 => R (.ref M1.length) M2)
  refine ⟨Wi, ⟨it.items.length, by simp, Nat.zero_le _, _, _, n2.m.go, by simpa using h1⟩, ?_⟩
  rintro i m H' ⟨rfl, hi, al', M', n3, hl⟩
  have n13 := n2.trans n3
  by_cases hlt : i < it.items.length
  · have ed : it.items.drop i = it.items[i] :: it.items.drop (i + 1) := List.drop_eq_getElem_cons hlt
    rw [ed] at hl
    obtain ⟨hok, hl⟩ := (hl : _ ∧ _)
    obtain ⟨hgo, _⟩ := itr i H' al' M' n13 hok
    obtain ⟨go, hy⟩ := hgo _ (List.getElem?_eq_getElem hlt)
    refine .inr ⟨go, fun H2 => Wi (i + 1) (it.items.length - (i + 1)) H2, fun H2 w => ⟨_, by omega, w⟩, fun x H2 hyx => ?_⟩
    obtain ⟨n4, rx⟩ := hy x H2 hyx
    cases ea : asgD t it.items[i] (wipeD ρ vs) with
    | none => rw [ea] at hl; exact hl.elim
    | some ρ1 =>
      rw [ea] at hl
      have n14 := n13.trans n4
      have rw0 : RSt G H2 al' M' (L2.wipe σ vs) (wipeD ρ vs) :=
        ⟨n4.m, (r.e.mono (n1.k.trans n14.k) (n1.p.trans n14.p)).wipe _, (r.x.mono (n1.k.trans n14.k) (n1.p.trans n14.p)).wipe hx⟩
      refine ⟨_, al', M', _, ρ1, rw0, rx, ea, fun σ2 r2 o2 => ⟨?_, ρ1, al', M', noX, _, r2, hl, fun H5 al5 M5 b n5 h5 => ?_, xcl0⟩⟩
      · rw [o2.wipe hsl]
        apply List.ext_getElem?
        intro j
        rw [wipe_get, wipe_get, wipe_length]
        by_cases hj : j ∈ vs
        · rw [if_pos hj, if_pos hj]
        · rw [if_neg hj, if_neg hj]
      · have n15 := n3.trans (n4.trans n5)
        cases b with
        | false => exact iteF ⟨rfl, hlt, al5, M5, n15, h5⟩
        | true =>
          refine iteT ?_
          refine ⟨ρ1, al5, M5, noX, _, r2.go n5, h5, fun H6 al6 M6 y d n6 r6 h6 => ?_, xcl0⟩
          have n16 := n15.trans n6
          cases em : mlst M6 M1.length with
          | none => simp only [em] at h6
          | some acc =>
            simp only [em] at h6
            obtain ⟨hz, h6⟩ := (h6 : _ ∧ _)
            have hD6 : al6[M1.length]? = some D := pfx_get n16.p hD2
            obtain ⟨a, ws, ev, ea6, eH, l6⟩ := n16.m.lst (v := .ref D) (by rw [RDat]; exact ⟨D, hD6, rfl⟩) (mlst_lst em)
            cases ev
            refine ⟨ws, eH, by rw [← l6.length]; exact hz, rfl, hlt, al6, _, n16.trans (n16.m.wr (o := .lst (acc ++ [d])) (u := .lst (ws ++ [y])) hD6 eH rfl ⟨_, rfl, l6.append (RDats.cons r6 RDats.nil)⟩), h6⟩
  · have ei : i = it.items.length := by omega
    subst ei
    rw [List.drop_length] at hl
    obtain ⟨hok, hl⟩ := (hl : _ ∧ _)
    obtain ⟨_, hst⟩ := itr _ H' al' M' n13 hok
    refine .inl ⟨hst rfl, c _ _ _ _ _ (n1.trans n13) ?_ hl⟩
    rw [RDat]
    exact ⟨D, pfx_get n3.p hD2, rfl⟩
/-- name = [..] -/
theorem ms_setLc {i : Nat} {y : Str} {py : Pos} {elt tg iter : Expr} {ifs : List Expr} {scope : Scope} {own : List (Str × Nat)} {pos spos : Pos} {ti : SI} {t : Tg} {tt : SC} {te : SE} (hc : X.calm = true) (hN : X.N.Nodup) (hy : X.N[i]? = some y) (hyl : X.env.scope.names.lookup y = some .local)
    (hsw : swapsWith (.ListComp elt [⟨tg, iter, ifs, 0⟩] scope pos) (some (.Name y py)) spos.line X.env = pure true) (hi : MI X G tg iter ti) (ok : BlkOk X.N X.env.scope scope own)
    (hg : ∀ (s : Shared) (H : Hp) (C : Addr) (cl : List (Str × Addr)) (fp : List Addr), MG (X.blk s H scope (compEnvC scope cl C X.env) fp) G tg t) (ht : ∀ (s : Shared) (H : Hp) (C : Addr) (cl : List (Str × Addr)) (fp : List Addr), MTs (X.blk s H scope (compEnvC scope cl C X.env) fp) G ifs tt)
    (he : ∀ (s : Shared) (H : Hp) (C : Addr) (cl : List (Str × Addr)) (fp : List Addr), ME (X.blk s H scope (compEnvC scope cl C X.env) fp) G elt te) (hs : ∀ x, foldedSetIterable iter X.env x = pure x)
    (hsl : ∀ i ∈ slotsT t, i ∈ own.map (·.2)) (hx : NoX G (own.map (·.2))) (hX : NoX G [i]) : MS X G (.Assign [.Name y py] (.ListComp elt [⟨tg, iter, ifs, 0⟩] scope pos) spos) (sAsg (eLc ti t tt te (own.map (·.2))) (.nm i)) := by
  intro W tk
  refine PS.imp (ps_setLc hc hN hy hyl hsw (hi W tk) ok hg (fun s H C cl fp => ht s H C cl fp W0 takes0) (fun s H C cl fp => he s H C cl fp W0 takes0) hs) fun De σ H h => ?_
  obtain ⟨ρ, al, M, Ds, r, h, er⟩ := h
  exact le_lc (W := W) (elt := elt) (tg := tg) (iter := iter) hsl hx ⟨ρ, al, M, _, _, r, h, fun H1 al1 M1 v d n1 r1 h1 => er.nx _ _ _ _ _ n1 ((r.go n1).setS r1 hX) h1, er.xcl r⟩
theorem setM_ok {H : Hp} {al : List Addr} {M : Mem} {o i v : D} {ov iv vv : V} {R : Mem → Prop} {Q : Hp → Prop} (m : RMem G H al M) (ro : RDat G.K H al o ov) (ri : RDat G.K H al i iv) (rv : RDat G.K H al v vv) (h : setM o i v M R)
    (c : ∀ H' al' M', Nxt G H al H' al' M' → R M' → Q H') : rSetL ov iv vv H Q := by
  cases o with
  | ref n =>
    cases i with
    | int k =>
      have h : (match mlst M n with
        | some xs => (match ixN xs.length k with | some j => R (M.set n (.lst (xs.set j v))) | none => False)
        | none => False) := h
      cases e : mlst M n with
      | none => simp [e] at h
      | some xs =>
        simp only [e] at h
        cases e2 : ixN xs.length k with
        | none => simp [e2] at h
        | some j =>
          simp only [e2] at h
          obtain ⟨a, vs, rfl, ea, e3, l⟩ := m.lst ro (mlst_lst e)
          rw [RDat] at ri; subst ri
          exact ⟨a, vs, k, j, rfl, rfl, e3, by rw [← l.length]; exact e2, c _ _ _ (m.wr (o := .lst (xs.set j v)) (u := .lst (vs.set j vv)) ea e3 rfl ⟨_, rfl, l.set rv j⟩) h⟩
    | _ => exact (h : False).elim
  | _ => cases i <;> exact (h : False).elim
theorem ms_sub {o i : Expr} {to ti : SE} {tpos : Pos} (he : ME X G e te) (ho : ME X G o to) (hi : ME X G i ti)
    (ha : ∀ v, assign (.Subscript o i tpos) X.env v = (do
      let ov ← holding [v] (eval o X.env)
      let iv ← holding [v, ov] (eval i X.env)
      standAt tpos
      holding [v, ov, iv] (setItem ov iv v)
      release [v, ov, iv] []))
    (hs : swapsWithSole [.Subscript o i tpos] e pos.line X.env = pure false) (hw : swappedStores [.Subscript o i tpos] e X.env = pure none) (h1 : (assignEach [.Subscript o i tpos] X.env).map (·.2) = [assign (.Subscript o i tpos) X.env]) : MS X G (.Assign [.Subscript o i tpos] e pos) (sSet to ti te) := by
  refine fun W tk => PS.imp (ps_asg (he W tk) (pg_sub (ho W tk) (hi W tk) set_list ha) hs hw h1) fun De σ H h => ?_
  obtain ⟨ρ, al, M, Ds, r, h, er⟩ := h
  refine ⟨ρ, al, M, _, _, r, h, fun H1 al1 M1 v d n1 r1 h1 => ?_, er.xcl r⟩
  refine ⟨ρ, al1, M1, _, _, r.go n1, h1, fun H2 al2 M2 o' d' n2 r2 h2 => ?_, (er.xcl r).nxt n1⟩
  have n12 := n1.trans n2
  refine ⟨ρ, al2, M2, _, _, r.go n12, h2, fun H3 al3 M3 i' d3 n3 r3 h3 => ?_, (er.xcl r).nxt n12⟩
  have n13 := n12.trans n3
  exact setM_ok n3.m (r2.mono n3.k n3.p) r3 (r1.mono (n2.k.trans n3.k) (n2.p.trans n3.p)) h3 fun H4 al4 M4 n4 h4 => er.nx _ _ _ _ _ (n13.trans n4) (r.go (n13.trans n4)) h4
theorem ms_for_of {tg iter : Expr} {body : List Stmt} {ti : SI} {g : Tg} (hps : ∀ W, Takes X W → PS X (.For tg iter body [] pos) (tFor (LI G W ti) (LG G g) (LS G W t))) : MS X G (.For tg iter body [] pos) (sFor ti g t) := by
  refine fun W tk => PS.imp (hps W tk) fun De σ H h => ?_
  obtain ⟨ρ, al, M, Ds, r, h, er⟩ := h
  refine ⟨ρ, al, M, _, _, r, h, fun H1 al1 M1 J it n1 itr h1 => ?_, er.xcl r⟩
  let Wi : Nat → Nat → L2.St → Hp → Prop := fun i m σ' H' => m = it.items.length - i ∧ i ≤ it.items.length ∧ ∃ ρ' al' M', Nxt G H1 al1 H' al' M' ∧ RSt G H' al' M' σ' ρ' ∧ forL it.ok g t Ds (it.items.drop i) ρ' M'
  refine ⟨Wi, ⟨it.items.length, by simp, Nat.zero_le _, ρ, _, _, n1.m.go, r.go n1, by simpa using h1⟩, ?_⟩
  rintro i m σ' H' ⟨rfl, hi', ρ', al', M', n2, r2, hl⟩
  by_cases hlt : i < it.items.length
  · have ed : it.items.drop i = it.items[i] :: it.items.drop (i + 1) := List.drop_eq_getElem_cons hlt
    rw [ed] at hl
    obtain ⟨hok, hl⟩ := (hl : _ ∧ _)
    obtain ⟨hgo, _⟩ := itr i H' al' M' n2 hok
    obtain ⟨go, hy⟩ := hgo _ (List.getElem?_eq_getElem hlt)
    refine .inr ⟨go, fun σ2 H2 => Wi (i + 1) (it.items.length - (i + 1)) σ2 H2, fun σ2 H2 w => ⟨_, by omega, w⟩, fun x H2 hyx => ?_⟩
    obtain ⟨n3, rx⟩ := hy x H2 hyx
    have n13 := n2.trans n3
    cases ea : asgD g it.items[i] ρ' with
    | none => rw [ea] at hl; exact hl.elim
    | some ρ1 =>
      rw [ea] at hl
      refine ⟨ρ', al', M', _, ρ1, r2.go n3, rx, ea, fun σ2 r3 o3 => ⟨ρ1, al', M', _, r3, hl, ?_⟩⟩
      have er2 := er.nxt (n1.trans n13)
      exact ⟨fun σ4 ρ4 H4 al4 M4 n4 r4 h4 => ⟨rfl, hlt, ρ4, al4, M4, n13.trans n4, r4, h4⟩, er2.rt, er2.nx, fun σ4 ρ4 H4 al4 M4 n4 r4 h4 => ⟨rfl, hlt, ρ4, al4, M4, n13.trans n4, r4, h4⟩, er2.ex⟩
  · have ei : i = it.items.length := by omega
    subst ei
    rw [List.drop_length] at hl
    obtain ⟨hok, hl⟩ := (hl : _ ∧ _)
    obtain ⟨_, hst⟩ := itr _ H' al' M' n2 hok
    exact .inl ⟨hst rfl, er.nx _ _ _ _ _ (n1.trans n2) r2 hl⟩
theorem ms_for {tg iter : Expr} {body : List Stmt} {ti : SI} {g : Tg} (hp : PassesOwn (model X.prog X.w) X.A X.env X.xe) (hc : X.calm = true) (hi : MI X G tg iter ti) (hg : MG X G tg g) (hb : MSs X G body t)
    (hs : ∀ x, foldedSetIterable iter X.env x = pure x) : MS X G (.For tg iter body [] pos) (sFor ti g t) := ms_for_of fun W tk => ps_for hp hc (hi W tk) hg (hb W tk) hs
/-- what a suite walks -/
def MIH (X : Cx) (G : GC) (tg iter : Expr) (t : SI) : Prop := ∀ W, Takes X W → L2H.PIH X tg iter (LI G W t)
theorem PIH.imp {X : Cx} {tg e : Expr} {t t' : TI} (h : L2H.PIH X tg e t) (i : ∀ σ H Q, t' σ H Q → t σ H Q) : L2H.PIH X tg e t' := ⟨fun pins s σ H R I w => h.run pins s σ H R I (i σ H R w)⟩
theorem ms_forH {tg iter : Expr} {body : List Stmt} {ti : SI} {g : Tg} (hp : PassesOwn (model X.prog X.w) X.A X.env X.xe) (hc : L2H.HotC X) (hi : MIH X G tg iter ti) (hg : MG X G tg g) (hb : MSs X G body t)
    (hs : ∀ x, foldedSetIterable iter X.env x = pure x) : MS X G (.For tg iter body [] pos) (sFor ti g t) := ms_for_of fun W tk => L2H.ps_forH hp hc (hi W tk) hg (hb W tk) hs
theorem mi_range1H {tg a : Expr} {ta : SA} {p pos : Pos} (hg : Gl X "range") (hm : X.mg "range" = none) (ha : MA X G [a] ta) (hs : starEach [a] X.env = [(false, eval a X.env)]) : MIH X G tg (.Call (.Name "range" p) [a] [] pos) (iRange1 ta) := by
  refine fun W tk => PIH.imp (L2H.pi_range1H hg hm (ha W tk) hs) fun σ H Q h => ?_
  obtain ⟨ρ, al, M, Ex, R, r, t, c, xc⟩ := h
  refine ⟨ρ, al, M, Ex, _, r, t, fun H1 al1 M1 vs ds n1 r1 l1 h1 => ?_, xc⟩
  rcases ds with _ | ⟨d, _ | ⟨e, t⟩⟩
  · exact (h1 : False).elim
  · obtain ⟨v, rfl, r2⟩ := rd1 r1
    cases d with
    | int j =>
      obtain ⟨h2, h3, h1⟩ := (h1 : _ ∧ _ ∧ _)
      rw [RDat] at r2; subst r2
      exact ⟨j, rfl, h3, h2, c _ _ _ _ _ n1 itr_rng h1⟩
    | _ => exact (h1 : False).elim
  · cases d <;> exact (h1 : False).elim
theorem ms_while {c : Expr} {body : List Stmt} {tc : SC} (hp : PassesOwn (model X.prog X.w) X.A X.env X.xe) (hc : MC X G c tc) (hb : MSs X G body t) : MS X G (.While c body [] pos) (sWhile tc t) := by
  refine fun W tk => PS.imp (ps_while hp (hc W tk) (hb W tk)) fun De σ H h => ?_
  obtain ⟨ρ, al, M, Ds, r, ⟨n0, h⟩, er⟩ := h
  refine ⟨fun m σ' H' => ∃ ρ' al' M', Nxt G H al H' al' M' ∧ RSt G H' al' M' σ' ρ' ∧ whileN tc t Ds m ρ' M', ⟨n0, ρ, al, M, r.m.go, r, h⟩, ?_⟩
  rintro m σ' H' ⟨ρ', al', M', n1, r1, hw⟩
  cases m with
  | zero => exact hw.elim
  | succ m =>
    refine ⟨ρ', al', M', _, _, r1, hw, fun H2 al2 M2 k n2 h2 => ?_, (er.nxt n1).xcl r1⟩
    have n12 := n1.trans n2
    cases k with
    | true =>
      refine iteT ⟨fun σ3 H3 => ∃ ρ' al' M', Nxt G H al H3 al' M' ∧ RSt G H3 al' M' σ3 ρ' ∧ whileN tc t Ds m ρ' M', fun σ3 H3 w => ⟨m, Nat.lt_succ_self _, w⟩, ρ', al2, M2, _, r1.go n2, h2, ?_⟩
      have er2 := er.nxt n12
      exact ⟨fun σ4 ρ4 H4 al4 M4 n4 r4 h4 => ⟨ρ4, al4, M4, n12.trans n4, r4, h4⟩, er2.rt, er2.nx, fun σ4 ρ4 H4 al4 M4 n4 r4 h4 => ⟨ρ4, al4, M4, n12.trans n4, r4, h4⟩, er2.ex⟩
    | false => exact iteF (er.nx _ _ _ _ _ n12 (r1.go n2) h2)
/-- f() -/
theorem me_call0 {k : Nat} {f : Addr} {fd : FuncData} {ps : List Str} {x : Str} {p : Pos} {F : Fn} (hF : FnOk X.prog X.w X.K X.mg X.base (CX X.prog X.w) k f fd ps (LSp G F 0)) (hr : Room k X.A) (hg : Gl X x) (hm : X.mg x = some (.ref f)) (hk : PySem.W.keepIn X.K (.ref f) = true) (hb : Binds X.K fd ps []) (hdb : (x == ("__debug__" : Str)) = false) :
    ME X G (.Call (.Name x p) [] [] pos) (eCall F aNil) := by
  intro W tk
  refine ⟨fun pins s σ H Q I h => ?_⟩
  obtain ⟨ρ, al, M, Ex, R, r, h, c, xc⟩ := h
  refine wpAny_Call_Name_kw (ld_glob I hg hm ?_ hdb)
  refine PySem.W.callWith_K0 I.kIn hk (run_fnSD (us := []) (E := fun σ cls dd H => W cls dd σ H) hF hr hb .nil (passAt tk σ) I .nil ?_)
  exact ⟨al, M, [], R, Ex, rfl, r.m, RDats.nil, h, c, fun H' al' M' x cls dd n' rx ex => xc _ _ _ _ _ _ n' rx ex⟩
end

/-! ### a def's body keeps its promise -/
def startD (n : Nat) (ds : List D) : Env := ds.map some ++ List.replicate (n - ds.length) none
def SD.top (R : KD) (Ex : XC) : SD := { nx := fun _ M1 => R .non M1, rt := R, bk := fun _ _ => False, ct := fun _ _ => False, ex := fun x _ M1 => Ex x M1 }
def bodyF (n : Nat) (t : SS) : Fn := fun ds M R Ex => t (SD.top R Ex) (startD n ds) M
theorem start_rel {G : GC} {H : Hp} {al : List Addr} {M : Mem} {N : List Str} {ds : List D} {vs : List V} (m : RMem G H al M) (r : RDats G.K H al ds vs) (hx : G.xn = none) : RSt G H al M (L2.start N vs) (startD N.length ds) := by
  refine ⟨m, ⟨?_, fun i d h => ?_⟩, by unfold XOk; rw [hx]; trivial⟩
  · unfold L2.start startD
    simp [r.length]
  · unfold startD at h
    have hi : i < ds.length := by
      by_cases hi : i < ds.length
      · exact hi
      · rw [List.getElem?_append_right (by simpa using hi), List.getElem?_replicate] at h
        split at h <;> cases h
    rw [List.getElem?_append_left (by simpa using hi), List.getElem?_map] at h
    cases e : ds[i]? with
    | none => rw [e] at h; cases h
    | some d' =>
      rw [e] at h; cases h
      obtain ⟨v, e1, e2⟩ := r.get e
      refine ⟨v, ?_, e2⟩
      unfold L2.start
      rw [List.getElem?_append_left (by rw [List.length_map, ← r.length]; exact hi), List.getElem?_map, e1]
      rfl
theorem fn_body {G : GC} {k : Nat} {x qual : Str} {st : Stmt} {f : Addr} {fd : FuncData} {N ps : List Str} {t : SS} (hx : G.xn = none) (F : Fun G.K x qual st f fd) (S : FnScope N ps (defScope st))
    (hb : ∀ (cdv : Value) (A : Around) (outer : List PySem.Env) (s : Shared) (H : Hp) (E : XK), Room k (A.deeper (PyProof.Rows.envOfC qual (defScope st) s.heap.objs.size f cdv)) → MSs (cxOf (CX G.P G.w) G.P G.w G.K G.mg G.base N qual (defScope st) f cdv A outer s H E) G (defBody st) t) :
    FnOk G.P G.w G.K G.mg G.base (CX G.P G.w) (k + 1) f fd ps (LSp G (bodyF N.length t) ps.length) := by
  obtain ⟨oc, od, kV, doc, pm, an, cdv, ct, osl, rfl, lk, hcd⟩ := F.ex
  refine fn_of lk hcd S (fun vs H Q E h => ?_) (fun A outer s H vs Q E hr h => ?_)
  · obtain ⟨al, M, ds, R, Ex, hl, _⟩ := h
    exact hl
  · obtain ⟨al, M, ds, R, Ex, hl, m, r, hF, c, xc⟩ := h
    refine ⟨_, hb cdv A outer s H E hr (fun cls d _ H => E cls d H) (L2N.takes_of rfl rfl rfl rfl), startD N.length ds, al, M, _, start_rel m r hx, hF, ?_⟩
    exact ⟨fun σ' ρ' H' al' M' n r' h' => c _ _ _ _ _ n (by rw [RDat]) h', c, fun _ _ _ _ _ _ _ h => h.elim, fun _ _ _ _ _ _ _ h => h.elim, fun σ' ρ' H' al' M' x cls dd n r' rx h' => xc _ _ _ _ _ _ n rx h'⟩
end DN

set_option maxHeartbeats 4000000
/-! an own exception whose __init__ stores its fields and says super().__init__(text) last -/
namespace DN
open PySem PySem.Spec L2 NdefX
/-! ### the bound built-in __init__, called -/
section
variable {prog : Program} {w : World} {A : Around} {E : Value → Shared → Prop} {h : Heap} {g : Array GenState} {d : Drawn} {tk : Nat} {os : OsState}
theorem call_mw {e u t C N : Addr} {dv : Option Addr} {nm q : Str} {bs bm bmB : List Value} {sn : List Str} {sub : List Value} {ab : Bool} {col : Option Bool} {dd : Option Addr} {k0 k1 k2 k3 k5 : Option Value} {newId i B : String} {rest : List Value} {Q : Value → Shared → Prop}
    (FB : ExcBaseFacts B newId i bmB) (hC : h.get? C = some (excClassObj nm q C N bs bm true sn sub ab col dd k0 k1 k2 k3 k5 newId)) (he : h.get? e = some (PySem.W.excObj C t dv .none)) (hu : h.get? u = some (PySem.W.kxs_mw i e)) (hz : rest.length ≤ sizeLine)
    (hq : ∀ t' h', (∀ b o, b ≠ e → h.get? b = some o → h'.get? b = some o) → h'.get? e = some (PySem.W.excObj C t' dv .none) → Q .none ⟨h', g, d, tk, os⟩) : wpAny (model prog w) A (call (.ref u) rest) Q E ⟨h, g, d, tk, os⟩ := by
  refine wpAny_call (codeAny_of_tree ?_)
  show wpAny _ A.in1 (callAny (.ref u) ⟨rest, []⟩) _ _ _
  simp only [callAny]
  refine wpAny_bind (wpAny_load hu ?_)
  simp only [PySem.W.kxs_mw, show (Value.type "method-wrapper" == Value.type "method" || Value.type "method-wrapper" == Value.type "builtin_function_or_method" || Value.type "method-wrapper" == Value.type "method-wrapper") = true by decide, if_true]
  refine PySem.W.KFB.if_so (by decide) ?_
  refine wpAny_bind (PySem.W.check_bound_init FB.toExcCallFacts hC he rfl ?_)
  refine wpAny_bind (wpAny_pure (wpAny_pure ?_))
  refine ⟨plainId_quiet FB.init.plain _, codeAny_builtin FB.initEntry ?_⟩
  exact PySem.W.exc_init_tree (cls := .ref C) (t0 := t) (dv := dv) (c2 := .none) (c3 := .none) (b4 := .bool false) he hz fun h' k e' t' => hq _ _ k e'
end
/-! ### the last statement of __init__ -/
/-- what the written part says of an __init__ -/
structure InitC (P : Program) (K : PySem.W.Frag) (mg : Str → Option Value) (F : NF) (f C cc : Addr) (sf : Str) : Prop where
  cls : OexC K C
  clo : F.cl = [(("__class__" : Str), cc)]
  fn : ∃ (oc : Value) (od : Option Addr) (osl : Array (Option Value)) (fd : FuncData) (ar : Arg), K.lookup f = some ⟨oc, od, .func fd, osl⟩ ∧ (fd.params.posonlyargs ++ fd.params.args).head? = some ar ∧ ar.arg = sf
  code : ∃ (ccl : Value) (cdd : Option Addr) (vs : Array Value) (ccs : Array (Option Value)) (file : Str) (tf : Tok), K.lookup F.c = some ⟨ccl, cdd, .fields vs, ccs⟩ ∧ vs[2]? = some (.str file tf) ∧ ((P.main.file : Str) == file) = true
  cell : ∃ (cl : Value) (cld : Option Addr) (csl : Array (Option Value)), K.lookup cc = some ⟨cl, cld, .cell (some (.ref C)), csl⟩
  sub : PySem.W.mroIn K C (.ref C) = some true
  up : PySem.W.ks_superIn K C C "__init__" = some (some (.builtin "ValueError.__init__"))
  ve : PySem.W.subIn K (.ref C) (.type "ValueError") = some true
  any : PySem.W.nsIn K cStatics "thirdparty.any" = some none
  sup : mg "super" = none
  top : (P.main.scope.names.lookup ("super" : Str)).isSome = false
  ks : F.scope.names.lookup ("super" : Str) = some .globalImplicit
  kc : F.scope.names.lookup ("__class__" : Str) = some .free
  ka : F.scope.names.lookup sf = some .local
theorem super_last {CX : CXT} {P : Program} {w : World} {K : PySem.W.Frag} {mg : Str → Option Value} {base : Heap} {N : List Str} {F : NF} {f C cc : Addr} {sf : Str} {A : Around} {outer : List PySem.Env} {s0 : Shared} {H0 : Hp} {E0 : XK} {σ : L2.St} {H : Hp} {s : Shared}
    (c : InitC P K mg F f C cc sf) (I : Inv (ncx CX P w K mg base N F f A outer s0 H0 E0) [] σ H s) {a : Addr} {dv : Option Addr} (h0 : N[0]? = some sf) (h1 : σ[0]? = some (some (.ref a))) (ea : H a = some (exo a C dv)) (ed : ∀ dx, dv = some dx → ∃ fs, H dx = some (exd dx fs))
    {p0 p1 p2 p3 p4 p5 : Pos} {kk : Nat} {txt : Str} {Ex : Value → Shared → Prop} {Q : Flow → Shared → Prop} {pl : Sem Bool}
    (he : eval (.Call (.Attribute (.Call (.Name "super" p0) [] [] p1) "__init__" p2) [.Constant (.str txt) kk p3] [] p4) (envF F f s0.heap.objs.size) = (do
      let ov ← attributeBase (.Call (.Name "super" p0) [] [] p1) "__init__" (envF F f s0.heap.objs.size) (eval (.Call (.Name "super" p0) [] [] p1) (envF F f s0.heap.objs.size))
      standAt p2.atName
      let (fx, first) ← holding [ov] (getMethod ov "__init__" pl)
      callWith p4 fx first (backTo p4 (starEach [.Constant (.str txt) kk p3] (envF F f s0.heap.objs.size))) []))
    (k : ∀ s', Inv (ncx CX P w K mg base N F f A outer s0 H0 E0) [] σ H s' → Q .next s') :
    wpAt (model P w) (ncx CX P w K mg base N F f A outer s0 H0 E0).A (.func F.body (envF F f s0.heap.objs.size)) (exec (.Expr (.Call (.Attribute (.Call (.Name "super" p0) [] [] p1) "__init__" p2) [.Constant (.str txt) kk p3] [] p4) p5) (envF F f s0.heap.objs.size)) Q Ex s := by
  obtain ⟨oc, od, osl, fd, ar, lf, hp, har⟩ := c.fn
  obtain ⟨ccl, cdd, vs, ccs, file, tf, lc, hvs, hfile⟩ := c.code
  obtain ⟨cl, cld, csl, lcc⟩ := c.cell
  have X : K.In s.heap := I.kIn
  obtain ⟨m, hns, hlook⟩ := I.loc
  obtain ⟨mb, hb1, hb2⟩ := I.mod.blt
  have hself : m sf = some (.ref a) := by
    obtain ⟨u, ru, lk⟩ := hlook 0 sf (.ref a) h0 h1 (.inl c.ka)
    obtain rfl : u = .ref a := ru
    rcases lk with ⟨_, e⟩ | ⟨q, _⟩
    · exact e
    · have e1 : F.scope.names.lookup sf = some .local := c.ka
      rcases q with q | q
      · have q : F.scope.names.lookup sf = some .cell := q
        rw [e1] at q; cases q
      · have q : F.scope.names.lookup sf = some .free := q
        rw [e1] at q; cases q
  obtain ⟨nm, q, N', bs, bm, sn, sub, ab, col, dd, k0, k1, k2, k3, k5, hC, hbm⟩ := c.cls.cls
  have hcl : PySem.W.clsIn K C = some { name := nm, bases := bs, mro := .ref C :: bm, ns := N', qualname := q, hasDict := true, slotNames := sn, subclasses := sub, abstract := ab, collection := col, hasDel := false } := by unfold PySem.W.clsIn; rw [hC] <;> rfl
  obtain ⟨t1, ho⟩ := exo_at I.hok ea
  have inst : ∃ odx, PySem.W.InstAt s.heap a (PySem.W.excObj C t1 dv .none) C odx := by
    cases dv with
    | none => exact ⟨none, ho, rfl, rfl, trivial⟩
    | some dx =>
      obtain ⟨fs, e⟩ := ed dx rfl
      obtain ⟨mA, hn, _⟩ := exd_at I.hok e
      obtain ⟨oD, _, _, hoD, _⟩ := hn
      exact ⟨some oD, ho, rfl, rfl, hoD⟩
  obtain ⟨odx, inst⟩ := inst
  have hni : a ≠ C := PySem.W.ks_ne X inst hcl
  have opq := PySem.W.looks_opaque (M := model P w) X c.any (C := C)
  obtain ⟨hp0, g, d, t, os⟩ := s
  refine PySem.ks_wpAt_Expr_any (PySem.ks_wpAt_MethodCall (pl := pl) ?_ he) I.quiet rfl
  refine PySem.ks_wpAt_super_base (env := envF F f s0.heap.objs.size) c.ks c.kc (by decide) rfl (X _ _ lf) rfl hp rfl (X _ _ lc) rfl hvs hfile c.top ?_
  refine PySem.W.ks_loadName_global (env := envF F f s0.heap.objs.size) I.ok.kind c.ks (Calls.loadGlobal_builtin (env := envF F f s0.heap.objs.size) (I.mod.glob.keeps I.bk) c.sup (hb1.keeps I.bk) ((hb2 _ (by decide +kernel)).trans (by decide +kernel : bootBuiltins "super" = some (.type "super"))) ⟨rfl, ?_⟩)
  refine wpAny_loadName_free I.ok.kind c.kc (by show F.cl.lookup _ = _; rw [c.clo]; rfl) ⟨_, X _ _ lcc, rfl⟩ ?_
  rw [har]
  refine wpAny_loadName_local I.ok.kind c.ka hns hself ?_
  have hCd : hp0.get? C = some (excClassObj nm q C N' bs bm true sn sub ab col dd k0 k1 k2 k3 k5 "ValueError.__new__") := X _ _ hC
  refine ks_wpAny_isType_cls hCd rfl ⟨rfl, ?_⟩
  refine ks_wpAny_call_super hCd rfl ho rfl (fun c e => by cases e) (PySem.W.looks_mroIn X c.sub) (fun h1 e1 k1 => ?_)
  have X1 : K.In h1 := fun b o e => k1 _ _ (X b o e)
  have isV0 : PySem.W.Looks (model P w) hp0 (isInstance (.ref a) (.type "ValueError")) true := inst.type.andThen (PySem.W.looks_subIn X c.ve)
  have isV := isV0.keeps k1
  have up := c.up
  unfold PySem.W.ks_superIn at up
  rw [hcl, Option.bind_some] at up
  refine PySem.W.kxs_getMethod PySem.W.kxs_ValueError e1 (opq.keeps k1) (l₀ := Value.ref C :: bm) (fun A Q E s k q => wpAny_bind ((PySem.W.looks_clsIn X1 hcl) A _ E s k (wpAny_pure q))) rfl X1 up isV hni (by decide) ?_
  -- the wrapper, called
  have so := h1.objs.size
  have I1 : Inv (ncx CX P w K mg base N F f A outer s0 H0 E0) [] σ H ⟨h1.push (PySem.W.kxs_mw "ValueError.__init__" a), g, d, t + 1, os⟩ := I.kept (t' := t + 1) (fun b u e => Heap.get?_push_of_some _ (k1 b u e))
  have hu1 : (h1.push (PySem.W.kxs_mw "ValueError.__init__" a)).get? h1.objs.size = some (PySem.W.kxs_mw "ValueError.__init__" a) := Heap.get?_push_at rfl rfl
  have hge : hp0.objs.size ≤ h1.objs.size := Nat.le_of_lt (Heap.lt_size e1)
  have Ip : Inv (ncx CX P w K mg base N F f A outer s0 H0 E0) [(h1.objs.size, PySem.W.kxs_mw "ValueError.__init__" a)] σ H ⟨h1.push (PySem.W.kxs_mw "ValueError.__init__" a), g, d, t + 1, os⟩ := I1.pins_of fun p hp => by
    obtain rfl : p = (h1.objs.size, PySem.W.kxs_mw "ValueError.__init__" a) := by simpa using hp
    refine ⟨hu1, I.hok.fresh hge, Nat.ne_of_gt (Nat.lt_of_lt_of_le I.lt hge), I.nofs hge, fun v e => by cases e⟩
  have pa : PA (ncx CX P w K mg base N F f A outer s0 H0 E0) [.Constant (.str txt) kk p3] _ := pa_cons pe_str pa_nil
  refine PySem.W.kxs_callWith (i := "ValueError.__init__") (x := a) rfl (PySem.Calls.evalArgs_plain ?_)
  refine thn (pa.run p4 _ _ σ H (fun vs H' => vs = [.str txt] ∧ H' = H) Ip ⟨rfl, rfl⟩) fun us s2 ⟨vs2, H2, I2, r2, hv, hH⟩ => ?_
  subst hH
  have hu2 := (I2.pin (h1.objs.size, PySem.W.kxs_mw "ValueError.__init__" a) (by simp)).1
  obtain ⟨t2, ho2⟩ := exo_at I2.hok ea
  have hC2 := I2.kIn _ _ hC
  obtain ⟨hp2, g2, d2, tk2, os2⟩ := s2
  refine ⟨hu2, ?_⟩
  refine call_mw (B := "ValueError") PySem.F.excBase_ValueError hC2 ho2 hu2 (by show us.length ≤ sizeLine; rw [← r2.length, hv]; exact Nat.le_of_ble_eq_true rfl) fun t' h' kp he' => ?_
  have J := (I2.pins_of (pins' := []) fun p hp => I2.pin p (by simpa using Or.inl hp)).write (t' := tk2) (x := a) (e := a) (o := exo a C dv) (by rw [ea]; exact True.intro) (.inl rfl) kp ⟨_, he'⟩ (exo_ok he')
  have eu : upd H2 a (exo a C dv) = H2 := by
    funext b
    by_cases hb : b = a
    · rw [hb, upd_same, ea]
    · rw [upd_ne hb]
  rw [eu] at J
  exact k _ J
/-! ### the whole __init__ -/
/-- self.f = f, one after the other -/
inductive Stores (sf : Str) : List Stmt → List Str → Prop
  | nil : Stores sf [] []
  | cons {q1 q2 q3 q4 : Pos} {f : Str} {sts : List Stmt} {fl : List Str} : Stores sf sts fl → Stores sf (.Assign [.Attribute (.Name sf q1) f q2] (.Name f q3) q4 :: sts) (f :: fl)
/-- the exception while it is made: its fields so far -/
def ExoAt (H : Hp) (a C : Addr) (dv : Option Addr) (fs : List (Str × V)) : Prop :=
  H a = some (exo a C dv) ∧ ((dv = none ∧ fs = []) ∨ ∃ dx, dv = some dx ∧ dx ≠ a ∧ H dx = some (exd dx fs))
theorem ExoAt.dict {H : Hp} {a C : Addr} {dv : Option Addr} {fs : List (Str × V)} (e : ExoAt H a C dv fs) : ∀ dx, dv = some dx → ∃ fs, H dx = some (exd dx fs) := fun dx h => by
  rcases e.2 with ⟨e1, _⟩ | ⟨d, e1, _, e2⟩
  · rw [h] at e1; cases e1
  · rw [h] at e1; cases e1; exact ⟨fs, e2⟩
theorem init_walk {CX : CXT} {P : Program} {w : World} {K : PySem.W.Frag} {mg : Str → Option Value} {base : Heap} {N : List Str} {F : NF} {f C cc : Addr} {sf : Str} {A : Around} {outer : List PySem.Env} {s0 : Shared} {H0 : Hp} {E0 : XK} {σ : L2.St}
    (c : InitC P K mg F f C cc sf) {a : Addr} (hdb : (sf == ("__debug__" : Str)) = false) (hcd : (sf == ("__classdict__" : Str)) = false) (h0 : N[0]? = some sf) (h1 : σ[0]? = some (some (.ref a))) {last : Stmt} {Q : Flow → Shared → Prop} {Hx : Hp} {fz : List (Str × V)}
    (hfz : fz.length ≤ 900)
    (hl : ∀ (H : Hp) (s : Shared) (dv : Option Addr), Inv (ncx CX P w K mg base N F f A outer s0 H0 E0) [] σ H s → ExoAt H a C dv fz → (∀ b, b ≠ a → (∀ dx, dv = some dx → b ≠ dx) → H b = Hx b) → (∀ dx, dv = some dx → Hx dx = none) →
      wpAt (model P w) (ncx CX P w K mg base N F f A outer s0 H0 E0).A (.func F.body (envF F f s0.heap.objs.size)) (execs [last] (envF F f s0.heap.objs.size)) Q (ncx CX P w K mg base N F f A outer s0 H0 E0).xe s) :
    ∀ {sts : List Stmt} {fl : List Str}, Stores sf sts fl → ∀ (ys : List V) (H : Hp) (s : Shared) (dv : Option Addr) (fs : List (Str × V)), Inv (ncx CX P w K mg base N F f A outer s0 H0 E0) [] σ H s → ExoAt H a C dv fs →
      (∀ b, b ≠ a → (∀ dx, dv = some dx → b ≠ dx) → H b = Hx b) → (∀ dx, dv = some dx → Hx dx = none) → (∀ x ∈ fl, PySem.W.findIn K (.ref C) x = some none ∧ F.scope.names.lookup x = some .local ∧ (x == ("__debug__" : Str)) = false ∧ (x == ("__classdict__" : Str)) = false) →
      ys.length = fl.length → (∀ (i : Nat) (x : Str) (y : V), fl[i]? = some x → ys[i]? = some y → ∃ j : Nat, N[j]? = some x ∧ σ[j]? = some (some y)) → fz = (fl.zip ys).reverse ++ fs →
      wpAt (model P w) (ncx CX P w K mg base N F f A outer s0 H0 E0).A (.func F.body (envF F f s0.heap.objs.size)) (execs (sts ++ [last]) (envF F f s0.heap.objs.size)) Q (ncx CX P w K mg base N F f A outer s0 H0 E0).xe s := by
  intro sts fl st
  induction st with
  | nil =>
    intro ys H s dv fs I e hb hd _ hy _ hz
    have : ys = [] := List.eq_nil_of_length_eq_zero hy
    subst this
    have hz : fz = fs := hz
    subst hz
    exact hl H s dv I e hb hd
  | @cons q1 q2 q3 q4 x sts fl st ih =>
    intro ys H s dv fs I e hb hd hx hy hj hz
    cases ys with
    | nil => cases hy
    | cons y ys =>
      obtain ⟨hx1, hx2, hx3, hx4⟩ := hx x (by simp)
      obtain ⟨j, hj1, hj2⟩ := hj 0 x y rfl rfl
      have lenz : fs.length ≤ 900 := by
        have := congrArg List.length hz
        rw [List.length_append] at this
        omega
      have ps : PS (ncx CX P w K mg base N F f A outer s0 H0 E0) (.Assign [.Attribute (.Name sf q1) x q2] (.Name x q3) q4) (tOst K x (tVar 0) (tVar j)) :=
        ps_ost (pe_var h0 (.inl c.ka) hdb hcd) (pe_var hj1 (.inl hx2) hx3 hx4) rfl
      have step : ∀ (dx : Addr) (H' : Hp), H' = upd (upd H dx (exd dx ((x, y) :: fs))) a (exo a C (some dx)) → dx ≠ a → (dv = none → H dx = none) → (∀ d, dv = some d → d = dx) → ∀ s', Inv (ncx CX P w K mg base N F f A outer s0 H0 E0) [] σ H' s' →
          wpAt (model P w) (ncx CX P w K mg base N F f A outer s0 H0 E0).A (.func F.body (envF F f s0.heap.objs.size)) (execs (sts ++ [last]) (envF F f s0.heap.objs.size)) Q (ncx CX P w K mg base N F f A outer s0 H0 E0).xe s' := by
        intro dx H' eH dne hn hs s' I'
        subst eH
        refine ih ys _ s' (some dx) ((x, y) :: fs) I' ⟨upd_same, .inr ⟨dx, rfl, dne, by rw [upd_ne dne, upd_same]⟩⟩ (fun b h1 h2 => ?_) (fun d h => ?_) (fun z hz => hx z (by simp [hz])) (by simpa using hy) (fun i z v e1 e2 => hj (i + 1) z v (by simpa using e1) (by simpa using e2)) (by rw [hz]; simp)
        · rw [upd_ne h1, upd_ne (h2 dx rfl)]
          exact hb b h1 fun d hd' => by rw [hs d hd']; exact h2 dx rfl
        · cases h
          cases dv with
          | none => rw [← hb dx dne fun d hd' => by cases hd']; exact hn rfl
          | some d => have := hs d rfl; subst this; exact hd d rfl
      show wpAt _ _ _ (execs (.Assign [.Attribute (.Name sf q1) x q2] (.Name x q3) q4 :: (sts ++ [last])) _) _ _ _
      refine PySem.ks_wpAt_execs_cons (wpAt_of_wpAny ?_)
      refine wpAny_mono (ps.run [] s σ H { nx := fun σ' H' => σ' = σ ∧ ∃ dx, H' = upd (upd H dx (exd dx ((x, y) :: fs))) a (exo a C (some dx)) ∧ dx ≠ a ∧ (dv = none → H dx = none) ∧ ∀ d, dv = some d → d = dx, rt := fun _ _ => False } I ?_) (fun fl' s' hs => ?_) fun _ _ h => h
      · refine ⟨y, hj2, .ref a, h1, a, C, rfl, c.cls, hx1, ?_⟩
        rcases e.2 with ⟨e1, e2⟩ | ⟨dx, e1, dne, e2⟩
        · subst e1 e2
          exact .inl ⟨e.1, fun dx hn hne => ⟨rfl, dx, rfl, hne, fun _ => hn, fun d h => (by cases h)⟩⟩
        · subst e1
          refine .inr ⟨dx, fs, e.1, e2, lenz, rfl, dx, ?_, dne, fun h => (by cases h), fun d h => (by cases h; rfl)⟩
          funext b
          by_cases h1 : b = a
          · subst h1; rw [upd_same, upd_ne (Ne.symm dne)]; exact e.1
          · rw [upd_ne h1]
      · cases fl' with
        | next =>
          obtain ⟨σ', H', J, rfl, dx, eH, dne, hn, hs⟩ := hs
          exact step dx H' eH dne hn hs s' J
        | ret u => obtain ⟨_, _, _, _, _, q⟩ := hs; exact q.elim
        | brk => obtain ⟨_, _, _, q⟩ := hs; exact q.elim
        | cont => obtain ⟨_, _, _, q⟩ := hs; exact q.elim
def spInit (C : Addr) (fl : List Str) : Sp := fun vs H Q _ => ∃ a ys, vs = .ref a :: ys ∧ ys.length = fl.length ∧ H a = some (exo a C none) ∧
  ∀ H' d, d ≠ a → H d = none → H' a = some (exo a C (some d)) → H' d = some (exd d (fl.zip ys).reverse) → (∀ b, b ≠ a → b ≠ d → H' b = H b) → Q .non H'
abbrev superE (p0 p1 p2 p3 p4 : Pos) (kk : Nat) (txt : Str) : Expr := .Call (.Attribute (.Call (.Name "super" p0) [] [] p1) "__init__" p2) [.Constant (.str txt) kk p3] [] p4
/-- C.__init__ keeps its promise -/
theorem fn_init {CX : CXT} {P : Program} {w : World} {K : PySem.W.Frag} {mg : Str → Option Value} {base : Heap} {N : List Str} {F : NF} {f C cc : Addr} {sf : Str} {k : Nat} {oc : Value} {od : Option Addr} {doc pm ctv : Value} {osl : Array (Option Value)} {sts : List Stmt} {fl : List Str}
    {p0 p1 p2 p3 p4 p5 : Pos} {kk : Nat} {txt : Str} {pl : Sem Bool}
    (c : InitC P K mg F f C cc sf) (lk : K.lookup f = some ⟨oc, od, .func (F.fd doc pm ctv), osl⟩) (hcd : PySem.W.codeIn K (.ref F.c) F.qual = true) (S : NScope N (sf :: fl) [("__class__" : Str)] F.scope) (st : Stores sf sts fl) (hne : fl ≠ [])
    (hbody : F.body = sts ++ [.Expr (superE p0 p1 p2 p3 p4 kk txt) p5]) (hfl : ∀ x ∈ fl, PySem.W.findIn K (.ref C) x = some none ∧ (x == ("__debug__" : Str)) = false ∧ (x == ("__classdict__" : Str)) = false) (hlen : fl.length ≤ 900)
    (hdb : (sf == ("__debug__" : Str)) = false) (hcl : (sf == ("__classdict__" : Str)) = false)
    (he : ∀ L : Addr, eval (superE p0 p1 p2 p3 p4 kk txt) (envF F f L) = (do
      let ov ← attributeBase (.Call (.Name "super" p0) [] [] p1) "__init__" (envF F f L) (eval (.Call (.Name "super" p0) [] [] p1) (envF F f L))
      standAt p2.atName
      let (fx, first) ← holding [ov] (getMethod ov "__init__" pl)
      callWith p4 fx first (backTo p4 (starEach [.Constant (.str txt) kk p3] (envF F f L))) [])) :
    FnOk P w K mg base CX (k + 1) f (F.fd doc pm ctv) (sf :: fl) (spInit C fl) := by
  refine ⟨fun vs H Q E ⟨a, ys, e, l, _⟩ => by rw [e, List.length_cons, List.length_cons, l], fun A outer s H args us vs Q E hr e0 hb r hsp => ?_⟩
  obtain ⟨a, ys, rfl, hl, ea, hQ⟩ := hsp
  have KX : K.In s.heap := e0.mod.kin.keeps fun b o e => (e0.bs b o e).1
  have lim : s.heap.NoLimit := e0.mod.nolimit.keeps fun b o e => (e0.bs b o e).1
  obtain ⟨cl, cld, csl, lcc⟩ := c.cell
  have hccK : H cc = none := by
    have := e0.mod.kin _ _ lcc
    exact (e0.bs _ _ this).2
  have CA : CellsAt F.cl [("__class__" : Str)] [some (.ref C)] s.heap H := by
    refine ⟨rfl, fun y c' hy => ?_, fun x y c' hx hy => ?_, fun i y hi => ?_⟩
    · rw [c.clo] at hy
      simp only [List.lookup_cons, List.lookup_nil] at hy
      split at hy
      · cases hy; exact ⟨hccK, _, _, KX _ _ lcc, rfl⟩
      · cases hy
    · rw [c.clo] at hx hy
      simp only [List.lookup_cons, List.lookup_nil] at hx hy
      split at hx
      · rename_i e1
        split at hy
        · rename_i e2
          rw [beq_iff_eq.mp e1, beq_iff_eq.mp e2]
        · cases hy
      · cases hx
    · cases i with
      | zero =>
        have hi : ("__class__" : Str) = y := by simpa using hi
        subst hi
        refine ⟨cc, by rw [c.clo]; simp, fun v hv => ?_⟩
        have hv : V.ref C = v := by simpa using hv
        subst hv
        exact ⟨.ref C, rfl, _, KX _ _ lcc, rfl⟩
      | succ i => simp at hi
  refine ks_codeAny_call_defAt hr.depth (KX _ _ lk) rfl lim (PySem.W.codeRec_of KX hcd) rfl hb S.nocell (fun ⟨n, _⟩ hy => S.par n (List.of_mem_zip hy).1) (fun h₁ hns kp => ?_) S.co S.gen S.kind
  have I : Inv (ncx CX P w K mg base N F f A outer s H E) [] (startF N (.ref a :: ys) [some (.ref C)]) H { s with heap := h₁, toks := s.toks + ((sf :: fl).zip us).length } := inv_startN S hr.hd e0 (by rw [List.length_cons, List.length_cons, hl]) r CA hns kp
  show wpAt (model P w) (A.deeper (envF F f s.heap.objs.size)) (.func F.body (envF F f s.heap.objs.size)) (execs F.body (envF F f s.heap.objs.size)) _ _ _
  have hpre := S.pre
  have hn0 : N[0]? = some sf := by
    have : (N.take ((sf :: fl).length + [("__class__" : Str)].length))[0]? = some sf := by rw [hpre]; rfl
    rwa [List.getElem?_take_of_lt (by simp)] at this
  have key := init_walk (CX := CX) (P := P) (w := w) (K := K) (mg := mg) (base := base) (N := N) (F := F) (f := f) (C := C) (cc := cc) (sf := sf) (A := A) (outer := outer) (s0 := s) (H0 := H) (E0 := E) (σ := startF N (.ref a :: ys) [some (.ref C)])
    c (a := a) hdb hcl hn0 rfl (last := .Expr (superE p0 p1 p2 p3 p4 kk txt) p5) (Q := fun fl' s' => CR CX outer P w H s Q E (.ok (.ret (match fl' with | .ret v => v | _ => .none))) s') (Hx := H) (fz := (fl.zip ys).reverse)
    (by rw [List.length_reverse, List.length_zip]; omega) (fun H' s' dv I' e' hb' hd' => ?_) st ys H _ none [] I ⟨ea, .inl ⟨rfl, rfl⟩⟩ (fun _ _ _ => rfl) (fun _ h => by cases h) (fun x hx => ⟨(hfl x hx).1, S.par x (by simp [hx]), (hfl x hx).2⟩) hl (fun i x y e1 e2 => ?_) (by simp)
  · rw [← hbody] at key
    exact key
  · refine PySem.ks_wpAt_execs_cons ?_
    refine super_last c I' hn0 rfl e'.1 e'.dict (he _) fun s'' J => ?_
    refine wpAt_of_wpAny ?_
    rw [execs_nil]
    refine wpAny_pure ?_
    rcases e'.2 with ⟨_, e2⟩ | ⟨dx, e1, dne, e2⟩
    · exfalso
      cases fl with
      | nil => exact hne rfl
      | cons x r =>
        cases ys with
        | nil => cases hl
        | cons y t => simp at e2
    · subst e1
      have hq : Q .non H' := hQ H' dx dne (hd' dx rfl) e'.1 e2 fun b h1 h2 => hb' b h1 fun d h => by cases h; exact h2
      exact ⟨.non, H', J.os, J.bare, J.base, J.hok, rfl, hq⟩
  · have hi : i < fl.length := (List.getElem?_eq_some_iff.mp e1).1
    refine ⟨i + 1, ?_, ?_⟩
    · have : (N.take ((sf :: fl).length + [("__class__" : Str)].length))[i + 1]? = some x := by
        rw [hpre, List.cons_append, List.getElem?_cons_succ, List.getElem?_append_left hi]; exact e1
      rwa [List.getElem?_take_of_lt (by simp; omega)] at this
    · show (startF N (.ref a :: ys) [some (.ref C)])[i + 1]? = _
      unfold startF
      rw [List.getElem?_append_left (by simp; omega)]
      simp [e2]
end DN

set_option maxHeartbeats 4000000
/-! an own exception made where it is calm: its context is None -/
namespace DN
open PySem PySem.Spec PyProof.Rows L2
theorem pmk_exN {X : Cx} {CX : CXT} {x : Str} {e : Expr} {es : List Expr} {ta : TA} {p pos : Pos} {C fI : Addr} {k : Nat} {fd : FuncData} {ps : List Str} {sp : Sp} (T : OexC X.K C) (iC : PySem.W.findIn X.K (.ref C) "__init__" = some (some (.ref fI)))
    (tI : PySem.W.typeIn X.K (.ref fI) = some (.type "function")) (F1 : FnOk X.prog X.w X.K X.mg X.base CX k fI fd ps sp) (hr : Room (k + 1) X.A) (hb : Binds X.K fd ps []) (hx : Passes CX X (fun _ _ _ => False)) (hg : Gl X x) (hm : X.mg x = some (.ref C)) (ha : PA X (e :: es) ta)
    (hdb : (x == ("__debug__" : Str)) = false) (he : starEach (e :: es) X.env = (false, eval e X.env) :: starEach es X.env) (hpl : (backTo pos (starEach es X.env)).any (·.1) = false) :
    L2N.PMk X (.Call (.Name x p) (e :: es) [] pos) (tMkO C sp [] ta) := by
  intro pins s σ H Q I h
  obtain ⟨nm, q, N, bs, bm, sn, sub, ab, col, dd, k0, k1, k2, k3, k5, cls, hbm⟩ := T.cls
  refine wpAny_Call_Name_kw (ld_glob I hg hm ?_ hdb)
  refine PySem.W.callWith_K (h₀ := X.base) I.ok.mod.kin T.kC (thn (ha.run pos pins s σ H _ I h) fun us s1 got => ?_) he hpl
  obtain ⟨vs, H1, I1, rv, hz, want⟩ := got
  refine ⟨I1.kIn, ?_⟩
  show wpAny _ _ (call (.ref C) us) _ _ _
  obtain ⟨hp, g, dr, tk, os⟩ := s1
  -- the new object lies at n
  have hn := I1.hok.fresh (Nat.le_succ hp.objs.size)
  have hq := want (hp.objs.size + 1) hn
  have old : ∀ b o, hp.get? b = some o → ((hp.push (PySem.W.kdv_tup us)).push (PySem.HandSPX.excO C hp.objs.size)).get? b = some o := fun b o e => Heap.get?_push_of_some _ (Heap.get?_push_of_some _ e)
  have new : ((hp.push (PySem.W.kdv_tup us)).push (PySem.HandSPX.excO C hp.objs.size)).get? (hp.objs.size + 1) = some (PySem.HandSPX.excO C hp.objs.size) := by heap_get
  have I2 := I1.laid (t' := tk) (a := hp.objs.size + 1) (o := exo (hp.objs.size + 1) C none) (h' := (hp.push (PySem.W.kdv_tup us)).push (PySem.HandSPX.excO C hp.objs.size)) old (Nat.le_succ _) (exo_ok new)
  rw [List.append_nil] at hq
  have rel : Vals (V.ref (hp.objs.size + 1) :: vs) (Value.ref (hp.objs.size + 1) :: us) := .cons rfl rv
  have len : (Value.ref (hp.objs.size + 1) :: us).length = ps.length := by rw [← F1.len _ _ _ _ hq]; exact rel.length.symm
  have small : us.length ≤ sizeLine := by rw [← Paired.length rv, sizeLine_eq]; omega
  have bd := hb _ (Value.ref (hp.objs.size + 1) :: us) I2.kIn (by rw [List.append_nil]; exact len)
  rw [List.append_nil] at bd
  have run := F1.run (X.A.under (.builtin "type.__call__" ⟨.ref C :: us, []⟩)) X.stack _ _ ⟨Value.ref (hp.objs.size + 1) :: us, []⟩ (Value.ref (hp.objs.size + 1) :: us) _ _ (fun _ _ _ => False) (hr.make C us []) (I2.env0.make C us []) bd rel hq
  refine wpAny_call (PySem.HandSPX.call_own F.excBase_ValueError (fun Y => PySem.HandSPX.refsVE_contains Y bm hbm) (I1.kIn _ _ cls) (PySem.W.looks_findIn I1.kIn iC) (fun self => PySem.W.bind_fn I1.kIn self tI) small (codeAny_mono run fun r s' out => ?_))
  cases r with
  | error er => exact hx pins σ _ _ er s' I2 out
  | ok fl =>
    cases fl with
    | ret u =>
      obtain ⟨v, H2, os2, bare2, un2, hok2, rv2, ev, d, fs, ea, ed, hd1, q2⟩ := out
      subst ev
      obtain ⟨h2, g2, d2, t2, os'⟩ := s'
      obtain ⟨t0, G, J, keep, gone, at_, free⟩ := mk_end0 (d2 := d2) (t2 := t2) I1 (Nat.le_succ _) old un2 hok2 os2 bare2 ea ed hd1
      exact ⟨rv2, _, _, _, ⟨G, g2, d2, t2, os'⟩, _, .ref C, some d, rfl, J, keep, gone, at_, ⟨rfl, rfl, fun ws e => by cases e; rfl⟩, rfl, rfl, free, rfl, bare2, raises_own T.exC T.tyC, q2⟩
    | _ => exact False.elim out
end DN

set_option maxHeartbeats 4000000
/-! try with any clauses, each with or without a name -/
namespace DN
open PySem PySem.Spec PyProof.Rows L2
abbrev Sut := Addr → Value → Option Addr → TS
/-- the ends of a suite whose exception is named at i (or not at all) -/
def endG (D : Ends) : Option Nat → Ends
  | none => D
  | some i => { nx := fun σ' H' => D.nx (σ'.set i none) H', rt := D.rt, bk := fun σ' H' => D.bk (σ'.set i none) H', ct := fun σ' H' => D.ct (σ'.set i none) H' }
def setG (σ : L2.St) (a : Addr) : Option Nat → L2.St
  | none => σ
  | some i => σ.set i (some (.ref a))
def wG (K : PySem.W.Frag) (Wout : WX) (D : Ends) : List (Value × Option Nat × Sut) → WX
  | [] => Wout
  | (c, oi, ts) :: r => fun cls d σ H => ∃ b, PySem.W.exmOne K cls c = some b ∧ (b = true → ∀ a, H a = none → ts a cls d (endG D oi) (setG σ a oi) H) ∧ (b = false → wG K Wout D r cls d σ H)
inductive HdG (X : Cx) : List ExceptHandler → List (Value × Option Nat × Sut) → Prop
  | nil : HdG X [] []
  | plain {x : Str} {c : Value} {ts : Sut} {b₀ : Stmt} {suite : List Stmt} {np pos' : Pos} {hds : List ExceptHandler} {l : List (Value × Option Nat × Sut)} (hc : Names X x c)
      (hsu : ∀ (a : Addr) (oe : Obj) (cls : Value) (d : Option Addr) (pn : List (Addr × Obj)), L2N.Zn cls d oe → (∃ vs, oe.data = .fields vs) → PSs (X.suite a ((a, oe) :: pn)) (b₀ :: suite) (ts a cls d)) (r : HdG X hds l) :
      HdG X (.ExceptHandler (some (.Name x np)) none (b₀ :: suite) pos' :: hds) ((c, none, ts) :: l)
  | as {x n : Str} {i : Nat} {c : Value} {ts : Sut} {b₀ : Stmt} {suite : List Stmt} {np pos' : Pos} {hds : List ExceptHandler} {l : List (Value × Option Nat × Sut)} (hc : Names X x c) (hN : X.N.Nodup) (hi : X.N[i]? = some n) (hln : X.env.kindOf n = some .local)
      (hsu : ∀ (a : Addr) (oe : Obj) (cls : Value) (d : Option Addr) (pn : List (Addr × Obj)), L2N.Zn cls d oe → (∃ vs, oe.data = .fields vs) → PSs (X.suite a ((a, oe) :: pn)) (b₀ :: suite) (ts a cls d)) (r : HdG X hds l) :
      HdG X (.ExceptHandler (some (.Name x np)) (some n) (b₀ :: suite) pos' :: hds) ((c, some i, ts) :: l)
section
open L2N
variable {X : Cx} {body : List Stmt} {h₀ : ExceptHandler} {hds : List ExceptHandler} {l : List (Value × Option Nat × Sut)} {pos : Pos} {tb : WX → TS} {Wout : WX}
theorem ps_try_g (hs : X.stack = X.env :: X.outer) (hf : X.env.frame = some X.env.locals) (tk : L2N.Takes X Wout)
    (hb : ∀ (W : WX) (pn : List (Addr × Obj)) (xe : Value → Shared → Prop), L2N.Takes (X.tr pn xe) W → PassesOwn (model X.prog X.w) X.A X.env xe → PSs (X.tr pn xe) body (tb W))
    (hh : HdG X (h₀ :: hds) l) : PS X (.Try body (h₀ :: hds) [] [] pos) (fun D σ H => tb (wG X.K Wout D l) D σ H) := by
  refine ⟨fun pins s σ H D I h => ?_⟩
  have ok := I.ok
  have hfr : X.A.frames = some (X.env :: X.outer) := by rw [ok.frames, hs]
  refine wpAny_Try_except ?_
  refine wpAny_mono ((hb (wG X.K Wout D l) (X.pn ++ pins) (fun e s₁ => wpAny (model X.prog X.w) X.A (noteFrame e X.env) (fun _ s₂ => wpAny (model X.prog X.w) X.A (setFlight e none) (fun _ s₃ =>
    wpAny (model X.prog X.w) X.A (handleBy e X.env (h₀ :: hds)) (SP X pins D) X.xe s₃) X.xe s₂) X.xe s₁) (fun u s' xx => ?_) PassesOwn.looking).run [] s σ H D (I.toTry _) h) (fun f s1 hsp => ?_) (fun e s1 he => he)
  · -- the catch
    obtain ⟨a, B, sI, pins', σ', H', cls, d, rfl, J', nb, up, sky, na, os, ag, w⟩ := xx
    have J : Inv X pins σ' H' sI := J'.ofTry ok
    have sky' : Sky B (X.env :: X.outer) a (Zn cls d) X.env.locals s'.heap := by rw [← hs]; exact sky
    show wpAny (model X.prog X.w) X.A (noteFrame (.ref a) X.env) _ _ _
    refine Sky.land Zn.steady hfr hf sky' fun h3 fl3 up3 => ?_
    have J3 : Inv X pins σ' H' { s' with heap := h3 } := J.landed nb fl3.1 (up.trans up3) os ag
    obtain ⟨oe3, vs3, he3, hz3, hd3⟩ := fl3.there
    have notFr : ∀ {h : Heap} {o : Obj} {vs : Array Value}, h.FunFrames B (X.env :: X.outer) → h.get? a = some o → o.data = .fields vs → a ∉ frs (X.env :: X.outer) := fun {h o vs} ff e dd hm => by
      obtain ⟨_, o', e', hnf⟩ := ff.mem hm
      rw [e] at e'; cases e'
      exact hnf _ dd
    have nfr := notFr fl3.2.2.1 he3 hd3
    have nL : a ≠ X.env.locals := fun z => nfr (List.mem_filterMap.mpr ⟨X.env, List.mem_cons_self, by rw [hf, z]⟩)
    have nF : a ∉ X.fs := fun hm => by
      obtain ⟨e, he, q⟩ := List.mem_filterMap.mp hm
      exact nfr (List.mem_filterMap.mpr ⟨e, List.mem_cons_of_mem _ he, q⟩)
    have S3 := J3.suite he3 hd3 na nL nF
    have go : ∀ {hds' : List ExceptHandler} {l' : List (Value × Option Nat × Sut)}, HdG X hds' l' → wG X.K Wout D l' cls d σ' H' →
        wpAny (model X.prog X.w) X.A (handleBy (.ref a) X.env hds') (SP X pins D) X.xe { s' with heap := h3 } := by
      intro hds' l' hk
      induction hk with
      | nil =>
        intro w
        refine wpAny_handleBy_nil ?_
        obtain ⟨k1, k2, k3, oe, vs, T, oT, ts', he, hz, hd, h1, hr⟩ := id fl3
        unfold PySem.passOn
        refine wpAny_bind (wpAny_field he hd h1 ?_)
        rw [if_neg (show ¬ ((Value.ref T == Value.none) = true) from by simp)]
        have fin : wpAny (model X.prog X.w) X.A (setFlight (.ref a) X.env.frame) (fun _ s4 => wpAny (model X.prog X.w) X.A (throw (.ref a) : Sem Flow) (SP X pins D) X.xe s4) X.xe { s' with heap := h3 } := by
          rw [hf]
          refine HandSPX.setFlight_upZ fl3 fun h4 hh4 up4 => wpAny_throw (tk _ _ ?_)
          exact ⟨a, B, sI, pins, σ', H', cls, d, rfl, J, nb, (up.trans up3).trans up4, .inr (.inr (by rw [hs]; exact hh4)), na, os, ag, w⟩
        first
          | exact wpAny_bind (wpAny_pure (wpAny_bind fin))
          | exact wpAny_bind fin
      | @plain x c ts b₀ suite np pos' hds2 l2 hc hsu r ih =>
        intro w
        obtain ⟨b, hb1, hyes, hno⟩ := w
        refine wpAny_handleBy_cons (codeAny_handlers_test ?_) (by intro q; cases q)
        have LT : PySem.W.Looks (model X.prog X.w) h3 (typeOf (.ref a)) cls := fun A Q E s k q => wpAny_typeOf_ref (k _ _ he3) (by rw [hz3.1]; exact q)
        have LM := PySem.W.exm_one (M := model X.prog X.w) (J3.kIn) LT hb1
        have test : ∀ {Q : Value → Shared → Prop} {E : Value → Shared → Prop}, Q c { s' with heap := h3 } → wpAny (model X.prog X.w) (X.A.mark (some (.ref a))) (eval (.Name x np) X.env) Q E { s' with heap := h3 } := fun {Q E} q => by
          obtain ⟨hg, hdbg, hm | ⟨hm, hv, hnn⟩⟩ := hc
          · exact ld_glob (X := X.suite a ((a, oe3) :: (X.pn ++ pins))) S3 hg hm q hdbg
          · exact ld_blt (X := X.suite a ((a, oe3) :: (X.pn ++ pins))) S3 hg hm hv q hnn hdbg
        refine test (LM.here ?_)
        cases b with
        | true =>
          refine codeAny_handlers_suite ?_
          refine HandSPX.lands_againZ fl3 fun h4 fl4 up4 => ?_
          have J4 : Inv X pins σ' H' { s' with heap := h4 } := J.landed nb fl4.1 ((up.trans up3).trans up4) os ag
          obtain ⟨oe4, vs4, he4, hz4, hd4⟩ := fl4.there
          have S4 := J4.suite he4 hd4 na nL nF
          refine wpAny_mono ((hsu a oe4 cls d (X.pn ++ pins) hz4 ⟨_, hd4⟩).run [] _ _ H' _ S4 (hyes rfl a na)) (fun f s6 hsp => ?_) (fun _ _ z => False.elim z)
          cases f with
          | next =>
            obtain ⟨σ6, H6, S6, q6⟩ := hsp
            exact ⟨_, _, S6.unsuite ok, q6⟩
          | brk =>
            obtain ⟨σ6, H6, S6, q6⟩ := hsp
            exact ⟨_, _, S6.unsuite ok, q6⟩
          | cont =>
            obtain ⟨σ6, H6, S6, q6⟩ := hsp
            exact ⟨_, _, S6.unsuite ok, q6⟩
          | ret u =>
            obtain ⟨v6, σ6, H6, S6, r6, q6⟩ := hsp
            exact ⟨_, _, _, S6.unsuite ok, r6, q6⟩
        | false =>
          show wpAny _ X.A (handleBy (.ref a) X.env hds2) _ _ _
          exact ih (hno rfl)
      | @as x n i c ts b₀ suite np pos' hds2 l2 hc hN hi hln hsu r ih =>
        intro w
        have hloc : Loc X.env.scope n := .inl hln
        obtain ⟨b, hb1, hyes, hno⟩ := w
        refine wpAny_handleBy_cons (codeAny_handlers_test ?_) (by intro q; cases q)
        have LT : PySem.W.Looks (model X.prog X.w) h3 (typeOf (.ref a)) cls := fun A Q E s k q => wpAny_typeOf_ref (k _ _ he3) (by rw [hz3.1]; exact q)
        have LM := PySem.W.exm_one (M := model X.prog X.w) (J3.kIn) LT hb1
        have test : ∀ {Q : Value → Shared → Prop} {E : Value → Shared → Prop}, Q c { s' with heap := h3 } → wpAny (model X.prog X.w) (X.A.mark (some (.ref a))) (eval (.Name x np) X.env) Q E { s' with heap := h3 } := fun {Q E} q => by
          obtain ⟨hg, hdbg, hm | ⟨hm, hv, hnn⟩⟩ := hc
          · exact ld_glob (X := X.suite a ((a, oe3) :: (X.pn ++ pins))) S3 hg hm q hdbg
          · exact ld_blt (X := X.suite a ((a, oe3) :: (X.pn ++ pins))) S3 hg hm hv q hnn hdbg
        refine test (LM.here ?_)
        cases b with
        | true =>
          refine codeAny_handlers_suite_as ?_
          refine HandSPX.lands_againZ fl3 fun h4 fl4 up4 => ?_
          have J4 : Inv X pins σ' H' { s' with heap := h4 } := J.landed nb fl4.1 ((up.trans up3).trans up4) os ag
          obtain ⟨oe4, vs4, he4, hz4, hd4⟩ := fl4.there
          have S4 := J4.suite he4 hd4 na nL nF
          refine store_ok (X := X.suite a ((a, oe4) :: (X.pn ++ pins))) (v := .ref a) S4 hN hi hloc rfl (fun s5 S5 => ?_) (.inr hln)
          refine wpAny_mono ((hsu a oe4 cls d (X.pn ++ pins) hz4 ⟨_, hd4⟩).run [] s5 _ H' _ S5 (hyes rfl a na)) (fun f s6 hsp => ?_) (fun _ _ z => False.elim z)
          have end_ : ∀ {σ6 : L2.St} {H6 : Hp} {Q : Shared → Prop}, Inv (X.suite a ((a, oe4) :: (X.pn ++ pins))) [] σ6 H6 s6 → (∀ s7, Inv X pins (σ6.set i none) H6 s7 → Q s7) →
              wpAny (model X.prog X.w) X.A (do bindName X.env n .none; unbindBehindTheSuite X.env n pos') (fun _ s7 => Q s7) X.xe s6 := fun {σ6 H6 Q} S6 hq => gone_ok (S6.unsuite ok) hN hi hln hq
          cases f with
          | next =>
            obtain ⟨σ6, H6, S6, q6⟩ := hsp
            exact end_ S6 fun s7 J7 => ⟨_, _, J7, q6⟩
          | brk =>
            obtain ⟨σ6, H6, S6, q6⟩ := hsp
            exact end_ S6 fun s7 J7 => ⟨_, _, J7, q6⟩
          | cont =>
            obtain ⟨σ6, H6, S6, q6⟩ := hsp
            exact end_ S6 fun s7 J7 => ⟨_, _, J7, q6⟩
          | ret u =>
            obtain ⟨v6, σ6, H6, S6, r6, q6⟩ := hsp
            exact end_ S6 fun s7 J7 => ⟨_, _, _, J7, r6, q6⟩
        | false =>
          show wpAny _ X.A (handleBy (.ref a) X.env hds2) _ _ _
          exact ih (hno rfl)
    exact go hh w
  · cases f with
    | next =>
      obtain ⟨σ', H', J', q⟩ := hsp
      exact wpAny_execs_nil ⟨σ', H', J'.ofTry ok, q⟩
    | brk =>
      obtain ⟨σ', H', J', q⟩ := hsp
      exact ⟨σ', H', J'.ofTry ok, q⟩
    | cont =>
      obtain ⟨σ', H', J', q⟩ := hsp
      exact ⟨σ', H', J'.ofTry ok, q⟩
    | ret u =>
      obtain ⟨v, σ', H', J', r, q⟩ := hsp
      exact ⟨v, σ', H', J'.ofTry ok, r, q⟩
end
end DN

set_option maxHeartbeats 4000000
/-! raise, try, what a suite says of its exception -/
namespace DN
open PySem PySem.Spec L2 NdefX
section
variable {X : Cx} {G : GC}
/-- an own exception class with an __init__ -/
def ExcK (G : GC) (c : Str) (fl : List Str) (k : Nat) : Prop := ∃ (C fI : Addr) (fd : FuncData) (sf : Str), G.mg c = some (.ref C) ∧ G.cm c = some C ∧ OexC G.K C ∧ PySem.W.findIn G.K (.ref C) "__init__" = some (some (.ref fI)) ∧
  PySem.W.typeIn G.K (.ref fI) = some (.type "function") ∧ FnOk G.P G.w G.K G.mg G.base (CX G.P G.w) k fI fd (sf :: fl) (spInit C fl) ∧ Binds G.K fd (sf :: fl) [] ∧ fl.Nodup ∧ fl.length ≤ 900
def sRaise (c : Str) (fl : List Str) (tt : SA) : SS := fun D ρ M => tt (fun x M1 => D.ex x ρ M1) ρ M fun ds M1 => D.ex ⟨c, fl, ds⟩ ρ M1
theorem lookup_rev {β : Type} : ∀ {fl : List Str} {vs : List β} {k : Str} {v : β}, fl.Nodup → (fl.zip vs).lookup k = some v → (fl.zip vs).reverse.lookup k = some v
  | [], _, _, _, _, h => by simp at h
  | f :: fl, [], _, _, _, h => by simp at h
  | f :: fl, y :: vs, k, v, nd, h => by
    simp only [List.zip_cons_cons, List.reverse_cons]
    obtain ⟨n1, n2⟩ := List.nodup_cons.mp nd
    simp only [List.zip_cons_cons, List.lookup_cons] at h
    rw [List.lookup_append]
    split at h
    · rename_i e
      cases h
      have ek := beq_iff_eq.mp e
      have : (fl.zip vs).reverse.lookup k = none := by
        rw [List.lookup_eq_none_iff]
        intro p hp
        have hp := (List.of_mem_zip (List.mem_reverse.mp hp)).1
        simp only [beq_eq_false_iff_ne, ne_eq, bne_iff_ne, Bool.not_eq_true]
        intro e2
        rw [ek] at e2
        exact n1 (by rw [e2]; exact hp)
      rw [this]
      simp [List.lookup_cons, e]
    · rw [lookup_rev n2 h]; rfl
theorem RMem.xd {H : Hp} {al : List Addr} {M : Mem} (m : RMem G H al M) {p : Addr} {o : HO} (h : H p = none) : Nxt G H al (upd H p o) al M := by
  have k : KeepH H (upd H p o) := KeepH.new h
  exact ⟨List.prefix_refl _, k, m.nd, m.len, fun n o e => let ⟨a, u, e1, e2, r⟩ := m.at_ n o e; ⟨a, u, e1, by rw [upd_ne (ne_of_none e2 h)]; exact e2, r.mono k (List.prefix_refl _)⟩⟩
variable {a : Expr} {es : List Expr} {tt : SA} {c : Str} {fl : List Str} {k : Nat} {p pos pos' : Pos}
theorem ms_raise (hP : X.prog = G.P) (hw : X.w = G.w) (hK : X.K = G.K) (hmg : X.mg = G.mg) (hbs : X.base = G.base) (e : ExcK G c fl k) (hc : X.calm = true) (hr : Room (k + 1) X.A) (hg : Gl X c) (ha : MA X G (a :: es) tt) (hn : (a :: es).length = fl.length)
    (hdb : (c == ("__debug__" : Str)) = false) (he : starEach (a :: es) X.env = (false, eval a X.env) :: starEach es X.env) (hpl : (backTo pos (starEach es X.env)).any (·.1) = false) :
    MS X G (.Raise (some (.Call (.Name c p) (a :: es) [] pos)) none pos') (sRaise c fl tt) := by
  obtain ⟨C, fI, fd, sf, e1, e2, e3, e4, e5, e6, e7, e8, e9⟩ := e
  intro W tk
  refine PS.imp (L2N.ps_raise hc tk (pmk_exN (CX := CX X.prog X.w) (by rw [hK]; exact e3) (by rw [hK]; exact e4) (by rw [hK]; exact e5) (by rw [hP, hw, hK, hmg, hbs]; exact e6) hr (by rw [hK]; exact e7) passL hg (by rw [hmg]; exact e1) (ha W tk) hdb he hpl)) fun De σ H h => ?_
  obtain ⟨ρ, al, M, Ds, r, h, er⟩ := h
  refine ⟨ρ, al, M, _, _, r, h, fun H1 al1 M1 vs ds n1 r1 l1 h1 => ?_, er.xcl r⟩
  have lv : vs.length = fl.length := by rw [r1.vlen, l1, hn]
  refine ⟨by omega, fun x hx => ?_⟩
  show spInit C fl (.ref x :: (vs ++ [])) (upd H1 x (exo x C none)) _ _
  rw [List.append_nil]
  refine ⟨x, vs, rfl, lv, upd_same, fun H' d dne dn ea ed hb => ⟨rfl, d, _, ea, ed, ?_, ?_⟩⟩
  · rw [upd_ne dne] at dn; exact dn
  · rw [upd_ne dne] at dn
    have eH : upd (del H' x) d (.xd (fl.zip vs).reverse) = upd H1 d (.xd (fl.zip vs).reverse) := by
      funext b
      by_cases hd : b = d
      · subst hd; rw [upd_same, upd_same]
      · rw [upd_ne hd, upd_ne hd]
        by_cases hx' : b = x
        · subst hx'; rw [del_same, hx]
        · rw [del_ne hx', hb b hx' hd, upd_ne hx']
    rw [eH]
    have n2 := n1.trans (n1.m.xd (o := .xd (fl.zip vs).reverse) dn)
    refine er.ex _ _ _ _ _ _ _ _ n2 (r.go n2) ?_ h1
    exact ⟨C, e2, rfl, .inr ⟨d, _, vs, rfl, upd_same, r1.mono (KeepH.new dn) (List.prefix_refl _), (by show fl.length = ds.length; rw [l1, hn]), fun k v hk => lookup_rev e8 hk⟩⟩
/-! ### a class without an __init__ of its own -/
def Exc0 (G : GC) (c : Str) : Prop := ∃ C, G.mg c = some (.ref C) ∧ G.cm c = some C ∧ PySem.W.excIn G.K C [.type "ValueError", .type "Exception", .type "BaseException", .type "object"] "ValueError.__new__" = true ∧ PySem.W.keepIn G.K (.ref C) = true ∧
  PySem.W.subIn G.K (.ref C) (.type "BaseException") = some true ∧ PySem.W.typeIn G.K (.ref C) = some (.type "type")
theorem pmk0 {x : Str} {C : Addr} {bb : List Value} {B nid iid : String} {p pos : Pos} (F : ExcBaseFacts B nid iid bb) (q : PySem.W.excIn X.K C bb nid = true) (gC : X.mg x = some (.ref C)) (kC : PySem.W.keepIn X.K (.ref C) = true) (r : Raises X (.ref C)) (hg : Gl X x)
    (hdb : (x == ("__debug__" : Str)) = false) : L2N.PMk X (.Call (.Name x p) [] [] pos) (fun _ H Q => Q (.ref C) none H) := by
  intro pins s σ H Q I h
  refine wpAny_Call_Name_kw (ld_glob I hg gC ?_ hdb)
  refine PySem.W.callWith_K0 I.kIn kC ?_
  show wpAny _ _ (call (.ref C) []) _ _ _
  obtain ⟨_, _, _, _, _, _, _, _, _, _, _, _, _, _, _, _, _, hC, hN, hni, T⟩ := exc_obj I.kIn q
  exact wpAny_call_exc_subT F T hC hN hni (fun h' e hm => L2N.mk_of I hm r h (I.hok.gone hm.new)) (by show 0 ≤ sizeLine; omega)
theorem ms_raise0 {c : Str} {p pos pos' : Pos} (hK : X.K = G.K) (hmg : X.mg = G.mg) (e : Exc0 G c) (hc : X.calm = true) (hg : Gl X c) (hdb : (c == ("__debug__" : Str)) = false) :
    MS X G (.Raise (some (.Call (.Name c p) [] [] pos)) none pos') (sRaise c [] aNil) := by
  obtain ⟨C, e1, e2, e3, e4, e5, e6⟩ := e
  intro W tk
  refine PS.imp (L2N.ps_raise hc tk (pmk0 PySem.F.excBase_ValueError (by rw [hK]; exact e3) (by rw [hmg]; exact e1) (by rw [hK]; exact e4) (raises_own (by rw [hK]; exact e5) (by rw [hK]; exact e6)) hg hdb)) fun De σ H h => ?_
  obtain ⟨ρ, al, M, Ds, r, h, er⟩ := h
  exact er.ex _ _ _ _ _ _ _ _ r.m.go r ⟨C, e2, rfl, .inl ⟨rfl, rfl, rfl⟩⟩ h
end
/-! ### try .. except C as n -/
section
variable {G G0 : GC}
theorem RMem.re (hK : G.K = G0.K) (hc : G.cm = G0.cm) {H : Hp} {al : List Addr} {M : Mem} (m : RMem G H al M) : RMem G0 H al M :=
  ⟨m.nd, m.len, fun n o e => by rw [← hK, ← hc]; exact m.at_ n o e⟩
theorem Nxt.re (hK : G.K = G0.K) (hc : G.cm = G0.cm) {H H' : Hp} {al al' : List Addr} {M' : Mem} (n : Nxt G H al H' al' M') : Nxt G0 H al H' al' M' := ⟨n.p, n.k, n.m.re hK hc⟩
theorem REnv.re (hK : G.K = G0.K) {H : Hp} {al : List Addr} {σ : L2.St} {ρ : Env} (e : REnv G H al σ ρ) : REnv G0 H al σ ρ := ⟨e.1, fun i d h => by rw [← hK]; exact e.2 i d h⟩
end
/-- what is known of a class that is asked for: which classes of exceptions lie under it -/
def ClsK (G : GC) (cv : Value) (tab : List (Str × Bool)) : Prop := ∀ n b, tab.lookup n = some b → ∃ Cn, G.cm n = some Cn ∧ PySem.W.exmOne G.K (.ref Cn) cv = some b ∧ PySem.W.kitOne G.K (.ref Cn) cv = some b
/-- a clause: the name's place, the classes that it takes, its suite -/
structure Hdl where
  oi : Option Nat
  tab : List (Str × Bool)
  su : Exn → SS
def sdG (D : SD) : Option Nat → SD
  | none => { nx := D.nx, rt := D.rt, bk := D.bk, ct := D.ct, ex := fun _ _ _ => False }
  | some i => { nx := fun ρ2 M2 => D.nx (ρ2.set i none) M2, rt := D.rt, bk := fun ρ2 M2 => D.bk (ρ2.set i none) M2, ct := fun ρ2 M2 => D.ct (ρ2.set i none) M2, ex := fun _ _ _ => False }
def envG (ρ : Env) : Option Nat → Env
  | none => ρ
  | some i => ρ.set i none
def okG (ρ : Env) : Option Nat → Prop
  | none => True
  | some i => i < ρ.length
def exG (D : SD) : List Hdl → Exn → Env → Mem → Prop
  | [] => D.ex
  | h :: r => fun x ρ1 M1 => match h.tab.lookup x.cls with
    | some true => okG ρ1 h.oi ∧ h.su x (sdG D h.oi) (envG ρ1 h.oi) M1
    | some false => exG D r x ρ1 M1
    | none => False
def sTryG (hs : List Hdl) (tb : SS) : SS := fun D ρ M => tb { nx := D.nx, rt := D.rt, bk := D.bk, ct := D.ct, ex := exG D hs } ρ M
abbrev GC.inX (G : GC) (x : Exn) (a : Addr) (cls : Value) (d : Option Addr) (i : Nat) : GC := { G with xn := some ⟨x, a, cls, d, i⟩ }
section
variable {X : Cx} {G : GC} {c n : Str} {cv : Value} {i : Nat} {body suite : List Stmt} {b₀ : Stmt} {np pos pos' : Pos} {tb : SS} {tsu : Exn → SS} {tab : List (Str × Bool)}
theorem REnv.setN {H : Hp} {al : List Addr} {σ : L2.St} {ρ : Env} (e : REnv G H al σ ρ) (i : Nat) (v : Option V) : REnv G H al (σ.set i v) (ρ.set i none) := by
  refine ⟨by rw [List.length_set, List.length_set]; exact e.1, fun j d h => ?_⟩
  by_cases hj : i = j
  · subst hj
    have hl : i < ρ.length := by have := (List.getElem?_eq_some_iff.mp h).1; simpa using this
    rw [List.getElem?_set_self hl] at h; cases h
  · rw [List.getElem?_set_ne hj] at h
    rw [List.getElem?_set_ne hj]
    exact e.2 j d h
/-- clauses and what they are read as -/
inductive HdK (X : Cx) (G : GC) : List ExceptHandler → List Hdl → Prop
  | nil : HdK X G [] []
  | plain {c : Str} {cv : Value} {h : Hdl} {b₀ : Stmt} {suite : List Stmt} {np pos' : Pos} {hds : List ExceptHandler} {l : List Hdl} (ho : h.oi = none) (hc : Names X c cv) (hcl : ClsK G cv h.tab)
      (hsu : ∀ (x : Exn) (a : Addr) (oe : Obj) (cls : Value) (d : Option Addr) (pn : List (Addr × Obj)), L2N.Zn cls d oe → (∃ vs, oe.data = .fields vs) → MSs (X.suite a ((a, oe) :: pn)) G (b₀ :: suite) (h.su x)) (r : HdK X G hds l) :
      HdK X G (.ExceptHandler (some (.Name c np)) none (b₀ :: suite) pos' :: hds) (h :: l)
  | as {c n : Str} {i : Nat} {cv : Value} {h : Hdl} {b₀ : Stmt} {suite : List Stmt} {np pos' : Pos} {hds : List ExceptHandler} {l : List Hdl} (ho : h.oi = some i) (hN : X.N.Nodup) (hi : X.N[i]? = some n) (hln : X.env.kindOf n = some .local) (hc : Names X c cv) (hcl : ClsK G cv h.tab)
      (hsu : ∀ (x : Exn) (a : Addr) (oe : Obj) (cls : Value) (d : Option Addr) (pn : List (Addr × Obj)), L2N.Zn cls d oe → (∃ vs, oe.data = .fields vs) → MSs (X.suite a ((a, oe) :: pn)) (G.inX x a cls d i) (b₀ :: suite) (h.su x)) (r : HdK X G hds l) :
      HdK X G (.ExceptHandler (some (.Name c np)) (some n) (b₀ :: suite) pos' :: hds) (h :: l)
def sutG (G : GC) (h : Hdl) : Sut := fun a cls d De σ H => match h.oi with
  | none => ∃ x, LS G (fun _ _ _ _ => False) (h.su x) De σ H
  | some i => ∃ x, LS (G.inX x a cls d i) (fun _ _ _ _ => False) (h.su x) De σ H
/-- the class values go along -/
inductive Clv (G : GC) : List Hdl → List (Value × Option Nat × Sut) → Prop
  | nil : Clv G [] []
  | cons {h : Hdl} {cv : Value} {r : List Hdl} {l : List (Value × Option Nat × Sut)} (hcl : ClsK G cv h.tab) (t : Clv G r l) : Clv G (h :: r) ((cv, h.oi, sutG G h) :: l)
theorem hdG_of {hds : List ExceptHandler} {l : List Hdl} (k : HdK X G hds l) : ∃ l', HdG X hds l' ∧ Clv G l l' := by
  induction k with
  | nil => exact ⟨[], .nil, .nil⟩
  | @plain c cv h b₀ suite np pos' hds l ho hc hcl hsu r ih =>
    obtain ⟨l', k1, k2⟩ := ih
    have e : h.oi = none := ho
    refine ⟨(cv, none, sutG G h) :: l', .plain hc (fun a oe cls d pn hz hv => ⟨fun pins s σ H D I q => ?_⟩) k1, ?_⟩
    · unfold sutG at q
      rw [e] at q
      obtain ⟨x, q⟩ := q
      exact (hsu x a oe cls d pn hz hv _ takes0).run pins s σ H D I q
    · have := Clv.cons (h := h) hcl k2
      rw [e] at this
      exact this
  | @as c n i cv h b₀ suite np pos' hds l ho hN hi hln hc hcl hsu r ih =>
    obtain ⟨l', k1, k2⟩ := ih
    have e : h.oi = some i := ho
    refine ⟨(cv, some i, sutG G h) :: l', .as hc hN hi hln (fun a oe cls d pn hz hv => ⟨fun pins s σ H D I q => ?_⟩) k1, ?_⟩
    · unfold sutG at q
      rw [e] at q
      obtain ⟨x, q⟩ := q
      exact (hsu x a oe cls d pn hz hv _ takes0).run pins s σ H D I q
    · have := Clv.cons (h := h) hcl k2
      rw [e] at this
      exact this
theorem exG_wG (hx : G.xn = none) {W : WX} {De : Ends} {Ds : SD} {H0 : Hp} {al0 : List Addr} {l : List Hdl} {l' : List (Value × Option Nat × Sut)} (k : Clv G l l') (er : EndR G W H0 al0 Ds De)
    {σ' : L2.St} {ρ' : Env} {H' : Hp} {al' : List Addr} {M' : Mem} {x : Exn} {cls : Value} {dd : Option Addr} (n' : Nxt G H0 al0 H' al' M') (r' : RSt G H' al' M' σ' ρ') (rx : RExn G.K G.cm H' al' x cls dd) :
    exG Ds l x ρ' M' → wG G.K W De l' cls dd σ' H' := by
  induction k with
  | nil => exact fun hq => er.ex _ _ _ _ _ _ _ _ n' r' rx hq
  | @cons h cv r l2 hcl t ih =>
    intro hq
    have hq : (match h.tab.lookup x.cls with
      | some true => okG ρ' h.oi ∧ h.su x (sdG Ds h.oi) (envG ρ' h.oi) M'
      | some false => exG Ds r x ρ' M'
      | none => False) := hq
    cases e : h.tab.lookup x.cls with
    | none => rw [e] at hq; exact hq.elim
    | some b =>
      rw [e] at hq
      obtain ⟨Cn, e1, e2, e3⟩ := hcl _ _ e
      have rx0 := rx
      obtain ⟨C, q1, ec, q3⟩ := rx
      rw [e1] at q1; cases q1
      refine ⟨b, by rw [ec]; exact e2, fun hb a na => ?_, fun hb => ?_⟩
      · subst hb
        obtain ⟨hil, hq⟩ := hq
        cases eo : h.oi with
        | none =>
          rw [eo] at hq
          show sutG G h a cls dd _ _ H'
          unfold sutG
          rw [eo]
          refine ⟨x, ρ', al', M', _, r', hq, ?_⟩
          exact ⟨fun σ2 ρ2 H2 al2 M2 n2 r2 h2 => er.nx _ _ _ _ _ (n'.trans n2) r2 h2, fun H2 al2 M2 v d n2 rd h2 => er.rt _ _ _ _ _ (n'.trans n2) rd h2,
            fun σ2 ρ2 H2 al2 M2 n2 r2 h2 => er.bk _ _ _ _ _ (n'.trans n2) r2 h2, fun σ2 ρ2 H2 al2 M2 n2 r2 h2 => er.ct _ _ _ _ _ (n'.trans n2) r2 h2, fun _ _ _ _ _ _ _ _ _ _ _ h => h.elim⟩
        | some i =>
          rw [eo] at hq hil
          have hil : i < ρ'.length := hil
          have hil' : i < σ'.length := by rw [← r'.e.1]; exact hil
          show sutG G h a cls dd _ _ H'
          unfold sutG
          rw [eo]
          refine ⟨x, ρ'.set i none, al', M', _, ⟨RMem.re (G := G) (G0 := G.inX x a cls dd i) rfl rfl r'.m, REnv.re (G := G) (G0 := G.inX x a cls dd i) rfl (r'.e.setN i _), ?_⟩, hq, ?_⟩
          · show XOk (G.inX x a cls dd i) H' al' (σ'.set i (some (.ref a)))
            exact ⟨rx0, by rw [List.getElem?_set_self hil']⟩
          · have back : ∀ {σ2 : L2.St} {ρ2 : Env} {H2 : Hp} {al2 : List Addr} {M2 : Mem}, RSt (G.inX x a cls dd i) H2 al2 M2 σ2 ρ2 → RSt G H2 al2 M2 (σ2.set i none) (ρ2.set i none) := fun r2 =>
              ⟨RMem.re (G := G.inX x a cls dd i) (G0 := G) rfl rfl r2.m, REnv.re (G := G.inX x a cls dd i) (G0 := G) rfl (r2.e.setN i none), by unfold XOk; rw [hx]; trivial⟩
            refine ⟨fun σ2 ρ2 H2 al2 M2 n2 r2 h2 => er.nx _ _ _ _ _ (n'.trans (Nxt.re (G := G.inX x a cls dd i) (G0 := G) rfl rfl n2)) (back r2) h2, fun H2 al2 M2 v d n2 rd h2 => er.rt _ _ _ _ _ (n'.trans (Nxt.re (G := G.inX x a cls dd i) (G0 := G) rfl rfl n2)) rd h2,
              fun σ2 ρ2 H2 al2 M2 n2 r2 h2 => er.bk _ _ _ _ _ (n'.trans (Nxt.re (G := G.inX x a cls dd i) (G0 := G) rfl rfl n2)) (back r2) h2, fun σ2 ρ2 H2 al2 M2 n2 r2 h2 => er.ct _ _ _ _ _ (n'.trans (Nxt.re (G := G.inX x a cls dd i) (G0 := G) rfl rfl n2)) (back r2) h2, fun _ _ _ _ _ _ _ _ _ _ _ h => h.elim⟩
      · subst hb
        exact ih hq
theorem ms_tryG {h₀ : ExceptHandler} {hds : List ExceptHandler} {l : List Hdl} (hx : G.xn = none) (hK : X.K = G.K) (hs : X.stack = X.env :: X.outer) (hf : X.env.frame = some X.env.locals)
    (hb : ∀ (pn : List (Addr × Obj)) (xe : Value → Shared → Prop), PassesOwn (model X.prog X.w) X.A X.env xe → MSs (X.tr pn xe) G body tb) (k : HdK X G (h₀ :: hds) l) :
    MS X G (.Try body (h₀ :: hds) [] [] pos) (sTryG l tb) := by
  intro W tk
  obtain ⟨l', k1, k2⟩ := hdG_of k
  refine PS.imp (ps_try_g (tb := fun W' => LS G W' tb) hs hf tk (fun W' pn xe t' hp => hb pn xe hp W' t') k1) fun De σ H h => ?_
  obtain ⟨ρ, al, M, Ds, r, h, er⟩ := h
  exact ⟨ρ, al, M, _, r, h, ⟨er.nx, er.rt, er.bk, er.ct, fun σ' ρ' H' al' M' x cls dd n' r' rx hq => by rw [hK]; exact exG_wG hx k2 er n' r' rx hq⟩⟩
end
/-! ### in a suite: its exception's class, its fields -/
structure XfK (K : PySem.W.Frag) (C : Addr) (flds : List Str) : Prop where
  xf : XfC K C
  cl : (PySem.W.clsIn K C).isSome = true
  ha : PySem.W.findIn K (.ref C) "__class__" = some (some (.builtin "object.__class__"))
  hn : PySem.W.specialIn K (.builtin "object.__class__") "__get__" = some (some (.builtin "getset_descriptor.__get__"))
  ht : PySem.W.takesIn K (.builtin "object.__class__") = some true
  hm : PySem.W.mroIn K C (.type "object") = some true
  nf : ∀ f ∈ flds, PySem.W.findIn K (.ref C) f = some none
def Suite (X : Cx) (G : GC) : Prop := ∀ n, G.xn = some n → ∃ (X0 : Cx) (oe : Obj) (pn : List (Addr × Obj)), X = X0.suite n.a ((n.a, oe) :: pn) ∧ Zc n.cls n.d oe ∧ ∃ vs, oe.data = .fields vs
def eFld (x : Exn) (f : Str) : SE := fun _ _ M R => match (x.ks.zip x.vs).lookup f with | some d => R d M | none => False
def eIsE (x : Exn) (tab : List (Str × Bool)) : SE := fun _ _ M R => match tab.lookup x.cls with | some b => R (.bl b) M | none => False
theorem zip_rel {K : PySem.W.Frag} {H : Hp} {al : List Addr} : ∀ {ks : List Str} {ds : List D} {vs : List V} {f : Str} {d : D}, RDats K H al ds vs → (ks.zip ds).lookup f = some d → ∃ v, (ks.zip vs).lookup f = some v ∧ RDat K H al d v
  | [], _, _, _, _, _, h => by simp at h
  | k :: ks, [], _, _, _, _, h => by simp at h
  | k :: ks, x :: ds, vs, f, d, r, h => by
    rw [RDats] at r
    obtain ⟨v, r', rfl, r1, r2⟩ := r
    simp only [List.zip_cons_cons, List.lookup_cons] at h ⊢
    split at h
    · cases h; exact ⟨v, rfl, r1⟩
    · exact zip_rel r2 h
section
variable {X : Cx} {G : GC} {n f c : Str} {m : XN} {flds : List Str} {p pos p1 p2 : Pos}
theorem me_fld (su : Suite X G) (hxn : G.xn = some m) (hK : X.K = G.K) (hN : X.N[m.i]? = some n) (hv : Vis X.env.scope n) (hd : (n == ("__debug__" : Str)) = false) (hcd : (n == ("__classdict__" : Str)) = false) (hC : ∀ C, G.cm m.x.cls = some C → XfK G.K C flds) (hf : f ∈ flds) :
    ME X G (.Attribute (.Name n p) f pos) (eFld m.x f) := by
  intro W tk
  obtain ⟨X0, oe, pn, eX, hz, hvs⟩ := su m hxn
  cases eC : G.cm m.x.cls with
  | none =>
    refine ⟨fun pins s σ H Q I h => ?_⟩
    obtain ⟨ρ, al, M, Ex, R, r, _⟩ := h
    have := r.x
    unfold XOk at this
    rw [hxn] at this
    obtain ⟨⟨C, e1, _⟩, _⟩ := this
    rw [eC] at e1; cases e1
  | some C =>
    have xk := hC C eC
    have pe : PE X (.Attribute (.Name n p) f pos) (tXf m.a m.cls m.d C f (tVar m.i)) := by
      have pv : PE X (.Name n p) (tVar m.i) := pe_var hN hv hd hcd
      subst eX
      exact pe_xf (by have := xk.xf; rw [← hK] at this; exact this) (by have := xk.nf f hf; rw [← hK] at this; exact this) hz hvs pv rfl
    refine PE.imp pe fun σ H Q h => ?_
    obtain ⟨ρ, al, M, Ex, R, r, h, c, xc⟩ := h
    have rx := r.x
    unfold XOk at rx
    rw [hxn] at rx
    obtain ⟨⟨C', e1, e2, e3⟩, e4⟩ := rx
    rw [eC] at e1; cases e1
    have h : (match (m.x.ks.zip m.x.vs).lookup f with | some d => R d M | none => False) := h
    cases el : (m.x.ks.zip m.x.vs).lookup f with
    | none => rw [el] at h; exact h.elim
    | some d =>
      rw [el] at h
      rcases e3 with ⟨q1, q2, _⟩ | ⟨dx, fs, vs, q1, q2, q3, q4, q5⟩
      · rw [q1] at el; simp at el
      · obtain ⟨v, l1, l2⟩ := zip_rel q3 el
        exact ⟨.ref m.a, e4, rfl, e2, dx, fs, v, q1, q2, q5 f v l1, c _ _ _ _ _ r.m.go l2 h⟩
theorem call_isX {a C : Addr} {oe : Obj} {d : Option Addr} (xk : XfK X.K C flds) (hz : Zc (.ref C) d oe) (hvs : ∃ vs, oe.data = .fields vs) (hpin : ∃ pn, X.pn = (a, oe) :: pn) : CallR X (.builtin "isinstance") (fun xs H Q => ∃ (c : V) (cv : Value) (b : Bool), xs = [.ref a, c] ∧ (∀ u, RelV c u → u = cv) ∧ PySem.W.kitOne X.K (.ref C) cv = some b ∧ (∀ dd, d = some dd → ∃ fs, H dd = some (.xd fs)) ∧ Q (.bl b) H) := by
  intro pins s σ H xs us Q I r h
  obtain ⟨c, cv, b, rfl, hcv, e, hdd, q⟩ := h
  rcases r with _ | ⟨t1, r2⟩
  rcases r2 with _ | ⟨t2, r4⟩
  rcases r4 with _ | _
  cases t1
  have ec := hcv _ t2
  subst ec
  obtain ⟨pn, hpn⟩ := hpin
  obtain ⟨hget, _⟩ := I.pin (a, oe) (by rw [hpn]; simp)
  have J : ∃ od, PySem.W.InstAt s.heap a oe C od := by
    obtain ⟨vs, hv⟩ := hvs
    cases hd : d with
    | none => exact ⟨none, hget, hz.1, by unfold PySem.W.notCls; rw [hv] <;> rfl, by rw [hz.2, hd]; trivial⟩
    | some dd =>
      obtain ⟨fs, ef⟩ := hdd dd hd
      have hx : ObjOk X.prog X.w H s.heap dd (.xd fs) := I.hok dd _ ef
      obtain ⟨mA, hns, _⟩ := hx
      obtain ⟨od, ho, _⟩ := lookIn_ns hns
      exact ⟨some od, hget, hz.1, by unfold PySem.W.notCls; rw [hv] <;> rfl, by rw [hz.2, hd]; exact ho⟩
  obtain ⟨od, J⟩ := J
  exact PySem.W.kia_one (PySem.W.kitx_exc xk.cl xk.xf.ga xk.xf.gg xk.xf.exC xk.ha xk.hn xk.ht xk.hm) I.kIn J e (fun z => nomatch z) fun tk => ⟨.bl b, H, I.kept (t' := tk) fun _ _ z => z, rfl, q⟩
theorem me_isE (su : Suite X G) (hxn : G.xn = some m) (hK : X.K = G.K) (hN : X.N[m.i]? = some n) (hv : Vis X.env.scope n) (hd : (n == ("__debug__" : Str)) = false) (hcd : (n == ("__classdict__" : Str)) = false) (hC : ∀ C, G.cm m.x.cls = some C → XfK G.K C flds)
    {cv : Value} {cw : V} {tab : List (Str × Bool)} (hpc : PE X (.Name c p2) (tC cw)) (hcw : ∀ u, RelV cw u → u = cv) (hcl : ClsK G cv tab) (hg : Gl X "isinstance") (hm : X.mg "isinstance" = none) :
    ME X G (.Call (.Name "isinstance" p1) [.Name n p, .Name c p2] [] pos) (eIsE m.x tab) := by
  intro W tk
  obtain ⟨X0, oe, pn, eX, hz, hvs⟩ := su m hxn
  cases eC : G.cm m.x.cls with
  | none =>
    refine ⟨fun pins s σ H Q I h => ?_⟩
    obtain ⟨ρ, al, M, Ex, R, r, _⟩ := h
    have := r.x
    unfold XOk at this
    rw [hxn] at this
    obtain ⟨⟨C, e1, _⟩, _⟩ := this
    rw [eC] at e1; cases e1
  | some C =>
    have xk : XfK X.K C flds := by rw [hK]; exact hC C eC
    by_cases hcls : m.cls = .ref C
    · have hz' : Zc (.ref C) m.d oe := by rw [← hcls]; exact hz
      refine PE.imp (pe_callB (call_isX (a := m.a) xk hz' hvs ⟨pn, by rw [eX]⟩) hg hm (by decide +kernel) (pa_cons (pe_var hN hv hd hcd) (pa_cons hpc pa_nil))) fun σ H Q h => ?_
      obtain ⟨ρ, al, M, Ex, R, r, h, cc, xc⟩ := h
      have rx := r.x
      unfold XOk at rx
      rw [hxn] at rx
      obtain ⟨⟨C', e1, e2, e3⟩, e4⟩ := rx
      rw [eC] at e1; cases e1
      have h : (match tab.lookup m.x.cls with | some b => R (.bl b) M | none => False) := h
      cases el : tab.lookup m.x.cls with
      | none => rw [el] at h; exact h.elim
      | some b =>
        rw [el] at h
        obtain ⟨Cn, q1, _, q3⟩ := hcl _ _ el
        rw [eC] at q1; cases q1
        refine ⟨.ref m.a, e4, cw, cv, b, rfl, hcw, by rw [hK]; exact q3, fun dd hdd => ?_, cc _ _ _ _ _ r.m.go (by rw [RDat]) h⟩
        rcases e3 with ⟨_, _, q⟩ | ⟨dx, fs, vs, q1, q2, _⟩
        · rw [q] at hdd; cases hdd
        · rw [q1] at hdd; cases hdd; exact ⟨fs, q2⟩
    · refine ⟨fun pins s σ H Q I h => ?_⟩
      obtain ⟨ρ, al, M, Ex, R, r, _⟩ := h
      have := r.x
      unfold XOk at this
      rw [hxn] at this
      obtain ⟨⟨C', e1, e2, _⟩, _⟩ := this
      rw [eC] at e1; cases e1
      exact absurd e2 hcls
end
end DN

set_option maxHeartbeats 4000000
/-! defs called where an exception is handled -/
namespace DN
open PySem PySem.Spec L2
section
variable {X : Cx} {G : GC} {a : Expr} {es : List Expr} {tt : SA} {pos : Pos}
theorem me_callH {k : Nat} {f : Addr} {fd : FuncData} {ps : List Str} {x : Str} {p : Pos} {F : Fn} {n : Nat} (hF : L2H.FnH X.prog X.w X.K X.mg X.base (CX X.prog X.w) k f fd ps (LSp G F n)) (hr : L2H.RoomH k X.A) (hc : L2H.HotC X) (hg : Gl X x) (hm : X.mg x = some (.ref f)) (hk : PySem.W.keepIn X.K (.ref f) = true) (hb : Binds X.K fd ps [])
    (ha : MA X G (a :: es) tt) (hn : (a :: es).length = n) (hdb : (x == ("__debug__" : Str)) = false) (he : starEach (a :: es) X.env = (false, eval a X.env) :: starEach es X.env) (hpl : (backTo pos (starEach es X.env)).any (·.1) = false) :
    ME X G (.Call (.Name x p) (a :: es) [] pos) (eCall F tt) := by
  intro W tk
  have hx : ∀ σ, PassesAt (CX X.prog X.w) X σ ((fun σ cls dd H => W cls dd σ H) σ) := fun σ => passAt tk σ
  refine PE.imp (L2H.pe_callH hF hr hc hg hm hk hb hx (ha W tk) hdb he hpl) fun σ H Q h => ?_
  obtain ⟨ρ, al, M, Ex, R, r, t, c, xc⟩ := h
  refine ⟨ρ, al, M, Ex, _, r, t, fun H1 al1 M1 vs ds n1 r1 l1 h1 => ?_, xc⟩
  exact ⟨al1, M1, ds, R, Ex, by rw [r1.vlen, l1, hn], n1.m, r1, h1, c.nxt n1, fun H' al' M' x cls dd n' rx ex => xc _ _ _ _ _ _ (n1.trans n') rx ex⟩
end
theorem fn_bodyH {G : GC} {k : Nat} {x qual : Str} {st : Stmt} {f : Addr} {fd : FuncData} {N ps : List Str} {t : SS} (hx : G.xn = none) (F : Fun G.K x qual st f fd) (S : FnScope N ps (defScope st))
    (hb : ∀ (cdv : Value) (A : Around) (outer : List PySem.Env) (s : Shared) (H : Hp) (E : XK) (p : Addr × Obj), L2H.Hot1 A p → L2H.RoomH k (A.deeper (PyProof.Rows.envOfC qual (defScope st) s.heap.objs.size f cdv)) → MSs (L2H.cxH (CX G.P G.w) G.P G.w G.K G.mg G.base N qual (defScope st) f cdv A outer s H E p) G (defBody st) t) :
    L2H.FnH G.P G.w G.K G.mg G.base (CX G.P G.w) (k + 1) f fd ps (LSp G (bodyF N.length t) ps.length) := by
  obtain ⟨oc, od, kV, doc, pm, an, cdv, ct, osl, rfl, lk, hcd⟩ := F.ex
  refine L2H.fn_ofH lk hcd S (fun vs H Q E h => ?_) (fun A outer s H vs Q E p hot hr h => ?_)
  · obtain ⟨al, M, ds, R, Ex, hl, _⟩ := h
    exact hl
  · obtain ⟨al, M, ds, R, Ex, hl, m, r, hF, c, xc⟩ := h
    refine ⟨_, hb cdv A outer s H E p hot hr (fun cls d _ H => E cls d H) (L2N.takes_of rfl rfl rfl rfl), startD N.length ds, al, M, _, start_rel m r hx, hF, ?_⟩
    exact ⟨fun σ' ρ' H' al' M' n r' h' => c _ _ _ _ _ n (by rw [RDat]) h', c, fun _ _ _ _ _ _ _ h => h.elim, fun _ _ _ _ _ _ _ h => h.elim, fun σ' ρ' H' al' M' x cls dd n' r' rx h' => xc _ _ _ _ _ _ n' rx h'⟩
end DN

set_option maxHeartbeats 4000000
/-! further built-ins and methods -/
namespace DN
open PySem PySem.Spec L2
section
variable {X : Cx} {G : GC}
theorem rstrs {K : PySem.W.Frag} {H : Hp} {al : List Addr} : ∀ ys : List Str, RDats K H al (ys.map D.str) (ys.map V.str)
  | [] => RDats.nil
  | y :: ys => RDats.cons (by rw [RDat]) (rstrs ys)
theorem rintsV {K : PySem.W.Frag} {H : Hp} {al : List Addr} : ∀ ys : List Int, RDats K H al (ys.map D.int) (ys.map V.int)
  | [] => RDats.nil
  | y :: ys => RDats.cons (by rw [RDat]) (rintsV ys)
/-! ### str.split(sep) -/
def mSplit : OpM := fun d ds M R => match d, ds with
  | .str a, [.str b] => ((b.length == 0) = false ∧ a.length + 2 ≤ sizeLine) ∧ R (.ref M.length) (M ++ [.lst ((Txt.split a b).map D.str)])
  | _, _ => False
theorem mr_split : MtR X "str.split" (LMt G mSplit) := by
  intro pins s σ H x xs v us Q I rx rs h
  obtain ⟨al, M, d, ds, R, m, r1, r2, g, c⟩ := h
  rcases ds with _ | ⟨y, _ | ⟨z, t⟩⟩
  · cases d <;> exact (g : False).elim
  · cases d with
    | str a =>
      cases y with
      | str b =>
        obtain ⟨⟨h1, h2⟩, g⟩ := (g : _ ∧ _)
        obtain ⟨w, rfl, rw1⟩ := rd1 r2
        rw [RDat] at r1; rw [RDat] at rw1; subst r1 rw1
        refine mt_split pins s σ H _ _ v us Q I rx rs ⟨a, b, rfl, rfl, h1, h2, fun p hp => ?_⟩
        have n := m.new (o := .lst ((Txt.split a b).map D.str)) (u := .lst ((Txt.split a b).map V.str)) hp ⟨_, rfl, rstrs _⟩
        exact c _ _ _ _ _ n (rdat_new m.len) g
      | _ => exact (g : False).elim
    | _ => cases y <;> exact (g : False).elim
  · cases d <;> cases y <;> exact (g : False).elim
/-! ### str(x) -/
def cnStr : OpN := fun ds M R => match ds with
  | [.int i] => i.natAbs.log2 < 1920 ∧ R (.str (toString i)) M
  | [.str x] => R (.str x) M
  | _ => False
theorem cr_str : CallR X (.type "str") (LCall G cnStr) := by
  intro pins s σ H xs us Q I r h
  obtain ⟨al, M, ds, R, m, r1, g, c⟩ := h
  cases ds with
  | nil => exact (g : False).elim
  | cons d t =>
    cases t with
    | cons _ _ => cases d <;> exact (g : False).elim
    | nil =>
      obtain ⟨v, rfl, r2⟩ := rd1 r1
      cases d with
      | int i => obtain ⟨hz, g⟩ := (g : _ ∧ _); rw [RDat] at r2; subst r2; exact call_str_int pins s σ H _ us Q I r ⟨i, rfl, hz, c _ _ _ _ _ m.go (by rw [RDat]) g⟩
      | str i => rw [RDat] at r2; subst r2; exact SkE.call_str_str pins s σ H _ us Q I r ⟨i, rfl, c _ _ _ _ _ m.go (by rw [RDat]) g⟩
      | _ => exact (g : False).elim
/-! ### sorted(list) of ints, of texts, of other plain values that are alike -/
/-- x < y of alike plain values -/
abbrev ltD (x y : D) : Bool := PySem.W.dataLt (toPy x) (toPy y)
def sortOk (xs : List D) : Prop := xs.length ≤ sizeLine ∧ norefs xs = true ∧ PySem.W.AllAlike (xs.map toPy) ∧ PySem.W.Sortable (xs.map toPy) ∧ ∀ d ∈ xs, (toPy d).depth ≤ 60
def sortK (xs : List D) (R : List D → Prop) : Prop := match intsD xs with
  | some ns => ∀ ms : List Int, ms.Perm ns → ms.Pairwise (· ≤ ·) → R (ms.map D.int)
  | none => match strsD xs with
    | some ys => ys.length < 64 ∧ ∀ zs : List Str, zs.Perm ys → PyProof.Rows.sortedS zs = true → R (zs.map D.str)
    | none => sortOk xs ∧ ∀ zs : List D, zs.Perm xs → zs.Pairwise (fun a b => ltD b a = false) → R zs
theorem eachIs_vals : ∀ {ys : List V} {its : List Value} {xs : List D}, Vals ys its → ys.length = xs.length → PySem.W.EachIs (fun (v : Value) (b : V × D) => RelV b.1 v) its (ys.zip xs)
  | _, _, [], .nil, _ => .nil
  | _, _, x :: xs, .cons h t, e => .cons h (eachIs_vals t (by simpa using e))
theorem vals_eachIs : ∀ {its : List Value} {bs : List (V × D)}, PySem.W.EachIs (fun (v : Value) (b : V × D) => RelV b.1 v) its bs → Vals (bs.map Prod.fst) its
  | _, _, .nil => .nil
  | _, _, .cons h t => .cons h (vals_eachIs t)
theorem rdats_len {K : PySem.W.Frag} {H : Hp} {al : List Addr} : ∀ {xs : List D} {ys : List V}, RDats K H al xs ys → ys.length = xs.length
  | [], _, h => by rw [RDats] at h; subst h; rfl
  | x :: xs, _, h => by
    rw [RDats] at h
    obtain ⟨v, r, rfl, h1, h2⟩ := h
    simp [rdats_len h2]
theorem rdats_zip {K : PySem.W.Frag} {H : Hp} {al : List Addr} : ∀ {xs : List D} {ys : List V}, RDats K H al xs ys → ∀ b ∈ ys.zip xs, RDat K H al b.2 b.1
  | [], _, h, b, hb => by rw [RDats] at h; subst h; simp at hb
  | x :: xs, _, h, b, hb => by
    rw [RDats] at h
    obtain ⟨v, r, rfl, h1, h2⟩ := h
    rw [List.zip_cons_cons] at hb
    rcases List.mem_cons.mp hb with rfl | hb
    · exact h1
    · exact rdats_zip h2 b hb
theorem rdats_of {K : PySem.W.Frag} {H : Hp} {al : List Addr} : ∀ {bs : List (V × D)}, (∀ b ∈ bs, RDat K H al b.2 b.1) → RDats K H al (bs.map Prod.snd) (bs.map Prod.fst)
  | [], _ => RDats.nil
  | b :: bs, h => RDats.cons (h b (List.mem_cons_self ..)) (rdats_of fun c hc => h c (List.mem_cons_of_mem _ hc))
theorem norefs_mem : ∀ {xs : List D}, norefs xs = true → ∀ d ∈ xs, noref d = true
  | [], _, d, hd => by simp at hd
  | x :: xs, h, d, hd => by
    simp only [norefs, Bool.and_eq_true] at h
    rcases List.mem_cons.mp hd with rfl | hd
    · exact h.1
    · exact norefs_mem h.2 d hd
theorem each_reads {pins : List (Addr × Obj)} {s : Shared} {σ : St} {H : Hp} {al : List Addr} (I : Inv X pins σ H s) : ∀ {ys : List V} {its : List Value} {xs : List D}, Vals ys its → RDats X.K H al xs ys → norefs xs = true → PySem.W.EachIs (fun (v : Value) (b : V × D) => ∃ as, Reads s.heap v (toPy b.2) as) its (ys.zip xs)
  | _, _, [], .nil, _, _ => .nil
  | _, _, [], .cons _ _, h, _ => by rw [RDats] at h; cases h
  | _, _, x :: xs, .nil, h, _ => by
    rw [RDats] at h
    obtain ⟨v, r, e, h1, h2⟩ := h
    cases e
  | _, _, x :: xs, .cons r t, h, n => by
    rw [RDats] at h
    obtain ⟨v, w, e, h1, h2⟩ := h
    obtain ⟨rfl, rfl⟩ := List.cons.inj e
    simp only [norefs, Bool.and_eq_true] at n
    exact .cons (Dp.reads I _ _ _ (dp_of h1 n.1) r) (each_reads I t h2 n.2)
theorem sorted_dat (hu : X.A.units + 65 < cLine) {pins : List (Addr × Obj)} {s : Shared} {σ : St} {H : Hp} {a : Addr} {ys : List V} {xs : List D} {al : List Addr} {Q : VK} {us : List Value} (I : Inv X pins σ H s) (r : Vals [V.ref a] us) (hs : SqL X.K H a ys) (hx : RDats X.K H al xs ys) (ok : sortOk xs)
    (k : ∀ (zs : List D) (ws : List V) (p : Addr), zs.Perm xs → zs.Pairwise (fun a b => ltD b a = false) → RDats X.K H al zs ws → H p = none → Q (.ref p) (upd H p (.lst ws))) : wpAny (model X.prog X.w) X.A (call (.builtin "sorted") us) (EP X pins σ Q) X.xe s := by
  obtain ⟨hl0, hn, hal, hso, hd⟩ := ok
  obtain ⟨its, rv, hl, hz⟩ := I.list hs
  rw [Vals.ref1 r]
  have hly := rdats_len hx
  have hmap : (ys.zip xs).map (fun b : V × D => toPy b.2) = xs.map toPy := by
    rw [show (fun b : V × D => toPy b.2) = toPy ∘ Prod.snd from rfl, ← List.map_map, List.map_snd_zip (by omega)]
  refine PySem.W.sorted_data (enc := fun b : V × D => toPy b.2) hl.isList (eachIs_vals rv hly) (each_reads I rv hx hn) (by rw [hmap]; exact hal) (by rw [hmap]; exact hso) (by rw [List.length_zip]; omega) (fun b hb => ?_) fun out ho eo => ?_
  · have := hd b.2 (List.of_mem_zip hb).2
    omega
  · obtain ⟨ep, he'⟩ := PyProof.Rows.sortedAll_at s.heap its out.toArray
    have hp := List.mergeSort_perm (ys.zip xs) (PySem.W.dataLe false fun b : V × D => toPy b.2)
    have T := PySem.W.sortLe_total (PyProof.Rows.listOrd PyProof.Rows.itemOrd) false (fun b : V × D => PySem.W.keyToks (toPy b.2))
    have hw := List.pairwise_mergeSort (le := PySem.W.dataLe false fun b : V × D => toPy b.2) T.trans (fun a b => by have := T.total a b; rw [Bool.or_eq_true]; exact this) (ys.zip xs)
    have rv' := vals_eachIs eo
    have hlen : (((ys.zip xs).mergeSort (PySem.W.dataLe false fun b : V × D => toPy b.2)).map Prod.fst).length ≤ sizeLine := by
      rw [List.length_map, hp.length_eq, List.length_zip]; omega
    refine ⟨.ref _, upd H (s.heap.objs.size + 1) (.lst _), I.laid (t' := s.toks) (fun _ _ => PyProof.Rows.sortedAll_old) (Nat.le_succ _) ⟨hlen, out, ep, rv', he'⟩, rfl,
      k (((ys.zip xs).mergeSort (PySem.W.dataLe false fun b : V × D => toPy b.2)).map Prod.snd) _ _ ?_ ?_ ?_ (I.hok.fresh (Nat.le_succ _))⟩
    · have q := hp.map Prod.snd
      rwa [List.map_snd_zip (by omega)] at q
    · rw [List.pairwise_map]
      refine hw.imp fun {a b} h => ?_
      rw [PySem.W.dataLe_eq] at h
      simpa using h
    · exact rdats_of fun b hb => rdats_zip hx b (hp.mem_iff.mp hb)
def cnSorted : OpN := fun ds M R => match ds with
  | [.ref n] => match lstAt M n with | some xs => sortK xs fun zs => R (.ref M.length) (M ++ [.lst zs]) | none => False
  | _ => False
theorem cr_sorted1 (hK : X.K = G.K) (hu : X.A.units + 65 < cLine) : CallR X (.builtin "sorted") (LCall G cnSorted) := by
  intro pins s σ H xs us Q I r h
  obtain ⟨al, M, ds, R, m, r1, g, c⟩ := h
  cases ds with
  | nil => exact (g : False).elim
  | cons d t =>
    cases t with
    | cons _ _ => cases d <;> exact (g : False).elim
    | nil =>
      obtain ⟨v, rfl, r2⟩ := rd1 r1
      cases d with
      | ref n =>
        have g : (match lstAt M n with | some xs => sortK xs fun zs => R (.ref M.length) (M ++ [.lst zs]) | none => False) := g
        cases el : lstAt M n with
        | none => simp [el] at g
        | some ys =>
          simp only [el] at g
          obtain ⟨a, vs, rfl, s1, l1⟩ := m.seq r2 el
          unfold sortK at g
          cases ei : intsD ys with
          | some ns =>
            simp only [ei] at g
            have e := intsD_rel l1 ei
            subst e
            refine cr_sortedI pins s σ H _ us Q I r ⟨a, ns, rfl, by rw [hK]; exact s1, fun ms p hp hw hn => ?_⟩
            have n := m.new (o := .lst (ms.map D.int)) (u := .lst (ms.map V.int)) hn ⟨_, rfl, rintsV _⟩
            exact c _ _ _ _ _ n (rdat_new m.len) (g ms hp hw)
          | none =>
            cases es : strsD ys with
            | none =>
              simp only [ei, es] at g
              obtain ⟨ok, g⟩ := g
              refine sorted_dat hu I r (by rw [hK]; exact s1) (by rw [hK]; exact l1) ok fun zs ws p hp hw hr hn => ?_
              have n := m.new (o := .lst zs) (u := .lst ws) hn ⟨_, rfl, by rw [hK] at hr; exact hr⟩
              exact c _ _ _ _ _ n (rdat_new m.len) (g zs hp hw)
            | some ns =>
              simp only [ei, es] at g
              obtain ⟨h64, g⟩ := g
              have e := strsD_rel l1 es
              subst e
              refine cr_sortedS pins s σ H _ us Q I r ⟨a, ns, rfl, by rw [hK]; exact s1, h64, fun ms p hp hw hn => ?_⟩
              have n := m.new (o := .lst (ms.map D.str)) (u := .lst (ms.map V.str)) hn ⟨_, rfl, rstrs _⟩
              exact c _ _ _ _ _ n (rdat_new m.len) (g ms hp hw)
      | _ => exact (g : False).elim
/-! ### max of three ints -/
def cnMax3 : OpN := fun ds M R => match ds with
  | [.int i, .int j, .int k] => R (.int (if j > i then (if k > j then k else j) else (if k > i then k else i))) M
  | _ => False
theorem cr_max3 (hc : X.calm = true) : CallR X (.builtin "max") (LCall G cnMax3) := by
  intro pins s σ H xs us Q I r h
  obtain ⟨al, M, ds, R, m, r1, g, c⟩ := h
  have g : cnMax3 ds M R := g
  obtain ⟨i, j, k, rfl, g⟩ : ∃ i j k, ds = [.int i, .int j, .int k] ∧ R (.int (if j > i then (if k > j then k else j) else (if k > i then k else i))) M := by
    unfold cnMax3 at g
    split at g
    · exact ⟨_, _, _, rfl, g⟩
    · cases g
  have e : xs = [.int i, .int j, .int k] := by
    rw [RDats] at r1
    obtain ⟨v, w, rfl, a1, r1⟩ := r1
    rw [RDats] at r1
    obtain ⟨v2, w2, rfl, a2, r1⟩ := r1
    rw [RDats] at r1
    obtain ⟨v3, w3, rfl, a3, r1⟩ := r1
    rw [RDats] at r1
    rw [RDat] at a1 a2 a3
    subst a1 a2 a3 r1
    rfl
  subst e
  cases r with
  | cons q1 r =>
    cases r with
    | cons q2 r =>
      cases r with
      | cons q3 r =>
        cases r
        obtain ⟨t1, rfl⟩ := q1
        obtain ⟨t2, rfl⟩ := q2
        obtain ⟨t3, rfl⟩ := q3
        refine PySem.max_three_ints (I.ok.hd hc) fun h' tk kk => ⟨.int (if j > i then (if k > j then k else j) else (if k > i then k else i)), H, I.kept kk, ?_, c _ _ _ _ _ m.go (by rw [RDat]) g⟩
        by_cases h1 : j > i
        · by_cases h2 : k > j
          · rw [if_pos h1, if_pos h2, if_pos h1, if_pos h2]; exact ⟨_, rfl⟩
          · rw [if_pos h1, if_neg h2, if_pos h1, if_neg h2]; exact ⟨_, rfl⟩
        · by_cases h2 : k > i
          · rw [if_neg h1, if_pos h2, if_neg h1, if_pos h2]; exact ⟨_, rfl⟩
          · rw [if_neg h1, if_neg h2, if_neg h1, if_neg h2]; exact ⟨_, rfl⟩
end
end DN

set_option maxHeartbeats 4000000
/-! xs[::-1] of tuples and lists -/
namespace DN
open PySem PySem.Spec PyProof.Rows L2 HT
section
variable {prog : Program} {w : World} {A : Around} {E : Value → Shared → Prop} {s : Shared}
theorem adj_back (n : Nat) : Builtin.Slice.sliceAdjust none none (-1) (n : Int) = ((n : Int) - 1, -1) := rfl
theorem places_back (n : Nat) : Builtin.Slice.slicePlaces ((n : Int) - 1) (-1) (-1) = n := by
  unfold Builtin.Slice.slicePlaces
  have a : ¬ ((-1 : Int) > 0) := by decide
  rw [if_neg a]
  by_cases b : (n : Int) - 1 > -1
  · rw [if_pos b, show (- -1 : Int) = 1 by decide, Int.ediv_one]
    omega
  · rw [if_neg b]
    omega
theorem fm_take {f : Nat → Option Value} {l : List Value} : ∀ n, n ≤ l.length → (∀ k, k < n → f k = l[k]?) → (List.range n).filterMap f = l.take n
  | 0, _, _ => rfl
  | n + 1, h, hf => by
    rw [List.range_succ, List.filterMap_append, fm_take n (by omega) fun k hk => hf k (by omega), List.take_add_one, List.getElem?_eq_getElem (by omega)]
    simp [hf n (by omega), List.getElem?_eq_getElem (show n < l.length by omega)]
theorem pick_back (xs : Array Value) : ((List.range xs.size).filterMap fun (k : Nat) => xs[(((xs.size : Int) - 1) + (k : Int) * (-1)).toNat]?).toArray = xs.toList.reverse.toArray := by
  congr 1
  rw [fm_take (l := xs.toList.reverse) xs.size (by simp) fun k h => ?_, List.take_of_length_le (by simp)]
  rw [List.getElem?_reverse (by simpa using h)]
  rw [show (((xs.size : Int) - 1) + (k : Int) * (-1)).toNat = xs.toList.length - 1 - k by simp; omega]
  simp
theorem applied_back {sl : Addr} {vl vu vs : Value} {n : Nat} {Q : Int × Int × Nat → Shared → Prop} (hs : s.heap.IsSliceOf sl vl vu vs) (pl : IsPart vl none) (pu : IsPart vu none) (ps : IsPart vs (some (-1)))
    (h : Q ((n : Int) - 1, -1, n) s) : wpAny (model prog w) A (Builtin.Slice.sliceApplied (.ref sl) (pure (n : Int))) Q E s := by
  obtain ⟨ob, got, cl, dat⟩ := id hs
  unfold Builtin.Slice.sliceApplied Builtin.Slice.sliceFields
  refine wpAny_bind (wpAny_bind (wpAny_field got dat (x := vl) rfl (wpAny_bind (wpAny_field got dat (x := vu) rfl (wpAny_bind (wpAny_field got dat (x := vs) rfl (wpAny_pure ?_)))))))
  refine wpAny_bind (slicePart_ ps ?_)
  show wpAny _ _ (if ((-1 : Int) == 0) = true then _ else _) _ _ s
  rw [if_neg (by decide)]
  refine wpAny_bind (slicePart_ pl (wpAny_bind (slicePart_ pu (wpAny_bind (wpAny_pure ?_)))))
  show wpAny _ _ (match Builtin.Slice.sliceAdjust none none (-1) (n : Int) with | (lo, hi) => pure (lo, (-1 : Int), Builtin.Slice.slicePlaces lo hi (-1))) _ _ s
  rw [adj_back n]
  show wpAny _ _ (pure ((n : Int) - 1, (-1 : Int), Builtin.Slice.slicePlaces ((n : Int) - 1) (-1) (-1))) _ _ s
  rw [places_back]
  exact wpAny_pure h
theorem tup_back {t sl : Addr} {its : Array Value} {vl vu vs : Value} {Q : Value → Shared → Prop} (ht : IsTup s.heap t its) (hs : s.heap.IsSliceOf sl vl vu vs) (pl : IsPart vl none) (pu : IsPart vu none) (ps : IsPart vs (some (-1)))
    (h : Q (.ref s.heap.objs.size) { s with heap := s.heap.push { cls := .type "tuple", data := .seq its.toList.reverse.toArray } }) (hz : its.size ≤ sizeLine) : wpAny (model prog w) A (getItem (.ref t) (.ref sl)) Q E s := by
  have fits : sizeOk (.seq its.toList.reverse.toArray) := by
    show its.toList.reverse.toArray.size ≤ sizeLine
    simpa using hz
  obtain ⟨ob, got, cl, dat⟩ := id hs
  have isS : s.TypeIs (.ref sl) "slice" := ⟨ob, got, cl⟩
  unfold getItem
  (try with_reducible refine wpAny_holding ?_); (first | refine wpAny_bind (wpAny_pure ?_) | skip)
  refine wpAny_bind (wpAny_sequenceKey (T := "tuple") ht.typeIs (by decide) ?_)
  refine wpAny_bind (wpAny_callSpecial?_slot (name := Str.ofString "__getitem__") ht.typeIs PyProof.Rows.slot_tuple_getitem (wpAny_call_entry PyProof.Rows.slot_tuple_getitem ht.typeIs entry_tuple_getitem ?_ (args_tuple_getitem _ _)))
  show wpAny _ _ (Builtin.Tuple.tupleItemsOf (.ref t) >>= _) _ _ s
  refine wpAny_bind (tupleItemsOf_ ht (wpAny_bind (wpAny_typeOf isS ?_)))
  rw [if_pos (by decide)]
  refine wpAny_bind (applied_back (n := its.size) hs pl pu ps ?_)
  show wpAny _ _ (if ((((its.size : Int) - 1) == 0) && (-1 : Int) == 1 && its.size == its.size) = true then _ else _) _ _ s
  rw [if_neg (by simp), pick_back]
  first
    | exact wpAny_bind (m := Builtin.Tuple.tupleExact _) (wpAny_newObj_type (wpAny_pure ⟨_, rfl, wpAny_pure h⟩) fits)
    | exact wpAny_bind (m := Builtin.Tuple.tupleExact _) (wpAny_newObj_type (wpAny_bind (wpAny_pure (wpAny_pure ⟨_, rfl, wpAny_pure h⟩))) fits)
    | exact wpAny_bind (wpAny_bind (m := Builtin.Tuple.tupleExact _) (wpAny_newObj_type (wpAny_pure (wpAny_pure ⟨_, rfl, wpAny_pure h⟩)) fits))
    | exact wpAny_bind (wpAny_bind (m := Builtin.Tuple.tupleExact _) (wpAny_newObj_type (wpAny_pure ⟨_, rfl, wpAny_pure h⟩) fits))
end
section
variable {X : Cx} {G : GC}
def tBack (K : PySem.W.Frag) (te : TE) : TE := fun σ H Q => te σ H fun x H1 => (∃ a xs, x = .ref a ∧ SqT K H1 a xs ∧ ∀ p, H1 p = none → Q (.ref p) (upd H1 p (.tup xs.reverse))) ∨ ∃ a xs, x = .ref a ∧ SqL K H1 a xs ∧ ∀ p, H1 p = none → Q (.ref p) (upd H1 p (.lst xs.reverse))
theorem pe_back {e : Expr} {te : TE} {k : Nat} {p1 p2 p3 pos : Pos} (he : PE X e te) : PE X (.Subscript e (.Slice none none (some (.UnaryOp .USub (.Constant (.int 1) k p1) p2)) p3) pos) (tBack X.K te) := by
  refine ⟨fun pins s σ H Q I h => ?_⟩
  refine Subscript_ (thn (he.run pins s σ H _ I h) fun v s1 ⟨x, H1, I1, r1, q1⟩ => ?_)
  have stp : PO X (some (.UnaryOp .USub (.Constant (.int 1) k p1) p2)) (tPart (tUn (rU fun i => .int (-i)) (tC (.int 1)))) := po_some (pe_un un_neg pe_int)
  refine wpAny_Slice (thn (po_none.run pins s1 σ H1 (fun o H2 => o = none ∧ H2 = H1) I1 ⟨rfl, rfl⟩) fun vl s2 ⟨l, H2, I2, pl, el, e2⟩ => ?_)
  subst el e2
  refine thn (po_none.run pins s2 σ H2 (fun o H3 => o = none ∧ H3 = H2) I2 ⟨rfl, rfl⟩) fun vu s3 ⟨u, H3, I3, pu, eu, e3⟩ => ?_
  subst eu e3
  refine thn (stp.run pins s3 σ H3 (fun o H4 => o = some (-1) ∧ H4 = H3) I3 ⟨1, rfl, -1, rfl, rfl, rfl⟩) fun vs s4 ⟨o, H4, I4, ps, eo, e4⟩ => ?_
  subst eo e4
  have I5 : Inv X pins σ H4 { s4 with heap := s4.heap.push { cls := .type "slice", data := .fields #[vl, vu, vs] } } := I4.kept (t' := s4.toks) fun _ _ z => Heap.get?_push_of_some _ z
  rcases q1 with ⟨a, xs, ex, hx, q⟩ | ⟨a, xs, ex, hx, q⟩
  · subst ex
    cases r1
    obtain ⟨its, r, ht, hz⟩ := I5.tuple hx
    have len := r.length
    show wpAny (model X.prog X.w) X.A (subscriptTail e (.Slice none none (some (.UnaryOp .USub (.Constant (.int 1) k p1) p2)) p3) (.ref a) (.ref s4.heap.objs.size)) (EP X pins σ Q) X.xe _
    refine tail_any (ops := [.ref a, .ref s4.heap.objs.size]) ht.typeIs (PyProof.Rows.slot_tuple_getitem.lookup) ?_ (by with_unfolding_all rfl)
    refine tup_back ht (Heap.IsSliceOf.new _ vl vu vs) pl pu ps ?_ (by rw [List.size_toArray]; omega)
    have put := I5.laid (t' := s4.toks) (o := .tup xs.reverse) (fun _ _ z => Heap.get?_push_of_some _ z) (Nat.le_refl _) ⟨by rw [List.length_reverse]; exact hz, _, r.reverse, IsTup.new _ _⟩
    exact ⟨.ref _, _, put, rfl, q _ (I5.hok.fresh (Nat.le_refl _))⟩
  · subst ex
    cases r1
    obtain ⟨its, r, ht, hz⟩ := I5.list hx
    have len := r.length
    show wpAny (model X.prog X.w) X.A (subscriptTail e (.Slice none none (some (.UnaryOp .USub (.Constant (.int 1) k p1) p2)) p3) (.ref a) (.ref s4.heap.objs.size)) (EP X pins σ Q) X.xe _
    refine tail_any (ops := [.ref a, .ref s4.heap.objs.size]) ht.isList.typeIs (PySem.slot_list_getitem.lookup) ?_ (by with_unfolding_all rfl)
    refine wpAny_getItem_list_slice ht.isList (Heap.IsSliceOf.new _ vl vu vs) pl pu ps (by decide) ?_ (by rw [List.size_toArray]; omega)
    rw [PySem.W.krv_pick]
    have put := I5.laid (t' := s4.toks) (o := .lst xs.reverse) (fun _ _ z => Heap.get?_push_of_some _ z) (Nat.le_refl _) ⟨by rw [List.length_reverse]; exact hz, _, 0, r.reverse, Heap.get?_push_size _ rfl⟩
    exact ⟨.ref _, _, put, rfl, q _ (I5.hok.fresh (Nat.le_refl _))⟩
def eRev (ta : SE) : SE := fun Ex ρ M R => ta Ex ρ M fun d M1 => match d with
  | .tup xs => R (.tup xs.reverse) M1
  | .ref n => match lstAt M1 n with | some xs => R (.ref M1.length) (M1 ++ [.lst xs.reverse]) | none => False
  | _ => False
theorem rev_rel {K : PySem.W.Frag} {H : Hp} {al : List Addr} : ∀ {ds : List D} {vs : List V}, RDats K H al ds vs → RDats K H al ds.reverse vs.reverse
  | [], vs, r => by
    rw [RDats] at r; subst r
    exact (by rw [List.reverse_nil, List.reverse_nil, RDats])
  | d :: ds, vs, r => by
    rw [RDats] at r
    obtain ⟨v, r', e, h, t⟩ := r
    subst e
    have ih := rev_rel t
    rw [List.reverse_cons, List.reverse_cons]
    exact ih.append (by rw [RDats]; exact ⟨v, [], rfl, h, by rw [RDats]⟩)
theorem me_rev {a : Expr} {ta : SE} {k : Nat} {p1 p2 p3 pos : Pos} (hK : X.K = G.K) (ha : ME X G a ta) : ME X G (.Subscript a (.Slice none none (some (.UnaryOp .USub (.Constant (.int 1) k p1) p2)) p3) pos) (eRev ta) := by
  refine fun W tk => PE.imp (pe_back (ha W tk)) fun σ H Q h => ?_
  obtain ⟨ρ, al, M, Ex, R, r, t, c, xc⟩ := h
  refine ⟨ρ, al, M, Ex, _, r, t, fun H1 al1 M1 v d n1 r1 h1 => ?_, xc⟩
  cases d with
  | tup xs =>
    rw [RDat] at r1
    obtain ⟨a, vs, rfl, s1, l1⟩ := r1
    refine .inl ⟨a, vs, rfl, by rw [hK]; exact s1, fun p hp => ?_⟩
    have n2 := n1.m.tup (vs := vs.reverse) hp
    exact c _ _ _ _ _ (n1.trans n2) (RDat.tup_of (SqT.of upd_same) ((rev_rel l1).mono n2.k n2.p)) h1
  | ref n =>
    have h1 : (match lstAt M1 n with | some xs => R (.ref M1.length) (M1 ++ [.lst xs.reverse]) | none => False) := h1
    cases el : lstAt M1 n with
    | none => simp [el] at h1
    | some xs =>
      simp only [el] at h1
      obtain ⟨a, vs, rfl, s1, l1⟩ := n1.m.seq r1 el
      refine .inr ⟨a, vs, rfl, by rw [hK]; exact s1, fun p hp => ?_⟩
      have n2 := n1.m.new (o := .lst xs.reverse) (u := .lst vs.reverse) hp ⟨_, rfl, rev_rel l1⟩
      exact c _ _ _ _ _ (n1.trans n2) (rdat_new n1.m.len) h1
  | _ => exact (h1 : False).elim
/-! ### reversed(range(n)) -/
def revD (n : Nat) : List D := (List.range n).map fun i => .int ((n : Int) - 1 - (i : Nat))
theorem revD_get {n i : Nat} {d : D} (h : (revD n)[i]? = some d) : i < n ∧ d = .int ((n : Int) - 1 - (i : Nat)) := by
  unfold revD at h
  rw [List.getElem?_map] at h
  cases e : (List.range n)[i]? with
  | none => rw [e] at h; cases h
  | some j =>
    rw [e] at h; cases h
    obtain ⟨h1, h2⟩ := List.getElem?_eq_some_iff.mp e
    rw [List.length_range] at h1
    rw [List.getElem_range] at h2
    exact ⟨h1, by rw [h2]⟩
theorem revD_len {n : Nat} : (revD n).length = n := by unfold revD; rw [List.length_map, List.length_range]
theorem itr_rev {H : Hp} {al : List Addr} {j : Int} : ItR G H al (Itc (0 + (((j - 0).toNat : Nat) : Int) - 1) (-1) (j - 0).toNat) ⟨revD j.toNat, fun _ => True⟩ := by
  intro i H' al' M' nx _
  rw [Int.sub_zero]
  refine ⟨fun d hd => ?_, fun hl => (by show j.toNat ≤ i; have : (revD j.toNat).length = i := hl; rw [revD_len] at this; omega)⟩
  obtain ⟨h1, rfl⟩ := revD_get hd
  refine ⟨h1, fun x H2 y => ?_⟩
  obtain ⟨rfl, rfl⟩ := y
  exact ⟨nx.m.go, by rw [RDat]; exact congrArg V.int (by omega)⟩
def iRevR1 (te : SE) : SI := fun Ex ρ M R => te Ex ρ M fun d M1 => match d with
  | .int j => (-(2 ^ 62) ≤ j ∧ j < 2 ^ 62) ∧ R ⟨revD j.toNat, fun _ => True⟩ M1
  | _ => False
theorem mi_rev {tg a : Expr} {ta : SE} {p p2 pos pos2 : Pos} (hg : Gl X "range") (hm : X.mg "range" = none) (hg2 : Gl X "reversed") (hm2 : X.mg "reversed" = none) (ha : ME X G a ta) (hs : starEach [a] X.env = (false, eval a X.env) :: starEach [] X.env) :
    MI X G tg (.Call (.Name "reversed" p2) [.Call (.Name "range" p) [a] [] pos] [] pos2) (iRevR1 ta) := by
  refine fun W tk => PI.imp (pi_revR hg2 hm2 (prg_1 hg hm (ha W tk) hs) rfl) fun σ H Q h => ?_
  obtain ⟨ρ, al, M, Ex, R, r, t, c, xc⟩ := h
  refine ⟨ρ, al, M, Ex, _, r, t, fun H1 al1 M1 v d n1 r1 h1 => ?_, xc⟩
  cases d with
  | int j =>
    obtain ⟨⟨h2, h3⟩, h1⟩ := (h1 : _ ∧ _)
    rw [RDat] at r1; subst r1
    exact ⟨j, rfl, by decide, by decide, h2, h3, c _ _ _ _ _ n1 itr_rev h1⟩
  | _ => exact (h1 : False).elim
end
end DN

set_option maxHeartbeats 4000000
/-! from the text to its reading, by computation; the reading is right -/
namespace DN
open PySem PySem.Spec L2

inductive GE where
  | const (d : D)
  | fn (k np : Nat) (F : Fn)
  | fnH (k np : Nat) (F : Fn)
  | blt
  | exc (fl : List Str) (k : Nat) (tab : List (Str × Bool))
  | exc0 (tab : List (Str × Bool))
  | cls (tab : List (Str × Bool))
  | clsB (T : String) (tab : List (Str × Bool))
structure SEnv where
  names : List (Str × NameKind)
  N : List Str
  fnall : Bool
  fnl : List Str
  lv : Nat
  Γ : List (Str × GE)
  xi : Option Nat
  hot : Bool := false
  top : Bool := false
  xx : Option Exn := none
  flds : List Str := []
def GEok (G : GC) (x : Str) : GE → Prop
  | .const d => ∃ u v, G.mg x = some u ∧ RelV v u ∧ ∀ H al, RDat G.K H al d v
  | .fn k np F => ∃ f fd ps, ps.length = np ∧ G.mg x = some (.ref f) ∧ PySem.W.keepIn G.K (.ref f) = true ∧ FnOk G.P G.w G.K G.mg G.base (CX G.P G.w) k f fd ps (LSp G F np) ∧ Binds G.K fd ps []
  | .fnH k np F => ∃ f fd ps, ps.length = np ∧ G.mg x = some (.ref f) ∧ PySem.W.keepIn G.K (.ref f) = true ∧ FnOk G.P G.w G.K G.mg G.base (CX G.P G.w) k f fd ps (LSp G F np) ∧ L2H.FnH G.P G.w G.K G.mg G.base (CX G.P G.w) k f fd ps (LSp G F np) ∧ Binds G.K fd ps []
  | .blt => G.mg x = none
  | .exc fl k tab => ExcK G x fl k ∧ ∃ C, G.mg x = some (.ref C) ∧ ClsK G (.ref C) tab
  | .exc0 tab => Exc0 G x ∧ ∃ C, G.mg x = some (.ref C) ∧ ClsK G (.ref C) tab
  | .cls tab => ∃ C, G.mg x = some (.ref C) ∧ ClsK G (.ref C) tab
  | .clsB T tab => G.mg x = none ∧ bootBuiltins x = some (.type T) ∧ x ≠ "__name__" ∧ ClsK G (.type T) tab
def GOk (G : GC) (Γ : List (Str × GE)) : Prop := ∀ x ge, Γ.lookup x = some ge → GEok G x ge
def GAll (G : GC) (Γ : List (Str × GE)) : Prop := ∀ x ge, (x, ge) ∈ Γ → GEok G x ge
theorem GAll.ok {G : GC} {Γ : List (Str × GE)} (h : GAll G Γ) : GOk G Γ := fun x ge e => h x ge (by
  induction Γ with
  | nil => simp at e
  | cons p r ih =>
    obtain ⟨y, v⟩ := p
    rw [List.lookup_cons] at e
    split at e
    · rename_i h1
      cases e
      rw [beq_iff_eq.mp h1]; simp
    · exact List.mem_cons_of_mem _ (ih (fun x ge hm => h x ge (List.mem_cons_of_mem _ hm)) e))
structure Good (X : Cx) (G : GC) (S : SEnv) : Prop where
  P : X.prog = G.P
  w : X.w = G.w
  K : X.K = G.K
  mg : X.mg = G.mg
  base : X.base = G.base
  kind : X.env.scope.kind = .function
  names : X.env.scope.names = S.names
  N : X.N = S.N
  nd : S.N.Nodup
  calm : S.hot = false → X.calm = true
  room : S.hot = false → Room S.lv X.A
  hotc : S.hot = true → L2H.HotC X
  roomH : S.hot = true → L2H.RoomH S.lv X.A
  un : X.A.units + 65 < cLine
  fn : ∀ x, (S.fnall || S.fnl.contains x) = true → X.fn x = true
  xn : ∀ n, G.xn = some n → S.xi = some n.i
  all : GAll G S.Γ
  cold : S.hot = false → G.xn = none
  xx : ∀ x, S.xx = some x → ∃ m, G.xn = some m ∧ m.x = x ∧ S.xi = some m.i
  su : Suite X G
  xf : ∀ n C, G.cm n = some C → XfK G.K C S.flds
  st : S.top = true → X.stack = X.env :: X.outer ∧ X.env.frame = some X.env.locals

theorem Good.g {X : Cx} {G : GC} {S : SEnv} (g : Good X G S) : GOk G S.Γ := g.all.ok
structure Rec where
  e : SEnv → Expr → Option SE
  c : SEnv → Expr → Option SC
  s : SEnv → Stmt → Option SS
structure RecOk (r : Rec) : Prop where
  e : ∀ {X G S e t}, Good X G S → r.e S e = some t → ME X G e t
  c : ∀ {X G S e t}, Good X G S → r.c S e = some t → MC X G e t
  s : ∀ {X G S e t}, Good X G S → PassesOwn (model X.prog X.w) X.A X.env X.xe → r.s S e = some t → MS X G e t

/-! ### facts of the syntax -/
def notStar : Expr → Bool | .Starred _ _ => false | _ => true
def notSet : Expr → Bool | .Set _ _ _ => false | _ => true
def notSlice : Expr → Bool | .Slice _ _ _ _ => false | _ => true
def notComp : Expr → Bool | .ListComp _ _ _ _ => false | .SetComp _ _ _ _ => false | .DictComp _ _ _ _ _ => false | _ => true
def notTup : Expr → Bool | .Tuple _ _ _ => false | _ => true
def notCall : Expr → Bool | .Call _ _ _ _ => false | _ => true
def notTest : Expr → Bool | .UnaryOp .Not _ _ => false | .BoolOp _ _ _ => false | .IfExp _ _ _ _ => false | .Compare _ _ _ _ => false | _ => true
theorem star_cons {a : Expr} {es : List Expr} {env : PySem.Env} (h : notStar a = true) : starEach (a :: es) env = (false, eval a env) :: starEach es env := by
  cases a <;> first | rfl | contradiction
theorem star_any {env : PySem.Env} {pos : Pos} : ∀ {es : List Expr}, es.all notStar = true → (backTo pos (starEach es env)).any (·.1) = false
  | [], _ => rfl
  | a :: es, h => by
    simp only [List.all_cons, Bool.and_eq_true] at h
    rw [star_cons h.1]
    exact star_any (es := es) h.2
theorem star_all {env : PySem.Env} {pos : Pos} : ∀ {es : List Expr}, es.all notStar = true → (backTo pos (starEach es env)).all (fun x => !x.1) = true
  | [], _ => rfl
  | a :: es, h => by
    simp only [List.all_cons, Bool.and_eq_true] at h
    rw [star_cons h.1]
    exact star_all (es := es) h.2
theorem attr_plain {o : Expr} {m : Str} {env : PySem.Env} (h : notCall o = true) : attributeBase o m env (eval o env) = eval o env := by
  cases o <;> first | rfl | contradiction
theorem mark_no {b : Expr} {op : CmpOp} (h : notSet b = true) : behindInMarks op b = false := by
  cases b <;> first | rfl | contradiction
theorem ix_plain {b : Expr} (h : notSlice b = true) : PlainIx b := by
  intro o i
  cases b <;> first | rfl | contradiction
theorem fold_plain {b : Expr} {env : PySem.Env} (h : notSet b = true) : ∀ x, foldedSetIterable b env x = pure x := by
  intro x
  cases b <;> first | rfl | contradiction
theorem sw_plain {e : Expr} {tg : Option Expr} {l : Nat} {env : PySem.Env} (h : notComp e = true) : swapsWith e tg l env = pure false := by
  cases e <;> first | rfl | contradiction
theorem stores_plain {ts : List Expr} {e : Expr} {env : PySem.Env} (h : notTup e = true) : swappedStores ts e env = pure none := by
  unfold swappedStores
  cases e <;> first | contradiction | (rcases ts with _ | ⟨t, _ | ⟨t2, r⟩⟩ <;> first | rfl | (cases t <;> rfl))
theorem true_plain {e : Expr} {env : PySem.Env} (h : notTest e = true) : ∀ whole, isTrue e env whole = (do let v ← whole; standAt e.pos; holding [v] (truthy v)) := by
  intro whole
  cases e <;> first | rfl | contradiction | (rename_i op _ _; cases op <;> first | rfl | contradiction)
theorem each_cons {a : Expr} {es : List Expr} {env : PySem.Env} (h : notStar a = true) : assignEach (a :: es) env = (false, assign a env) :: assignEach es env := by
  cases a <;> first | rfl | contradiction
theorem each_len {env : PySem.Env} : ∀ {es : List Expr}, es.all notStar = true → (assignEach es env).length = es.length ∧ (assignEach es env).findIdx? (·.1) = none
  | [], _ => ⟨rfl, rfl⟩
  | a :: es, h => by
    simp only [List.all_cons, Bool.and_eq_true] at h
    obtain ⟨h1, h2⟩ := each_len (env := env) (es := es) h.2
    rw [each_cons h.1]
    refine ⟨by rw [List.length_cons, List.length_cons, h1], ?_⟩
    rw [List.findIdx?_cons, h2]
    rfl

/-! ### names -/
def okNm (x : Str) : Bool := !(x == ("__debug__" : Str)) && !(x == ("__classdict__" : Str)) && !(x == ("__name__" : Str))
def idx (S : SEnv) (x : Str) : Option Nat := S.N.findIdx? (· == x)
def visK (S : SEnv) (x : Str) : Bool := match S.names.lookup x with | some .local => true | some .cell => true | some .free => true | _ => false
def locK (S : SEnv) (x : Str) : Bool := match S.names.lookup x with | some .local => true | some .cell => true | _ => false
def glbK (S : SEnv) (x : Str) : Bool := match S.names.lookup x with | some .globalImplicit => true | _ => false
def stoK (S : SEnv) (x : Str) : Bool := (S.fnall || S.fnl.contains x) || (match S.names.lookup x with | some .local => true | _ => false)
section
variable {X : Cx} {G : GC} {S : SEnv}
theorem idx_get {x : Str} {i : Nat} (h : idx S x = some i) : S.N[i]? = some x := by
  unfold idx at h
  obtain ⟨hl, e, _⟩ := List.findIdx?_eq_some_iff_getElem.mp h
  rw [List.getElem?_eq_getElem hl, beq_iff_eq.mp e]
theorem Good.vis (g : Good X G S) {x : Str} (h : visK S x = true) : Vis X.env.scope x := by
  unfold visK at h
  unfold Vis
  rw [g.names]
  cases e : S.names.lookup x with
  | none => rw [e] at h; cases h
  | some k => rw [e] at h; cases k <;> first | contradiction | simp
theorem Good.loc (g : Good X G S) {x : Str} (h : locK S x = true) : L2.Loc X.env.scope x := by
  unfold locK at h
  unfold L2.Loc
  rw [g.names]
  cases e : S.names.lookup x with
  | none => rw [e] at h; cases h
  | some k => rw [e] at h; cases k <;> first | contradiction | simp
theorem Good.gl (g : Good X G S) {x : Str} (h : glbK S x = true) : Gl X x := by
  unfold glbK at h
  show X.env.scope.names.lookup x = _
  rw [g.names]
  cases e : S.names.lookup x with
  | none => rw [e] at h; cases h
  | some k => rw [e] at h; cases k <;> first | contradiction | rfl
theorem Good.sto (g : Good X G S) {x : Str} (h : stoK S x = true) : X.fn x = true ∨ X.env.scope.names.lookup x = some .local := by
  unfold stoK at h
  rw [g.names]
  rcases Bool.or_eq_true_iff.mp h with h | h
  · exact .inl (g.fn x h)
  · refine .inr ?_
    cases e : S.names.lookup x with
    | none => rw [e] at h; cases h
    | some k => rw [e] at h; cases k <;> first | contradiction | rfl
theorem okNm1 {x : Str} (h : okNm x = true) : (x == ("__debug__" : Str)) = false := by
  unfold okNm at h; simp only [Bool.and_eq_true, Bool.not_eq_true'] at h; exact h.1.1
theorem okNm2 {x : Str} (h : okNm x = true) : (x == ("__classdict__" : Str)) = false := by
  unfold okNm at h; simp only [Bool.and_eq_true, Bool.not_eq_true'] at h; exact h.1.2
theorem okNm3 {x : Str} (h : okNm x = true) : x ≠ "__name__" := by
  unfold okNm at h; simp only [Bool.and_eq_true, Bool.not_eq_true'] at h; exact fun z => by rw [z] at h; simp at h
theorem Good.units (g : Good X G S) : X.A.units + 65 < cLine := g.un
theorem Good.nox {js : List Nat} (g : Good X G S) (h : (match S.xi with | none => true | some i => !js.contains i) = true) : NoX G js := by
  intro n e
  rw [g.xn n e] at h
  simp only [Bool.not_eq_true', List.contains_eq_mem, decide_eq_false_iff_not] at h
  exact h
def noxB (S : SEnv) (js : List Nat) : Bool := match S.xi with | none => true | some i => !js.contains i
def cName (S : SEnv) (x : Str) : Option SE :=
  if okNm x then
    if visK S x then (idx S x).map eVar
    else if glbK S x then match S.Γ.lookup x with | some (.const d) => some (eC d) | _ => none
    else none
  else none
theorem cName_ok {x : Str} {pos : Pos} {t : SE} (g : Good X G S) (h : cName S x = some t) : ME X G (.Name x pos) t := by
  unfold cName at h
  by_cases ho : okNm x = true
  · rw [if_pos ho] at h
    by_cases hv : visK S x = true
    · rw [if_pos hv] at h
      cases e : idx S x with
      | none => rw [e] at h; cases h
      | some i =>
        rw [e] at h; cases h
        exact me_var (by rw [g.N]; exact idx_get e) (g.vis hv) (okNm1 ho) (okNm2 ho)
    · rw [if_neg hv] at h
      by_cases hg : glbK S x = true
      · rw [if_pos hg] at h
        cases e : S.Γ.lookup x with
        | none => rw [e] at h; cases h
        | some ge =>
          rw [e] at h
          cases ge with
          | const d =>
            cases h
            obtain ⟨u, v, e1, rv, rd⟩ := g.g x _ e
            exact me_of_tC (pe_glob (g.gl hg) (by rw [g.mg]; exact e1) rv (okNm1 ho)) rd
          | _ => cases h
      · rw [if_neg hg] at h; cases h
  · rw [if_neg ho] at h; cases h
def cConst : Const → Option SE
  | .int i => some (eC (.int i))
  | .bool b => some (eC (.bl b))
  | .none => some (eC .non)
  | .str x => some (eC (.str x))
  | _ => none
theorem cConst_ok {c : Const} {k : Nat} {pos : Pos} {t : SE} (h : cConst c = some t) : ME X G (.Constant c k pos) t := by
  cases c <;> first | (cases h; first | exact me_int | exact me_bl | exact me_non | exact me_str) | cases h
def binOp : Operator → Option Op2
  | .Add => some opAdd | .Sub => some opSub | .Mult => some opMul | .FloorDiv => some opDiv | .Mod => some opMod | .Pow => some opPow
  | _ => none
theorem binOp_ok {op : Operator} {f : Op2} (g : Good X G S) (h : binOp op = some f) : OpR X (binaryOp op) (LR G f) := by
  cases op <;> first | (cases h; first | exact or_add g.K | exact or_sub | exact or_mul g.K | exact or_div | exact or_mod | exact or_pow) | cases h
def cmpOp : CmpOp → Op2
  | .Eq => opEq | .NotEq => opNe | .Lt => opLt | .LtE => opLe | .Gt => opGt | .GtE => opGe | .Is => opIs | .IsNot => opIsNot | .In => opIn | .NotIn => opNotIn
theorem cmpOp_ok {op : CmpOp} (g : Good X G S) : OpR X (compareOp op) (LR G (cmpOp op)) := by
  have hu := g.units
  cases op
  · exact or_eq g.K (by omega)
  · exact or_ne g.K (by omega)
  · exact or_lt
  · exact or_le
  · exact or_gt
  · exact or_ge
  · exact or_is
  · exact or_isNot
  · exact or_in g.K hu
  · exact or_notIn g.K hu
variable {r : Rec}
/-! ### argument lists -/
def cArgs (r : Rec) (S : SEnv) : List Expr → Option SA
  | [] => some aNil
  | a :: es => if notStar a then match r.e S a, cArgs r S es with | some ta, some tt => some (aCons ta tt) | _, _ => none else none
theorem cArgs_ok (ro : RecOk r) (g : Good X G S) : ∀ {es : List Expr} {tt : SA}, cArgs r S es = some tt → MA X G es tt ∧ es.all notStar = true
  | [], tt, h => by cases h; exact ⟨ma_nil, rfl⟩
  | a :: es, tt, h => by
    unfold cArgs at h
    by_cases hs : notStar a = true
    · rw [if_pos hs] at h
      cases e1 : r.e S a with
      | none => simp [e1] at h
      | some ta =>
        cases e2 : cArgs r S es with
        | none => simp [e1, e2] at h
        | some t2 =>
          simp only [e1, e2, Option.some.injEq] at h
          subst h
          obtain ⟨h1, h2⟩ := cArgs_ok ro g e2
          exact ⟨ma_cons (ro.e g e1) h1 (star_cons hs), by simp [hs, h2]⟩
    · rw [if_neg hs] at h; cases h

/-! ### calls by name -/
inductive Blt where
  | b (id : String) (g : OpN)
  | t (T : String) (g : OpN)
/-- built-ins by name and number of arguments; where an exception is handled only those with true -/
def bltTab : List ((Str × Nat) × (Bool × Blt)) :=
  [(("len", 1), (true, .b "len" cnLen)), (("int", 1), (true, .t "int" cnInt)), (("tuple", 1), (true, .t "tuple" cnTuple)), (("list", 1), (true, .t "list" cnList)), (("abs", 1), (true, .b "abs" cnAbs)),
   (("ord", 1), (true, .b "ord" cnOrd)), (("str", 1), (true, .t "str" cnStr)), (("sorted", 1), (true, .b "sorted" cnSorted)), (("sum", 1), (false, .b "sum" cnSum)), (("min", 2), (false, .b "min" cnMin)), (("max", 2), (false, .b "max" cnMax)), (("max", 3), (false, .b "max" cnMax3))]
def bltOp (hot : Bool) (f : Str) (n : Nat) : Option Blt := match bltTab.lookup (f, n) with
  | some (h, b) => if hot && !h then none else some b
  | none => none
theorem mem_lookup {α β : Type} [BEq α] [LawfulBEq α] {k : α} {v : β} : ∀ {l : List (α × β)}, l.lookup k = some v → (k, v) ∈ l
  | [], h => by simp at h
  | (k', v') :: r, h => by
    rw [List.lookup_cons] at h
    split at h
    · rename_i e; cases h; rw [beq_iff_eq.mp e]; simp
    · exact List.mem_cons_of_mem _ (mem_lookup h)
def BltOk (X : Cx) (G : GC) (f : Str) : Blt → Prop
  | .b id g => bootBuiltins f = some (.builtin id) ∧ CallR X (.builtin id) (LCall G g)
  | .t T g => bootBuiltins f = some (.type T) ∧ CallR X (.type T) (LCall G g)
theorem bltTab_ok (hK : X.K = G.K) (hu : X.A.units + 65 < cLine) : ∀ p ∈ bltTab, (p.2.1 = false → X.calm = true) → BltOk X G p.1.1 p.2.2 := by
  intro p hp
  unfold bltTab at hp
  rcases List.mem_cons.mp hp with rfl | hp
  · exact fun _ => ⟨by decide +kernel, cr_len hK⟩
  rcases List.mem_cons.mp hp with rfl | hp
  · exact fun _ => ⟨by decide +kernel, cr_int⟩
  rcases List.mem_cons.mp hp with rfl | hp
  · exact fun _ => ⟨by decide +kernel, cr_tuple hK⟩
  rcases List.mem_cons.mp hp with rfl | hp
  · exact fun _ => ⟨by decide +kernel, cr_list hK⟩
  rcases List.mem_cons.mp hp with rfl | hp
  · exact fun _ => ⟨by decide +kernel, cr_abs⟩
  rcases List.mem_cons.mp hp with rfl | hp
  · exact fun _ => ⟨by decide +kernel, cr_ord⟩
  rcases List.mem_cons.mp hp with rfl | hp
  · exact fun _ => ⟨by decide +kernel, cr_str⟩
  rcases List.mem_cons.mp hp with rfl | hp
  · exact fun _ => ⟨by decide +kernel, cr_sorted1 hK hu⟩
  rcases List.mem_cons.mp hp with rfl | hp
  · exact fun h => ⟨by decide +kernel, cr_sumL hK (h rfl)⟩
  rcases List.mem_cons.mp hp with rfl | hp
  · exact fun h => ⟨by decide +kernel, cr_min2 (h rfl)⟩
  rcases List.mem_cons.mp hp with rfl | hp
  · exact fun h => ⟨by decide +kernel, cr_max2 (h rfl)⟩
  rcases List.mem_cons.mp hp with rfl | hp
  · exact fun h => ⟨by decide +kernel, cr_max3 (h rfl)⟩
  cases hp
theorem bltOp_ok {f : Str} {n : Nat} {b : Blt} (g : Good X G S) (h : bltOp S.hot f n = some b) : BltOk X G f b := by
  unfold bltOp at h
  cases e : bltTab.lookup (f, n) with
  | none => rw [e] at h; cases h
  | some p =>
    obtain ⟨hb, b'⟩ := p
    rw [e] at h
    have h : (if (S.hot && !hb) = true then none else some b') = some b := h
    by_cases hh : (S.hot && !hb) = true
    · rw [if_pos hh] at h; cases h
    · rw [if_neg hh] at h; cases h
      refine bltTab_ok g.K g.units _ (mem_lookup e) fun hf => g.calm ?_
      have hf : hb = false := hf
      rw [hf] at hh
      simpa using hh
end
end DN

set_option maxHeartbeats 4000000
/-! the reading of expressions, statements, defs by computation -/
namespace DN
open PySem PySem.Spec L2

structure Mtd where
  T : String
  id : String
  g : OpM
def mtTab : List ((Str × Nat) × Mtd) :=
  [(("append", 1), ⟨"list", "list.append", mAppend⟩), (("extend", 1), ⟨"list", "list.extend", mExtend⟩), (("pop", 0), ⟨"list", "list.pop", mPop⟩), (("pop", 1), ⟨"list", "list.pop", mPop⟩),
   (("reverse", 0), ⟨"list", "list.reverse", mReverse⟩), (("split", 1), ⟨"str", "str.split", mSplit⟩), (("join", 1), ⟨"str", "str.join", mJoin⟩)]
def mtOp (m : Str) (n : Nat) : Option Mtd := mtTab.lookup (m, n)
section
variable {X : Cx} {G : GC} {S : SEnv} {r : Rec}
theorem mtOp_ok {m : Str} {n : Nat} {b : Mtd} (g : Good X G S) (h : mtOp m n = some b) : PlainAttrs b.T ∧ Slot b.T m b.id ∧ typeOf (.builtin b.id) = pure (.type "method_descriptor") ∧ MtR X b.id (LMt G b.g) := by
  have hp := mem_lookup h
  have key : ∀ p ∈ mtTab, PlainAttrs p.2.T ∧ Slot p.2.T p.1.1 p.2.id ∧ typeOf (.builtin p.2.id) = pure (.type "method_descriptor") ∧ MtR X p.2.id (LMt G p.2.g) := by
    intro p hp
    unfold mtTab at hp
    rcases List.mem_cons.mp hp with rfl | hp
    · exact ⟨PySem.F.plainAttrs_list, PySem.F.slot_list_append, PySem.F.type_list_append, mr_append⟩
    rcases List.mem_cons.mp hp with rfl | hp
    · exact ⟨PySem.F.plainAttrs_list, PySem.F.slot_list_extend, PySem.F.type_list_extend, mr_extend g.K⟩
    rcases List.mem_cons.mp hp with rfl | hp
    · exact ⟨PySem.F.plainAttrs_list, PySem.F.slot_list_pop, PySem.F.type_list_pop, mr_pop⟩
    rcases List.mem_cons.mp hp with rfl | hp
    · exact ⟨PySem.F.plainAttrs_list, PySem.F.slot_list_pop, PySem.F.type_list_pop, mr_pop⟩
    rcases List.mem_cons.mp hp with rfl | hp
    · exact ⟨PySem.F.plainAttrs_list, PySem.F.slot_list_reverse, PySem.F.type_list_reverse, mr_reverse⟩
    rcases List.mem_cons.mp hp with rfl | hp
    · exact ⟨PySem.F.plainAttrs_str, PySem.F.slot_str_split, PySem.F.type_str_split, mr_split⟩
    rcases List.mem_cons.mp hp with rfl | hp
    · exact ⟨PySem.F.plainAttrs_str, PySem.F.slot_str_join, PySem.F.type_str_join, mr_join g.K⟩
    cases hp
  exact key _ hp

/-! ### calls -/
def isiT (T : Str) : Option String := if T = "int" then some "int" else if T = "bool" then some "bool" else if T = "str" then some "str" else if T = "tuple" then some "tuple" else if T = "list" then some "list" else none
theorem isiT_ok {T : Str} {TS : String} (h : isiT T = some TS) : bootBuiltins T = some (.type TS) ∧ T ≠ "__name__" ∧ (T == ("__debug__" : Str)) = false := by
  unfold isiT at h
  repeat' (split at h)
  all_goals (cases h)
  all_goals subst_vars
  all_goals exact ⟨by decide +kernel, by decide +kernel, by decide +kernel⟩
def isBlt (S : SEnv) (x : Str) : Bool := glbK S x && (match S.Γ.lookup x with | some .blt => true | _ => false)
theorem isBlt_ok {x : Str} (g : Good X G S) (h : isBlt S x = true) : Gl X x ∧ X.mg x = none := by
  unfold isBlt at h
  rw [Bool.and_eq_true] at h
  refine ⟨g.gl h.1, ?_⟩
  have h2 := h.2
  cases e : S.Γ.lookup x with
  | none => rw [e] at h2; cases h2
  | some ge =>
    rw [e] at h2
    cases ge with
    | blt => rw [g.mg]; exact g.g x _ e
    | _ => cases h2
/-- the name of the exception that the suite holds -/
def excVar (S : SEnv) (x : Str) : Option Exn := if okNm x && visK S x then match S.xi, idx S x with | some i, some j => if i = j then S.xx else none | _, _ => none else none
theorem excVar_ok {n : Str} {x : Exn} (g : Good X G S) (h : excVar S n = some x) : ∃ m, G.xn = some m ∧ m.x = x ∧ X.N[m.i]? = some n ∧ Vis X.env.scope n ∧ okNm n = true := by
  unfold excVar at h
  by_cases hb : (okNm n && visK S n) = true
  · rw [if_pos hb] at h
    rw [Bool.and_eq_true] at hb
    cases e1 : S.xi with
    | none => simp [e1] at h
    | some i =>
      cases e2 : idx S n with
      | none => simp [e1, e2] at h
      | some j =>
        simp only [e1, e2] at h
        by_cases hij : i = j
        · rw [if_pos hij] at h
          obtain ⟨m, q1, q2, q3⟩ := g.xx x h
          rw [e1] at q3; cases q3
          exact ⟨m, q1, q2, by rw [g.N, hij]; exact idx_get e2, g.vis hb.2, hb.1⟩
        · rw [if_neg hij] at h; cases h
  · rw [if_neg hb] at h; cases h
def tabOf (S : SEnv) (T : Str) : Option (List (Str × Bool)) := match S.Γ.lookup T with
  | some (.exc _ _ t) => some t
  | some (.exc0 t) => some t
  | some (.cls t) => some t
  | some (.clsB _ t) => some t
  | _ => none
theorem tabOf_ok {T : Str} {tab : List (Str × Bool)} {p : Pos} (g : Good X G S) (hg : glbK S T = true) (ho : okNm T = true) (h : tabOf S T = some tab) : ∃ cw cv, PE X (.Name T p) (tC cw) ∧ (∀ u, RelV cw u → u = cv) ∧ ClsK G cv tab ∧ Names X T cv := by
  unfold tabOf at h
  cases e : S.Γ.lookup T with
  | none => rw [e] at h; cases h
  | some ge =>
    rw [e] at h
    have own : ∀ C, G.mg T = some (.ref C) → ClsK G (.ref C) tab → ∃ cw cv, PE X (.Name T p) (tC cw) ∧ (∀ u, RelV cw u → u = cv) ∧ ClsK G cv tab ∧ Names X T cv := fun C h1 h2 =>
      ⟨.ref C, .ref C, pe_glob (g.gl hg) (by rw [g.mg]; exact h1) rfl (okNm1 ho), fun u h => h, h2, g.gl hg, okNm1 ho, .inl (by rw [g.mg]; exact h1)⟩
    cases ge with
    | const d => cases h
    | fn k np F => cases h
    | fnH k np F => cases h
    | blt => cases h
    | exc fl k t =>
      cases h
      obtain ⟨_, C, h1, h2⟩ := g.g T _ e
      exact own C h1 h2
    | exc0 t =>
      cases h
      obtain ⟨_, C, h1, h2⟩ := g.g T _ e
      exact own C h1 h2
    | cls t =>
      cases h
      obtain ⟨C, h1, h2⟩ := g.g T _ e
      exact own C h1 h2
    | clsB T' t =>
      cases h
      obtain ⟨h1, h2, h3, h4⟩ := g.g T _ e
      exact ⟨.ty T', .type T', pe_bltn (g.gl hg) (by rw [g.mg]; exact h1) h2 rfl h3 (okNm1 ho), fun u h => h, h4, g.gl hg, okNm1 ho, .inr ⟨by rw [g.mg]; exact h1, h2, h3⟩⟩
def cIsE (S : SEnv) (args : List Expr) : Option SE := match args with
  | [.Name n _, .Name T _] => if isBlt S "isinstance" && okNm T && glbK S T then match excVar S n, tabOf S T with | some x, some tab => some (eIsE x tab) | _, _ => none else none
  | _ => none
theorem cIsE_ok {args : List Expr} {p pos : Pos} {t : SE} (g : Good X G S) (h : cIsE S args = some t) : ME X G (.Call (.Name "isinstance" p) args [] pos) t := by
  unfold cIsE at h
  split at h
  · rename_i n q T pT
    split at h
    · rename_i hb
      rw [Bool.and_eq_true, Bool.and_eq_true] at hb
      split at h
      · rename_i x tab e1 e2
        cases h
        obtain ⟨m, h1, rfl, h3, h4, h5⟩ := excVar_ok g e1
        obtain ⟨cw, cv, c1, c2, c3, _⟩ := tabOf_ok (p := pT) g hb.2 hb.1.2 e2
        obtain ⟨g1, m1⟩ := isBlt_ok g hb.1.1
        exact me_isE g.su h1 g.K h3 h4 (okNm1 h5) (okNm2 h5) (fun C hC => g.xf _ C hC) c1 c2 c3 g1 m1
      · cases h
    · cases h
  · cases h
def cIsi (r : Rec) (S : SEnv) (args : List Expr) : Option SE := match args with
  | [a, .Name T _] => if isBlt S "isinstance" && isBlt S T && notStar a then match isiT T, r.e S a with | some TS, some ta => some (eIsi TS ta) | _, _ => none else none
  | _ => none
def cCallN (r : Rec) (S : SEnv) (f : Str) (args : List Expr) : Option SE :=
  if okNm f && glbK S f then
    if f = "isinstance" then (match cIsE S args with | some t => some t | none => cIsi r S args) else
    match S.Γ.lookup f with
    | some (.fn k np F) => if (k ≤ S.lv ∧ S.hot = false) ∧ args.length = np then (cArgs r S args).map (eCall F) else none
    | some (.fnH k np F) => if k ≤ S.lv ∧ (S.hot = true → args ≠ []) ∧ args.length = np then (cArgs r S args).map (eCall F) else none
    | some .blt => match args with
      | [] => none
      | _ => match bltOp S.hot f args.length, cArgs r S args with
        | some (.b _ g), some tt => some (eCallB g tt)
        | some (.t _ g), some tt => some (eCallB g tt)
        | _, _ => none
    | _ => none
  else none
theorem cIsi_ok {args : List Expr} {p pos : Pos} {t : SE} (ro : RecOk r) (g : Good X G S) (h : cIsi r S args = some t) : ME X G (.Call (.Name "isinstance" p) args [] pos) t := by
  unfold cIsi at h
  split at h
  · rename_i a T pT
    split at h
    · rename_i hb
      rw [Bool.and_eq_true, Bool.and_eq_true] at hb
      obtain ⟨⟨b1, b2⟩, b3⟩ := hb
      cases e1 : isiT T with
      | none => simp [e1] at h
      | some TS =>
        cases e2 : r.e S a with
        | none => simp [e1, e2] at h
        | some ta =>
          simp only [e1, e2, Option.some.injEq] at h
          subst h
          obtain ⟨g1, m1⟩ := isBlt_ok g b1
          obtain ⟨g2, m2⟩ := isBlt_ok g b2
          obtain ⟨v1, v2, v3⟩ := isiT_ok e1
          exact me_isi g.K g1 m1 g2 m2 v1 v2 v3 (ro.e g e2) (star_cons b3) (star_any (es := [.Name T pT]) rfl)
    · cases h
  · cases h
theorem cCallN_ok {f : Str} {args : List Expr} {p pos : Pos} {t : SE} (ro : RecOk r) (g : Good X G S) (h : cCallN r S f args = some t) : ME X G (.Call (.Name f p) args [] pos) t := by
  unfold cCallN at h
  by_cases ho : (okNm f && glbK S f) = true
  · rw [if_pos ho] at h
    rw [Bool.and_eq_true] at ho
    obtain ⟨o1, o2⟩ := ho
    by_cases hi : f = "isinstance"
    · rw [if_pos hi] at h
      subst hi
      cases e : cIsE S args with
      | some t' => rw [e] at h; cases h; exact cIsE_ok g e
      | none => rw [e] at h; exact cIsi_ok ro g h
    · rw [if_neg hi] at h
      cases e : S.Γ.lookup f with
      | none => simp [e] at h
      | some ge =>
        cases ge with
        | const d => simp [e] at h
        | exc _ _ _ => simp [e] at h
        | exc0 _ => simp [e] at h
        | cls _ => simp [e] at h
        | clsB _ _ => simp [e] at h
        | fn k np F =>
          simp only [e] at h
          by_cases hk : (k ≤ S.lv ∧ S.hot = false) ∧ args.length = np
          · rw [if_pos hk] at h
            cases ea : cArgs r S args with
            | none => rw [ea] at h; cases h
            | some tt =>
              rw [ea] at h; cases h
              obtain ⟨h1, h2⟩ := cArgs_ok ro g ea
              obtain ⟨fa, fd, ps, hps, hm, hkp, hF, hb⟩ := g.g f _ e
              have hF' : FnOk X.prog X.w X.K X.mg X.base (CX X.prog X.w) k fa fd ps (LSp G F np) := by rw [g.P, g.w, g.K, g.mg, g.base]; exact hF
              cases args with
              | nil =>
                cases ea
                have : np = 0 := hk.2.symm
                subst this
                exact me_call0 hF' ((g.room hk.1.2).mono hk.1.1) (g.gl o2) (by rw [g.mg]; exact hm) (by rw [g.K]; exact hkp) (by rw [g.K]; exact hb) (okNm1 o1)
              | cons a es =>
                simp only [List.all_cons, Bool.and_eq_true] at h2
                exact me_call hF' ((g.room hk.1.2).mono hk.1.1) (g.gl o2) (by rw [g.mg]; exact hm) (by rw [g.K]; exact hkp) (by rw [g.K]; exact hb) h1 hk.2 (okNm1 o1) (star_cons h2.1) (star_any h2.2)
          · rw [if_neg hk] at h; cases h
        | fnH k np F =>
          simp only [e] at h
          by_cases hk : k ≤ S.lv ∧ (S.hot = true → args ≠ []) ∧ args.length = np
          · rw [if_pos hk] at h
            cases ea : cArgs r S args with
            | none => rw [ea] at h; cases h
            | some tt =>
              rw [ea] at h; cases h
              obtain ⟨h1, h2⟩ := cArgs_ok ro g ea
              obtain ⟨fa, fd, ps, hps, hm, hkp, hF, hH, hb⟩ := g.g f _ e
              have hF' : FnOk X.prog X.w X.K X.mg X.base (CX X.prog X.w) k fa fd ps (LSp G F np) := by rw [g.P, g.w, g.K, g.mg, g.base]; exact hF
              have hH' : L2H.FnH X.prog X.w X.K X.mg X.base (CX X.prog X.w) k fa fd ps (LSp G F np) := by rw [g.P, g.w, g.K, g.mg, g.base]; exact hH
              cases hh : S.hot with
              | false =>
                cases args with
                | nil =>
                  cases ea
                  have : np = 0 := hk.2.2.symm
                  subst this
                  exact me_call0 hF' ((g.room hh).mono hk.1) (g.gl o2) (by rw [g.mg]; exact hm) (by rw [g.K]; exact hkp) (by rw [g.K]; exact hb) (okNm1 o1)
                | cons a es =>
                  simp only [List.all_cons, Bool.and_eq_true] at h2
                  exact me_call hF' ((g.room hh).mono hk.1) (g.gl o2) (by rw [g.mg]; exact hm) (by rw [g.K]; exact hkp) (by rw [g.K]; exact hb) h1 hk.2.2 (okNm1 o1) (star_cons h2.1) (star_any h2.2)
              | true =>
                cases args with
                | nil => exact absurd rfl (hk.2.1 hh)
                | cons a es =>
                  simp only [List.all_cons, Bool.and_eq_true] at h2
                  exact me_callH hH' ((g.roomH hh).mono hk.1) (g.hotc hh) (g.gl o2) (by rw [g.mg]; exact hm) (by rw [g.K]; exact hkp) (by rw [g.K]; exact hb) h1 hk.2.2 (okNm1 o1) (star_cons h2.1) (star_any h2.2)
          · rw [if_neg hk] at h; cases h
        | blt =>
          simp only [e] at h
          have hm : X.mg f = none := by rw [g.mg]; exact g.g f _ e
          cases args with
          | nil => simp at h
          | cons a es =>
            simp only at h
            cases eb : bltOp S.hot f (a :: es).length with
            | none => rw [eb] at h; contradiction
            | some b =>
              cases ea : cArgs r S (a :: es) with
              | none => rw [eb, ea] at h; cases b <;> contradiction
              | some tt =>
                obtain ⟨h1, h2⟩ := cArgs_ok ro g ea
                simp only [List.all_cons, Bool.and_eq_true] at h2
                have bo := bltOp_ok (X := X) (G := G) g eb
                cases b with
                | b id gg =>
                  simp only [eb, ea, Option.some.injEq] at h
                  subst h
                  exact me_callB bo.2 (g.gl o2) hm bo.1 h1 (okNm3 o1) (okNm1 o1) (star_cons h2.1) (star_any h2.2)
                | t T gg =>
                  simp only [eb, ea, Option.some.injEq] at h
                  subst h
                  exact me_callTy bo.2 (g.gl o2) hm bo.1 h1 (okNm3 o1) (okNm1 o1) (star_cons h2.1) (star_any h2.2)
  · rw [if_neg ho] at h; cases h
def cCallM (r : Rec) (S : SEnv) (o : Expr) (m : Str) (apos cpos : Pos) (args : List Expr) : Option SE :=
  if notCall o && (apos.endLine == cpos.line) && decide (args.length < 20) then match mtOp m args.length, r.e S o, cArgs r S args with
    | some b, some to, some tt => some (eBm b.T b.g to tt)
    | _, _, _ => none
  else none
theorem cCallM_ok {o : Expr} {m : Str} {apos cpos : Pos} {args : List Expr} {t : SE} (ro : RecOk r) (g : Good X G S) (h : cCallM r S o m apos cpos args = some t) : ME X G (.Call (.Attribute o m apos) args [] cpos) t := by
  unfold cCallM at h
  by_cases hb : (notCall o && (apos.endLine == cpos.line) && decide (args.length < 20)) = true
  · rw [if_pos hb] at h
    rw [Bool.and_eq_true, Bool.and_eq_true] at hb
    obtain ⟨⟨b1, b2⟩, b3⟩ := hb
    cases em : mtOp m args.length with
    | none => simp [em] at h
    | some b =>
      cases eo : r.e S o with
      | none => simp [em, eo] at h
      | some to =>
        cases ea : cArgs r S args with
        | none => simp [em, eo, ea] at h
        | some tt =>
          simp only [em, eo, ea, Option.some.injEq] at h
          subst h
          obtain ⟨pa, sl, ty, mr⟩ := mtOp_ok (X := X) (G := G) g em
          obtain ⟨h1, h2⟩ := cArgs_ok ro g ea
          cases args with
          | nil => cases ea; exact me_bm0 g.K pa sl ty mr (ro.e g eo) (attr_plain b1) b2
          | cons a es =>
            have h3 := h2
            simp only [List.all_cons, Bool.and_eq_true] at h3
            refine me_bm g.K pa sl ty mr (ro.e g eo) h1 (attr_plain b1) ?_ b2 (star_cons h3.1) (star_any h3.2)
            rw [star_all h2]
            have : (a :: es).length < 20 := of_decide_eq_true b3
            simp [keywordEach, backToKw] at this ⊢
            omega
  · rw [if_neg hb] at h; cases h

/-! ### targets -/
def cTgN (S : SEnv) (x : Str) : Option Tg := if locK S x && stoK S x then match idx S x with | some i => if noxB S [i] then some (.nm i) else none | none => none else none
def cTgs1 (S : SEnv) : List Expr → Option (List Tg)
  | [] => some []
  | .Name x _ :: es => match cTgN S x, cTgs1 S es with | some t, some ts => some (t :: ts) | _, _ => none
  | _ :: _ => none
def cTgs2 (S : SEnv) : List Expr → Option (List Tg)
  | [] => some []
  | .Name x _ :: es => match cTgN S x, cTgs2 S es with | some t, some ts => some (t :: ts) | _, _ => none
  | .Tuple es1 _ _ :: es => match cTgs1 S es1, cTgs2 S es with | some t, some ts => some (.tp t :: ts) | _, _ => none
  | _ :: _ => none
def cTg (S : SEnv) : Expr → Option Tg
  | .Name x _ => cTgN S x
  | .Tuple es _ _ => if S.hot = true then none else (cTgs2 S es).map .tp
  | _ => none
theorem cTgN_ok {x : Str} {pos : Pos} {t : Tg} (g : Good X G S) (h : cTgN S x = some t) : MG X G (.Name x pos) t := by
  unfold cTgN at h
  by_cases hb : (locK S x && stoK S x) = true
  · rw [if_pos hb] at h
    rw [Bool.and_eq_true] at hb
    cases e : idx S x with
    | none => rw [e] at h; cases h
    | some i =>
      simp only [e] at h
      by_cases hx : noxB S [i] = true
      · rw [if_pos hx] at h; cases h
        exact mg_name (by rw [g.N]; exact g.nd) (by rw [g.N]; exact idx_get e) (g.loc hb.1) (g.sto hb.2) (g.nox hx)
      · rw [if_neg hx] at h; cases h
  · rw [if_neg hb] at h; cases h
theorem cTgs1_ok (g : Good X G S) : ∀ {es : List Expr} {ts : List Tg}, cTgs1 S es = some ts → MGs X G es ts ∧ es.length = ts.length ∧ es.all notStar = true
  | [], ts, h => by cases h; exact ⟨mgs_nil, rfl, rfl⟩
  | e :: es, ts, h => by
    cases e <;> first
      | (simp [cTgs1] at h; done)
      | skip
    rename_i x pos
    simp only [cTgs1] at h
    cases e1 : cTgN S x with
    | none => simp [e1] at h
    | some t =>
      cases e2 : cTgs1 S es with
      | none => simp [e1, e2] at h
      | some ts2 =>
        simp only [e1, e2, Option.some.injEq] at h
        subst h
        obtain ⟨h1, h2, h3⟩ := cTgs1_ok g e2
        exact ⟨mgs_cons (cTgN_ok g e1) h1 (by rw [each_cons rfl]; rfl), by rw [List.length_cons, List.length_cons, h2], by simp [notStar, h3]⟩
theorem cTgs2_ok (g : Good X G S) (hh : S.hot = false) : ∀ {es : List Expr} {ts : List Tg}, cTgs2 S es = some ts → MGs X G es ts ∧ es.length = ts.length ∧ es.all notStar = true
  | [], ts, h => by cases h; exact ⟨mgs_nil, rfl, rfl⟩
  | e :: es, ts, h => by
    cases e <;> first
      | (simp [cTgs2] at h; done)
      | skip
    · rename_i x pos
      simp only [cTgs2] at h
      cases e1 : cTgN S x with
      | none => simp [e1] at h
      | some t =>
        cases e2 : cTgs2 S es with
        | none => simp [e1, e2] at h
        | some ts2 =>
          simp only [e1, e2, Option.some.injEq] at h
          subst h
          obtain ⟨h1, h2, h3⟩ := cTgs2_ok g hh e2
          exact ⟨mgs_cons (cTgN_ok g e1) h1 (by rw [each_cons rfl]; rfl), by rw [List.length_cons, List.length_cons, h2], by simp [notStar, h3]⟩
    · rename_i es1 k pos
      simp only [cTgs2] at h
      cases e1 : cTgs1 S es1 with
      | none => simp [e1] at h
      | some t =>
        cases e2 : cTgs2 S es with
        | none => simp [e1, e2] at h
        | some ts2 =>
          simp only [e1, e2, Option.some.injEq] at h
          subst h
          obtain ⟨h1, h2, h3⟩ := cTgs2_ok g hh e2
          obtain ⟨q1, q2, q3⟩ := cTgs1_ok g e1
          obtain ⟨l1, l2⟩ := each_len (env := X.env) q3
          exact ⟨mgs_cons (mg_tup g.K (g.calm hh) q1 q2 l1 l2) h1 (by rw [each_cons rfl]; rfl), by rw [List.length_cons, List.length_cons, h2], by simp [notStar, h3]⟩
theorem cTg_ok {e : Expr} {t : Tg} (g : Good X G S) (h : cTg S e = some t) : MG X G e t := by
  cases e <;> first
    | (simp [cTg] at h; done)
    | skip
  · exact cTgN_ok g h
  · rename_i es k pos
    simp only [cTg] at h
    cases hh : S.hot with
    | true => rw [hh] at h; simp at h
    | false =>
    rw [hh] at h
    simp only [Bool.false_eq_true, if_false] at h
    cases e1 : cTgs2 S es with
    | none => rw [e1] at h; cases h
    | some ts =>
      rw [e1] at h; cases h
      obtain ⟨q1, q2, q3⟩ := cTgs2_ok g hh e1
      obtain ⟨l1, l2⟩ := each_len (env := X.env) q3
      exact mg_tup g.K (g.calm hh) q1 q2 l1 l2

/-! ### what is walked -/
def isTup : Expr → Bool | .Tuple _ _ _ => true | _ => false
def cIt (r : Rec) (S : SEnv) (tg iter : Expr) : Option SI := match iter with
  | .Call (.Name f _) args [] _ =>
    if f = "range" then
      if isBlt S "range" then match args with
        | [a] => (cArgs r S [a]).map iRange1
        | [a, b] => (cArgs r S [a, b]).map iRange2
        | _ => none
      else none
    else if f = "enumerate" then
      if isBlt S "enumerate" && isTup tg then match args with
        | [a] => (cArgs r S [a]).map iEnum1
        | _ => none
      else none
    else if f = "reversed" then
      if isBlt S "reversed" && isBlt S "range" then match args with
        | [.Call (.Name g _) [a] [] _] => if g = "range" then (cArgs r S [a]).bind fun _ => (r.e S a).map iRevR1 else none
        | _ => none
      else none
    else (r.e S iter).map iSeq
  | _ => (r.e S iter).map iSeq
theorem cIt_ok {tg iter : Expr} {t : SI} (ro : RecOk r) (g : Good X G S) (h : cIt r S tg iter = some t) : MI X G tg iter t := by
  have plain : (r.e S iter).map iSeq = some t → MI X G tg iter t := fun h => by
    cases e : r.e S iter with
    | none => rw [e] at h; cases h
    | some te => rw [e] at h; cases h; exact mi_seq g.K (ro.e g e)
  unfold cIt at h
  split at h
  · rename_i f p args pos
    by_cases h1 : f = "range"
    · rw [if_pos h1] at h
      subst h1
      by_cases hb : isBlt S "range" = true
      · rw [if_pos hb] at h
        obtain ⟨g1, m1⟩ := isBlt_ok g hb
        split at h
        · rename_i a
          cases ea : cArgs r S [a] with
          | none => rw [ea] at h; cases h
          | some tt =>
            rw [ea] at h; cases h
            obtain ⟨q1, q2⟩ := cArgs_ok ro g ea
            simp only [List.all_cons, Bool.and_eq_true] at q2
            exact mi_range1 g1 m1 q1 (by rw [star_cons q2.1]; rfl)
        · rename_i a b
          cases ea : cArgs r S [a, b] with
          | none => rw [ea] at h; cases h
          | some tt =>
            rw [ea] at h; cases h
            obtain ⟨q1, q2⟩ := cArgs_ok ro g ea
            simp only [List.all_cons, Bool.and_eq_true] at q2
            exact mi_range2 g1 m1 q1 (by rw [star_cons q2.1, star_cons q2.2.1]; rfl) (by rw [star_cons q2.2.1]; rfl)
        · cases h
      · rw [if_neg hb] at h; cases h
    · rw [if_neg h1] at h
      by_cases h2 : f = "enumerate"
      · rw [if_pos h2] at h
        subst h2
        by_cases hb : (isBlt S "enumerate" && isTup tg) = true
        · rw [if_pos hb] at h
          rw [Bool.and_eq_true] at hb
          obtain ⟨g1, m1⟩ := isBlt_ok g hb.1
          split at h
          · rename_i a
            cases ea : cArgs r S [a] with
            | none => rw [ea] at h; cases h
            | some tt =>
              rw [ea] at h; cases h
              obtain ⟨q1, q2⟩ := cArgs_ok ro g ea
              simp only [List.all_cons, Bool.and_eq_true] at q2
              have ht := hb.2
              cases tg <;> first
                | (simp [isTup] at ht; done)
                | exact mi_enum g.K g1 m1 q1 (by rw [star_cons q2.1]; rfl)
          · cases h
        · rw [if_neg hb] at h; cases h
      · rw [if_neg h2] at h
        by_cases h3 : f = "reversed"
        · rw [if_pos h3] at h
          subst h3
          by_cases hb : (isBlt S "reversed" && isBlt S "range") = true
          · rw [if_pos hb] at h
            rw [Bool.and_eq_true] at hb
            obtain ⟨g1, m1⟩ := isBlt_ok g hb.1
            obtain ⟨g2, m2⟩ := isBlt_ok g hb.2
            split at h
            · rename_i g' _ a _
              by_cases h4 : g' = "range"
              · rw [if_pos h4] at h
                subst h4
                cases ea : cArgs r S [a] with
                | none => rw [ea] at h; cases h
                | some tt =>
                  rw [ea] at h
                  obtain ⟨q1, q2⟩ := cArgs_ok ro g ea
                  simp only [List.all_cons, Bool.and_eq_true] at q2
                  cases e : r.e S a with
                  | none => rw [e] at h; cases h
                  | some te =>
                    rw [e] at h; cases h
                    exact mi_rev g2 m2 g1 m1 (ro.e g e) (star_cons q2.1)
              · rw [if_neg h4] at h; cases h
            · cases h
          · rw [if_neg hb] at h; cases h
        · rw [if_neg h3] at h
          exact plain h
  · exact plain h
/-- what a suite, or a def called in one, walks -/
def cItH (r : Rec) (S : SEnv) (iter : Expr) : Option SI := match iter with
  | .Call (.Name f _) [a] [] _ => if f = "range" then (if isBlt S "range" then (cArgs r S [a]).map iRange1 else none) else none
  | _ => none
theorem cItH_ok {tg iter : Expr} {t : SI} (ro : RecOk r) (g : Good X G S) (h : cItH r S iter = some t) : MIH X G tg iter t := by
  unfold cItH at h
  split at h
  · rename_i f p a pos
    by_cases h1 : f = "range"
    · rw [if_pos h1] at h
      subst h1
      by_cases hb : isBlt S "range" = true
      · rw [if_pos hb] at h
        obtain ⟨g1, m1⟩ := isBlt_ok g hb
        cases ea : cArgs r S [a] with
        | none => rw [ea] at h; cases h
        | some tt =>
          rw [ea] at h; cases h
          obtain ⟨q1, q2⟩ := cArgs_ok ro g ea
          simp only [List.all_cons, Bool.and_eq_true] at q2
          exact mi_range1H g1 m1 q1 (by rw [star_cons q2.1]; rfl)
      · rw [if_neg hb] at h; cases h
    · rw [if_neg h1] at h; cases h
  · cases h
end
end DN

set_option maxHeartbeats 4000000
namespace DN
open PySem PySem.Spec L2
section
variable {X : Cx} {G : GC} {S : SEnv} {r : Rec}

/-! ### comprehensions -/
def scopeOf (S : SEnv) : Scope := ⟨.function, S.names, false, false, []⟩
def ownOf (S : SEnv) (scope : Scope) : List (Str × Nat) := scope.names.filterMap fun (n, k) => match k with
  | .local => (idx S n).map fun i => (n, i)
  | .cell => (idx S n).map fun i => (n, i)
  | _ => none
def blkS (S : SEnv) (scope : Scope) : SEnv :=
  { S with names := scope.names.map (fun (n, k) => if (k == NameKind.free && S.names.lookup n == some NameKind.cell) then (n, NameKind.cell) else (n, k)), fnall := false, top := false,
           fnl := scope.names.filterMap fun (n, _) => if scope.names.lookup n == some NameKind.cell then some n else none }
theorem blk_good (g : Good X G S) (hh : S.hot = false) {scope : Scope} (hk : scope.kind = .function) (s : Shared) (H : Hp) (C : Addr) (cl : List (Str × Addr)) (fp : List Addr) : Good (X.blk s H scope (compEnvC scope cl C X.env) fp) G (blkS S scope) where
  P := g.P
  w := g.w
  K := g.K
  mg := g.mg
  base := g.base
  kind := hk
  names := by
    show (scope.names.map fun (n, k) => if (k == NameKind.free && X.env.scope.kind == ScopeKind.function && X.env.scope.names.lookup n == some NameKind.cell) then (n, NameKind.cell) else (n, k)) = _
    rw [g.kind, g.names]
    unfold blkS
    simp
  N := g.N
  nd := g.nd
  calm := g.calm
  room := g.room
  hotc := fun h => (by have h : S.hot = true := h; rw [hh] at h; cases h)
  roomH := fun h => (by have h : S.hot = true := h; rw [hh] at h; cases h)
  un := g.un
  fn := fun x h => by
    have h : (blkS S scope).fnl.contains x = true := by
      have z : ((blkS S scope).fnall || (blkS S scope).fnl.contains x) = true := h
      have e : (blkS S scope).fnall = false := rfl
      rw [e, Bool.false_or] at z
      exact z
    show (scope.names.lookup x == some .cell) = true
    unfold blkS at h
    simp only [List.contains_eq_mem, decide_eq_true_eq, List.mem_filterMap] at h
    obtain ⟨⟨n, k⟩, _, h⟩ := h
    simp only at h
    split at h
    · rename_i hc; cases h; exact hc
    · cases h
  xn := g.xn
  all := g.all
  cold := g.cold
  xx := g.xx
  su := fun n e => (by rw [g.cold hh] at e; cases e)
  xf := g.xf
  st := fun h => (by cases h)
def cLc (r : Rec) (S : SEnv) (elt tg iter : Expr) (ifs : List Expr) (scope : Scope) : Option SE :=
  match cIt r S tg iter, cTg (blkS S scope) tg, r.e (blkS S scope) elt, (match ifs with | [] => some cYes | [c] => r.c (blkS S scope) c | _ => none) with
  | some ti, some t, some te, some tt =>
    if !S.hot && blkC S.N (scopeOf S) scope (ownOf S scope) && notSet iter && (slotsT t).all (fun i => ((ownOf S scope).map (·.2)).contains i) && noxB S ((ownOf S scope).map (·.2)) then some (eLc ti t tt te ((ownOf S scope).map (·.2))) else none
  | _, _, _, _ => none
structure LcOk (X : Cx) (G : GC) (elt tg iter : Expr) (ifs : List Expr) (scope : Scope) (own : List (Str × Nat)) (ti : SI) (t : Tg) (tt : SC) (te : SE) : Prop where
  hi : MI X G tg iter ti
  ok : BlkOk X.N X.env.scope scope own
  hg : ∀ (s : Shared) (H : Hp) (C : Addr) (cl : List (Str × Addr)) (fp : List Addr), MG (X.blk s H scope (compEnvC scope cl C X.env) fp) G tg t
  ht : ∀ (s : Shared) (H : Hp) (C : Addr) (cl : List (Str × Addr)) (fp : List Addr), MTs (X.blk s H scope (compEnvC scope cl C X.env) fp) G ifs tt
  he : ∀ (s : Shared) (H : Hp) (C : Addr) (cl : List (Str × Addr)) (fp : List Addr), ME (X.blk s H scope (compEnvC scope cl C X.env) fp) G elt te
  hs : ∀ x, foldedSetIterable iter X.env x = pure x
  hsl : ∀ i ∈ slotsT t, i ∈ own.map (·.2)
  hx : NoX G (own.map (·.2))
  calm : X.calm = true
theorem cLc_parts {elt tg iter : Expr} {ifs : List Expr} {scope : Scope} {t : SE} (ro : RecOk r) (g : Good X G S) (h : cLc r S elt tg iter ifs scope = some t) :
    ∃ ti tt te tgt, t = eLc ti tgt tt te ((ownOf S scope).map (·.2)) ∧ LcOk X G elt tg iter ifs scope (ownOf S scope) ti tgt tt te := by
  unfold cLc at h
  split at h
  · rename_i ti tgt te tt e1 e2 e3 e4
    split at h
    · rename_i hb
      cases h
      simp only [Bool.and_eq_true, List.all_eq_true, List.contains_eq_mem, decide_eq_true_eq] at hb
      obtain ⟨⟨⟨⟨b0, b1⟩, b2⟩, b3⟩, b4⟩ := hb
      have b0 : S.hot = false := by simpa using b0
      have hk : scope.kind = .function := (blkOk_by b1).kind
      refine ⟨ti, tt, te, tgt, rfl, cIt_ok ro g e1, ?_, fun s H C cl fp => cTg_ok (blk_good g b0 hk s H C cl fp) e2, fun s H C cl fp => ?_, fun s H C cl fp => ro.e (blk_good g b0 hk s H C cl fp) e3, fold_plain b2, b3, g.nox b4, g.calm b0⟩
      · have q := blkOk_by b1
        refine ⟨q.kind, q.uniq, by rw [g.N]; exact q.ix, fun y hy e => ?_, fun y hy e => by rw [g.N]; exact q.own y hy e⟩
        rw [g.names]
        exact q.free y hy e
      · split at e4
        · cases e4; exact mts_nil
        · exact mts_one (ro.c (blk_good g b0 hk s H C cl fp) e4)
        · cases e4
    · cases h
  · cases h
theorem cLc_ok {elt tg iter : Expr} {ifs : List Expr} {scope : Scope} {pos : Pos} {t : SE} (ro : RecOk r) (g : Good X G S) (h : cLc r S elt tg iter ifs scope = some t) : ME X G (.ListComp elt [⟨tg, iter, ifs, 0⟩] scope pos) t := by
  obtain ⟨ti, tt, te, tgt, rfl, L⟩ := cLc_parts ro g h
  exact me_lc L.calm (by rw [g.N]; exact g.nd) L.hi L.ok L.hg L.ht L.he L.hs L.hsl L.hx

/-! ### expressions -/
def cBoolV (r : Rec) (S : SEnv) (op : BoolOp) : List Expr → Option SE
  | [] => none
  | [a] => r.e S a
  | a :: b :: rest => match r.e S a, cBoolV r S op (b :: rest) with
    | some ta, some tb => match op with | .And => some (eAnd ta tb) | .Or => some (eOr ta tb)
    | _, _ => none
theorem cBoolV_ok {op : BoolOp} {pos : Pos} (ro : RecOk r) (g : Good X G S) : ∀ {es : List Expr} {t : SE}, cBoolV r S op es = some t → ME X G (.BoolOp op es pos) t
  | [], t, h => by cases h
  | [a], t, h => me_one (ro.e g h)
  | a :: b :: rest, t, h => by
    unfold cBoolV at h
    cases e1 : r.e S a with
    | none => simp [e1] at h
    | some ta =>
      cases e2 : cBoolV r S op (b :: rest) with
      | none => simp [e1, e2] at h
      | some tb =>
        simp only [e1, e2] at h
        cases op with
        | And => cases h; exact me_and g.K (ro.e g e1) (cBoolV_ok ro g e2)
        | Or => cases h; exact me_or g.K (ro.e g e1) (cBoolV_ok ro g e2)
def cPart (r : Rec) (S : SEnv) : Option Expr → Option SO
  | none => some oNo
  | some e => (r.e S e).map oSome
theorem cPart_ok {e : Option Expr} {t : SO} (ro : RecOk r) (g : Good X G S) (h : cPart r S e = some t) : MO X G e t := by
  cases e with
  | none => cases h; exact mo_none
  | some e =>
    unfold cPart at h
    cases e1 : r.e S e with
    | none => simp [e1] at h
    | some te => simp only [e1, Option.map_some, Option.some.injEq] at h; subst h; exact mo_some (ro.e g e1)
def stepE (r : Rec) (S : SEnv) : Expr → Option SE
  | .Name x _ => cName S x
  | .Constant c _ _ => cConst c
  | .BinOp a op b _ => match binOp op, r.e S a, r.e S b with | some f, some ta, some tb => some (eBin f ta tb) | _, _, _ => none
  | .UnaryOp .USub a _ => (r.e S a).map (eUn opNeg)
  | .UnaryOp .Not a _ => (r.e S a).map eNot
  | .Compare a [op] [b] _ => if notSet b then match r.e S a, r.e S b with | some ta, some tb => some (eBin (cmpOp op) ta tb) | _, _ => none else none
  | .Compare a [op, op'] [b, c] _ => if notSet c then match r.e S a, r.e S b, r.e S c with | some ta, some tb, some tc => some (eChain (cmpOp op) (cmpOp op') ta tb tc) | _, _, _ => none else none
  | .BoolOp op es _ => cBoolV r S op es
  | .IfExp c a b _ => match r.c S c, r.e S a, r.e S b with | some tc, some ta, some tb => some (eIf tc ta tb) | _, _, _ => none
  | .Tuple es _ _ => (cArgs r S es).map eTup
  | .List es _ => (cArgs r S es).map eLst
  | .Subscript a (.Slice none none (some (.UnaryOp .USub (.Constant (.int 1) _ _) _)) _) _ => match r.e S a with | some ta => some (eRev ta) | none => none
  | .Subscript a (.Slice lo hi none _) _ => match r.e S a, cPart r S lo, cPart r S hi with | some ta, some tl, some th => some (eSl ta tl th) | _, _, _ => none
  | .Subscript a b _ => if notSlice b then match r.e S a, r.e S b with | some ta, some tb => some (eBin opIx ta tb) | _, _ => none else none
  | .Call (.Name f _) args [] _ => cCallN r S f args
  | .Call (.Attribute o m apos) args [] cpos => cCallM r S o m apos cpos args
  | .ListComp elt [⟨tg, iter, ifs, 0⟩] scope _ => cLc r S elt tg iter ifs scope
  | .Attribute (.Name n _) f _ => if S.flds.contains f then (excVar S n).map fun x => eFld x f else none
  | _ => none
theorem stepE_ok {e : Expr} {t : SE} (ro : RecOk r) (g : Good X G S) (h : stepE r S e = some t) : ME X G e t := by
  unfold stepE at h
  split at h
  · exact cName_ok g h
  · exact cConst_ok h
  · split at h
    · rename_i e1 e2 e3; cases h; exact me_bin (binOp_ok g e1) (ro.e g e2) (ro.e g e3)
    · cases h
  · rename_i a _
    cases e : r.e S a with
    | none => rw [e] at h; cases h
    | some te => rw [e] at h; cases h; exact me_un ur_neg (ro.e g e)
  · rename_i a _
    cases e : r.e S a with
    | none => rw [e] at h; cases h
    | some te => rw [e] at h; cases h; exact me_not g.K (ro.e g e)
  · split at h
    · rename_i hb
      split at h
      · rename_i e1 e2; cases h; exact me_cmp (cmpOp_ok g) (ro.e g e1) (ro.e g e2) (mark_no hb)
      · cases h
    · cases h
  · split at h
    · rename_i hb
      split at h
      · rename_i e1 e2 e3; cases h; exact me_chain (cmpOp_ok g) (cmpOp_ok g) (ro.e g e1) (ro.e g e2) (ro.e g e3) (by show behindInMarks _ _ = false; exact mark_no hb)
      · cases h
    · cases h
  · exact cBoolV_ok ro g h
  · split at h
    · rename_i e1 e2 e3; cases h; exact me_ifExp (ro.c g e1) (ro.e g e2) (ro.e g e3)
    · cases h
  · rename_i es _ _
    cases e : cArgs r S es with
    | none => rw [e] at h; cases h
    | some tt => rw [e] at h; cases h; exact me_tup (cArgs_ok ro g e).1
  · rename_i es _
    cases e : cArgs r S es with
    | none => rw [e] at h; cases h
    | some tt => rw [e] at h; cases h; exact me_lst (cArgs_ok ro g e).1
  · split at h
    · rename_i e1; cases h; exact me_rev g.K (ro.e g e1)
    · cases h
  · split at h
    · rename_i e1 e2 e3; cases h; exact me_slice g.K (ro.e g e1) (cPart_ok ro g e2) (cPart_ok ro g e3)
    · cases h
  · split at h
    · rename_i hb
      split at h
      · rename_i e1 e2; cases h; exact me_ix (xr_ix g.K) (ro.e g e1) (ro.e g e2) (ix_plain hb)
      · cases h
    · cases h
  · exact cCallN_ok ro g h
  · exact cCallM_ok ro g h
  · exact cLc_ok ro g h
  · rename_i n q f q2
    split at h
    · rename_i hf
      cases e : excVar S n with
      | none => rw [e] at h; cases h
      | some x =>
        rw [e] at h; cases h
        obtain ⟨m, h1, rfl, h3, h4, h5⟩ := excVar_ok g e
        exact me_fld g.su h1 g.K h3 h4 (okNm1 h5) (okNm2 h5) (fun C hC => g.xf _ C hC) (by simpa using hf)
    · cases h
  · cases h

/-! ### tests -/
def cBoolT (r : Rec) (S : SEnv) (op : BoolOp) : List Expr → Option SC
  | [] => none
  | [a] => r.c S a
  | a :: b :: rest => match r.c S a, cBoolT r S op (b :: rest) with
    | some ta, some tb => match op with | .And => some (cAnd ta tb) | .Or => some (cOr ta tb)
    | _, _ => none
theorem cBoolT_ok {op : BoolOp} {pos : Pos} (ro : RecOk r) (g : Good X G S) : ∀ {es : List Expr} {t : SC}, cBoolT r S op es = some t → MW X G (.BoolOp op es pos) t
  | [], t, h => by cases h
  | [a], t, h => by
    cases op with
    | And => exact mw_and1 (ro.c g h)
    | Or => exact mw_or1 (ro.c g h)
  | a :: b :: rest, t, h => by
    unfold cBoolT at h
    cases e1 : r.c S a with
    | none => simp [e1] at h
    | some ta =>
      cases e2 : cBoolT r S op (b :: rest) with
      | none => simp [e1, e2] at h
      | some tb =>
        simp only [e1, e2] at h
        cases op with
        | And => cases h; exact mw_and (ro.c g e1) (cBoolT_ok ro g e2)
        | Or => cases h; exact mw_or (ro.c g e1) (cBoolT_ok ro g e2)
def stepC (r : Rec) (S : SEnv) : Expr → Option SC
  | .UnaryOp .Not a _ => (r.c S a).map cNot
  | .BoolOp op es _ => cBoolT r S op es
  | .Compare a [op] [b] _ => if notSet b then match r.e S a, r.e S b with | some ta, some tb => some (cB (eBin (cmpOp op) ta tb)) | _, _ => none else none
  | .Compare a [op, op'] [b, c] _ => if notSet c then match r.e S a, r.e S b, r.e S c with | some ta, some tb, some tc => some (cB (eChain (cmpOp op) (cmpOp op') ta tb tc)) | _, _, _ => none else none
  | e => if notTest e then (r.e S e).map cT else none
theorem stepC_ok {e : Expr} {t : SC} (ro : RecOk r) (g : Good X G S) (h : stepC r S e = some t) : MC X G e t := by
  unfold stepC at h
  split at h
  · rename_i a _
    cases e : r.c S a with
    | none => rw [e] at h; cases h
    | some te => rw [e] at h; cases h; exact mc_not (ro.c g e)
  · exact (cBoolT_ok ro g h).mc
  · split at h
    · rename_i hb
      split at h
      · rename_i e1 e2; cases h; exact mc_cmp (cmpOp_ok g) (ro.e g e1) (ro.e g e2) (mark_no hb)
      · cases h
    · cases h
  · split at h
    · rename_i hb
      split at h
      · rename_i e1 e2 e3; cases h; exact mc_chain (cmpOp_ok g) (cmpOp_ok g) (ro.e g e1) (ro.e g e2) (ro.e g e3) (by show behindInMarks _ _ = false; exact mark_no hb)
      · cases h
    · cases h
  · split at h
    · rename_i hb
      cases e1 : r.e S e with
      | none => rw [e1] at h; cases h
      | some te => rw [e1] at h; cases h; exact mc_tru g.K (ro.e g e1) (true_plain hb)
    · cases h

/-! ### statements -/
def cSs (r : Rec) (S : SEnv) : List Stmt → Option SS
  | [] => some sNop
  | [st] => r.s S st
  | st :: rest => match r.s S st, cSs r S rest with | some t, some u => some (sSeq t u) | _, _ => none
theorem cSs_ok (ro : RecOk r) (g : Good X G S) (hp : PassesOwn (model X.prog X.w) X.A X.env X.xe) : ∀ {sts : List Stmt} {t : SS}, cSs r S sts = some t → MSs X G sts t
  | [], t, h => by cases h; exact mss_nil
  | [st], t, h => mss_one (ro.s g hp h)
  | st :: st2 :: rest, t, h => by
    unfold cSs at h
    · cases e1 : r.s S st with
      | none => simp [e1] at h
      | some t1 =>
        cases e2 : cSs r S (st2 :: rest) with
        | none => simp [e1, e2] at h
        | some u =>
          simp only [e1, e2, Option.some.injEq] at h
          subst h
          exact mss_cons (ro.s g hp e1) (cSs_ok ro g hp e2)
def lcSw (S : SEnv) (y : Str) (py pos : Pos) (scope : Scope) : Bool := (match S.names.lookup y with | some .local => true | _ => false) && (py.line == pos.line) && !(scope.names.any fun (n, k) => n == y && (k == .local || k == .cell))
/-- a name that a comprehension reads, too -/
def cellK (S : SEnv) (y : Str) : Bool := match S.names.lookup y with | some .cell => true | _ => false
theorem sw_cell {elt : Expr} {gs : List Comprehension} {scope : Scope} {pos py : Pos} {y : Str} {l : Nat} {env : PySem.Env} (hy : env.scope.names.lookup y = some .cell) : swapsWith (.ListComp elt gs scope pos) (some (.Name y py)) l env = pure false := by
  have ky : env.kindOf y = some .cell := hy
  unfold swapsWith
  simp only [ky]
  rw [show (some NameKind.cell == some NameKind.local) = false from rfl, Bool.and_false, Bool.false_and, Bool.false_and]
def cAsg (r : Rec) (S : SEnv) (tg value : Expr) : Option SS := match tg, value with
  | .Name y py, .ListComp elt [⟨ctg, iter, ifs, 0⟩] scope pos => if lcSw S y py pos scope || cellK S y then match cTgN S y, cLc r S elt ctg iter ifs scope with | some t, some te => some (sAsg te t) | _, _ => none else none
  | .Name y _, value => if notComp value then match cTgN S y, r.e S value with | some t, some te => some (sAsg te t) | _, _ => none else none
  | .Tuple es k p, value => if notComp value && notTup value then match cTg S (.Tuple es k p), r.e S value with | some t, some te => some (sAsg te t) | _, _ => none else none
  | .Subscript o i _, value => if notComp value && notSlice i then match r.e S o, r.e S i, r.e S value with | some to, some ti, some tv => some (sSet to ti tv) | _, _, _ => none else none
  | _, _ => none
theorem cTgN_nm {x : Str} {t : Tg} (g : Good X G S) (h : cTgN S x = some t) : ∃ i, t = .nm i ∧ S.N[i]? = some x ∧ L2.Loc X.env.scope x ∧ (X.fn x = true ∨ X.env.scope.names.lookup x = some .local) ∧ NoX G [i] := by
  unfold cTgN at h
  by_cases hb : (locK S x && stoK S x) = true
  · rw [if_pos hb] at h
    rw [Bool.and_eq_true] at hb
    cases e : idx S x with
    | none => rw [e] at h; cases h
    | some i =>
      simp only [e] at h
      by_cases hx : noxB S [i] = true
      · rw [if_pos hx] at h; cases h
        exact ⟨i, rfl, idx_get e, g.loc hb.1, g.sto hb.2, g.nox hx⟩
      · rw [if_neg hx] at h; cases h
  · rw [if_neg hb] at h; cases h
theorem cAsg_ok {tg value : Expr} {pos : Pos} {t : SS} (ro : RecOk r) (g : Good X G S) (h : cAsg r S tg value = some t) : MS X G (.Assign [tg] value pos) t := by
  unfold cAsg at h
  split at h
  · rename_i y py elt ctg iter ifs scope vpos
    split at h
    · rename_i hb
      split at h
      · rename_i t1 te e1 e2
        cases h
        rw [Bool.or_eq_true] at hb
        rcases hb with hb | hb
        · unfold lcSw at hb
          simp only [Bool.and_eq_true, Bool.not_eq_true'] at hb
          obtain ⟨⟨b1, b2⟩, b3⟩ := hb
          obtain ⟨i, rfl, hi, hl, hs, hx⟩ := cTgN_nm g e1
          obtain ⟨ti, tt, te', tgt, rfl, L⟩ := cLc_parts ro g e2
          have hy : X.env.scope.names.lookup y = some .local := by
            rw [g.names]
            cases e : S.names.lookup y with
            | none => rw [e] at b1; cases b1
            | some k => rw [e] at b1; cases k <;> first | contradiction | rfl
          exact ms_setLc L.calm (by rw [g.N]; exact g.nd) (by rw [g.N]; exact hi) hy (sw_true g.kind hy b2 b3) L.hi L.ok L.hg L.ht L.he L.hs L.hsl L.hx hx
        · unfold cellK at hb
          obtain ⟨i, rfl, hi, hl, hs, hx⟩ := cTgN_nm g e1
          have hy : X.env.scope.names.lookup y = some .cell := by
            rw [g.names]
            cases e : S.names.lookup y with
            | none => rw [e] at hb; cases hb
            | some k => rw [e] at hb; cases k <;> first | contradiction | rfl
          exact ms_set (by rw [g.N]; exact g.nd) (by rw [g.N]; exact hi) hl (cLc_ok ro g e2) (sw_cell hy) hs hx
      · cases h
    · cases h
  · rename_i y py _
    split at h
    · rename_i hb
      split at h
      · rename_i t1 te e1 e2
        cases h
        obtain ⟨i, rfl, hi, hl, hs, hx⟩ := cTgN_nm g e1
        exact ms_set (by rw [g.N]; exact g.nd) (by rw [g.N]; exact hi) hl (ro.e g e2) (sw_plain hb) hs hx
      · cases h
    · cases h
  · split at h
    · rename_i hb
      rw [Bool.and_eq_true] at hb
      split at h
      · rename_i t1 te e1 e2
        cases h
        exact ms_asg (ro.e g e2) (cTg_ok g e1) (by unfold swapsWithSole; exact sw_plain hb.1) (stores_plain hb.2) rfl
      · cases h
    · cases h
  · rename_i o i p
    split at h
    · rename_i hb
      rw [Bool.and_eq_true] at hb
      split at h
      · rename_i to ti tv e1 e2 e3
        cases h
        refine ms_sub (ro.e g e3) (ro.e g e1) (ro.e g e2) (fun v => ?_) (by unfold swapsWithSole; exact sw_plain hb.1) ?_ rfl
        · have hi := hb.2
          cases i <;> first | rfl | contradiction
        · unfold swappedStores
          rfl
      · cases h
    · cases h
  · cases h
def cRaise (r : Rec) (S : SEnv) (c : Str) (args : List Expr) : Option SS := match args, S.Γ.lookup c with
  | a :: es, some (.exc fl k _) => if okNm c && glbK S c && !S.hot && decide (k + 1 ≤ S.lv) && decide ((a :: es).length = fl.length) then (cArgs r S (a :: es)).map (sRaise c fl) else none
  | [], some (.exc0 _) => if okNm c && glbK S c && !S.hot then some (sRaise c [] aNil) else none
  | _, _ => none
theorem cRaise_ok {c : Str} {args : List Expr} {p pos pos' : Pos} {t : SS} (ro : RecOk r) (g : Good X G S) (h : cRaise r S c args = some t) : MS X G (.Raise (some (.Call (.Name c p) args [] pos)) none pos') t := by
  unfold cRaise at h
  split at h
  · rename_i a es fl k tab e
    split at h
    · rename_i hb
      simp only [Bool.and_eq_true, Bool.not_eq_true', decide_eq_true_eq] at hb
      obtain ⟨⟨⟨⟨b1, b2⟩, b3⟩, b4⟩, b5⟩ := hb
      cases ea : cArgs r S (a :: es) with
      | none => rw [ea] at h; cases h
      | some tt =>
        rw [ea] at h; cases h
        obtain ⟨h1, h2⟩ := cArgs_ok ro g ea
        simp only [List.all_cons, Bool.and_eq_true] at h2
        obtain ⟨ek, _⟩ := g.g c _ e
        exact ms_raise g.P g.w g.K g.mg g.base ek (g.calm b3) ((g.room b3).mono b4) (g.gl b2) h1 b5 (okNm1 b1) (star_cons h2.1) (star_any h2.2)
    · cases h
  · rename_i tab e
    split at h
    · rename_i hb
      simp only [Bool.and_eq_true, Bool.not_eq_true'] at hb
      obtain ⟨⟨b1, b2⟩, b3⟩ := hb
      cases h
      obtain ⟨ek, _⟩ := g.g c _ e
      exact ms_raise0 g.K g.mg ek (g.calm b3) (g.gl b2) (okNm1 b1)
    · cases h
  · cases h
def suiteS (S : SEnv) (i : Nat) (x : Exn) : SEnv := { S with xi := some i, hot := true, top := false, xx := some x, Γ := S.Γ.filter fun p => match p.2 with | .fn _ _ _ => false | _ => true }
def suite0 (S : SEnv) : SEnv := { S with hot := true, top := false, xx := none, Γ := S.Γ.filter fun p => match p.2 with | .fn _ _ _ => false | _ => true }
def badS : SS := fun _ _ _ => False
theorem mss_bad {sts : List Stmt} : MSs X G sts badS := fun W tk => ⟨fun pins s σ H D I h => by obtain ⟨_, _, _, _, _, h, _⟩ := h; exact (h : False).elim⟩
theorem hot_of {a : Addr} {oe : Obj} {cls : Value} {d : Option Addr} {pn : List (Addr × Obj)} (hz : L2N.Zn cls d oe) (hv : ∃ vs, oe.data = .fields vs) : L2H.HotC (X.suite a ((a, oe) :: pn)) := by
  obtain ⟨vs, e⟩ := hv
  exact ⟨(a, oe), ⟨rfl, vs, e, hz.2.2 vs e⟩, List.mem_cons_self⟩
theorem lsp_in {x : Exn} {a : Addr} {cls : Value} {d : Option Addr} {i : Nat} {F : Fn} {n : Nat} {vs : List V} {H : Hp} {Q : VK} {E : XK} (h : LSp (G.inX x a cls d i) F n vs H Q E) : LSp G F n vs H Q E := by
  obtain ⟨al, M, ds, R, Ex, hl, m, r, hF, c, xc⟩ := h
  refine ⟨al, M, ds, R, Ex, hl, RMem.re (G := G.inX x a cls d i) (G0 := G) rfl rfl m, r, hF, fun H' al' M' v d' n1 r1 h1 => c _ _ _ _ _ (Nxt.re (G := G) (G0 := G.inX x a cls d i) rfl rfl n1) r1 h1, fun H' al' M' x' cls' dd n1 r1 h1 => xc _ _ _ _ _ _ (Nxt.re (G := G) (G0 := G.inX x a cls d i) rfl rfl n1) r1 h1⟩
theorem fnH_imp {P : Program} {w : World} {K : PySem.W.Frag} {mg : Str → Option Value} {base : Heap} {CX : CXT} {k : Nat} {f : Addr} {fd : FuncData} {ps : List Str} {sp sp' : Sp} (F : L2H.FnH P w K mg base CX k f fd ps sp)
    (h : ∀ vs H Q E, sp' vs H Q E → sp vs H Q E) : L2H.FnH P w K mg base CX k f fd ps sp' :=
  ⟨fun vs H Q E q => F.len vs H Q E (h _ _ _ _ q), fun A outer s H args us vs Q E p hr ho hp he hb hv hs => F.run A outer s H args us vs Q E p hr ho hp he hb hv (h _ _ _ _ hs)⟩
theorem suite_good (g : Good X G S) (hc : S.hot = false) {i : Nat} {a : Addr} {oe : Obj} {cls : Value} {d : Option Addr} {pn : List (Addr × Obj)} {x : Exn} (hz : L2N.Zn cls d oe) (hv : ∃ vs, oe.data = .fields vs) : Good (X.suite a ((a, oe) :: pn)) (G.inX x a cls d i) (suiteS S i x) where
  P := g.P
  w := g.w
  K := g.K
  mg := g.mg
  base := g.base
  kind := g.kind
  names := g.names
  N := g.N
  nd := g.nd
  calm := fun h => (by cases h)
  room := fun h => (by cases h)
  hotc := fun _ => hot_of hz hv
  roomH := fun _ => ⟨(g.room hc).dp, (g.room hc).un⟩
  un := g.un
  fn := g.fn
  xn := fun n e => (by cases e; rfl)
  all := fun y ge e => (by
    obtain ⟨h1, h2⟩ := List.mem_filter.mp e
    have ok := g.all y ge h1
    cases ge with
    | fn k np F => cases h2
    | fnH k np F =>
      obtain ⟨f, fd, ps, q1, q2, q3, q4, q5, q6⟩ := ok
      exact ⟨f, fd, ps, q1, q2, q3, FnOk.imp q4 fun vs H Q E h => lsp_in h, fnH_imp q5 fun vs H Q E h => lsp_in h, q6⟩
    | const d => exact ok
    | blt => exact ok
    | exc fl k tab => exact ok
    | exc0 tab => exact ok
    | cls tab => exact ok
    | clsB T tab => exact ok)
  cold := fun h => (by cases h)
  xx := fun y h => (by cases h; exact ⟨_, rfl, rfl, rfl⟩)
  su := fun n e => (by cases e; exact ⟨X, oe, pn, rfl, hz.zc, hv⟩)
  xf := g.xf
  st := fun h => (by cases h)
theorem suite0_good (g : Good X G S) (hc : S.hot = false) {a : Addr} {oe : Obj} {cls : Value} {d : Option Addr} {pn : List (Addr × Obj)} (hz : L2N.Zn cls d oe) (hv : ∃ vs, oe.data = .fields vs) : Good (X.suite a ((a, oe) :: pn)) G (suite0 S) where
  P := g.P
  w := g.w
  K := g.K
  mg := g.mg
  base := g.base
  kind := g.kind
  names := g.names
  N := g.N
  nd := g.nd
  calm := fun h => (by cases h)
  room := fun h => (by cases h)
  hotc := fun _ => hot_of hz hv
  roomH := fun _ => ⟨(g.room hc).dp, (g.room hc).un⟩
  un := g.un
  fn := g.fn
  xn := g.xn
  all := fun y ge e => g.all y ge (List.mem_filter.mp e).1
  cold := fun h => (by cases h)
  xx := fun y h => (by cases h)
  su := fun n e => (by rw [g.cold hc] at e; cases e)
  xf := g.xf
  st := fun h => (by cases h)
theorem tr_good (g : Good X G S) (pn : List (Addr × Obj)) (xe : Value → Shared → Prop) (hh : S.hot = false) : Good (X.tr pn xe) G S :=
  { g with su := fun n e => (by rw [g.cold hh] at e; cases e), hotc := fun h => (by rw [hh] at h; cases h) }
def locB (S : SEnv) (n : Str) : Bool := match S.names.lookup n with | some .local => true | _ => false
/-- the clauses of a try -/
def cHd (r : Rec) (S : SEnv) : ExceptHandler → Option Hdl
  | .ExceptHandler (some (.Name c _)) none (b0 :: su) _ => if okNm c && glbK S c then (tabOf S c).map fun tab => ⟨none, tab, fun _ => (cSs r (suite0 S) (b0 :: su)).getD badS⟩ else none
  | .ExceptHandler (some (.Name c _)) (some n) (b0 :: su) _ => if okNm c && glbK S c && locB S n then match tabOf S c, idx S n with
    | some tab, some i => some ⟨some i, tab, fun x => (cSs r (suiteS S i x) (b0 :: su)).getD badS⟩
    | _, _ => none else none
  | _ => none
def cHds (r : Rec) (S : SEnv) : List ExceptHandler → Option (List Hdl)
  | [] => some []
  | h :: hs => match cHd r S h, cHds r S hs with | some k, some l => some (k :: l) | _, _ => none
theorem cHds_ok (ro : RecOk r) (g : Good X G S) (hc : S.hot = false) : ∀ {hds : List ExceptHandler} {l : List Hdl}, cHds r S hds = some l → HdK X G hds l
  | [], l, h => by cases h; exact .nil
  | hd :: hds, l, h => by
    unfold cHds at h
    cases e1 : cHd r S hd with
    | none => simp [e1] at h
    | some k =>
      cases e2 : cHds r S hds with
      | none => simp [e1, e2] at h
      | some l2 =>
        simp only [e1, e2, Option.some.injEq] at h
        subst h
        have ih := cHds_ok ro g hc e2
        unfold cHd at e1
        split at e1
        · rename_i c np b0 su pos'
          split at e1
          · rename_i hb
            rw [Bool.and_eq_true] at hb
            cases et : tabOf S c with
            | none => rw [et] at e1; cases e1
            | some tab =>
              rw [et] at e1; cases e1
              obtain ⟨cw, cv, _, _, c3, c4⟩ := tabOf_ok (p := np) g hb.2 hb.1 et
              refine .plain rfl c4 c3 (fun x a oe cls d pn hz hv => ?_) ih
              show MSs _ _ _ ((cSs r (suite0 S) (b0 :: su)).getD badS)
              cases e : cSs r (suite0 S) (b0 :: su) with
              | none => exact mss_bad
              | some t' => exact cSs_ok ro (suite0_good g hc hz hv) PassesOwn.never e
          · cases e1
        · rename_i c np n b0 su pos'
          split at e1
          · rename_i hb
            rw [Bool.and_eq_true, Bool.and_eq_true] at hb
            obtain ⟨⟨b3, b4⟩, b5⟩ := hb
            split at e1
            · rename_i tab i et ei
              cases e1
              obtain ⟨cw, cv, _, _, c3, c4⟩ := tabOf_ok (p := np) g b4 b3 et
              refine .as rfl (by rw [g.N]; exact g.nd) (by rw [g.N]; exact idx_get ei) ?_ c4 c3 (fun x a oe cls d pn hz hv => ?_) ih
              · show X.env.scope.names.lookup n = some .local
                rw [g.names]
                unfold locB at b5
                cases e : S.names.lookup n with
                | none => rw [e] at b5; cases b5
                | some k => rw [e] at b5; cases k <;> first | contradiction | rfl
              · show MSs _ _ _ ((cSs r (suiteS S i x) (b0 :: su)).getD badS)
                cases e : cSs r (suiteS S i x) (b0 :: su) with
                | none => exact mss_bad
                | some t' => exact cSs_ok ro (suite_good g hc hz hv) PassesOwn.never e
            · cases e1
          · cases e1
        · cases e1
def cTry (r : Rec) (S : SEnv) (body : List Stmt) (hds : List ExceptHandler) : Option SS :=
  if S.top && !S.hot then match cSs r S body, cHds r S hds with
    | some tb, some l => some (sTryG l tb)
    | _, _ => none
  else none
theorem cTry_ok {body : List Stmt} {h0 : ExceptHandler} {hds : List ExceptHandler} {pos : Pos} {t : SS} (ro : RecOk r) (g : Good X G S) (h : cTry r S body (h0 :: hds) = some t) : MS X G (.Try body (h0 :: hds) [] [] pos) t := by
  unfold cTry at h
  split at h
  · rename_i hb
    simp only [Bool.and_eq_true, Bool.not_eq_true'] at hb
    obtain ⟨b1, b2⟩ := hb
    split at h
    · rename_i tb l e1 e2
      cases h
      obtain ⟨hs, hf⟩ := g.st b1
      exact ms_tryG (g.cold b2) g.K hs hf (fun pn xe hp => cSs_ok ro (tr_good g pn xe b2) hp e1) (cHds_ok ro g b2 e2)
    · cases h
  · cases h
def stepS (r : Rec) (S : SEnv) : Stmt → Option SS
  | .Expr e _ => if notComp e then (r.e S e).map sEx else none
  | .Return none _ => some sRetN
  | .Return (some e) _ => (r.e S e).map sRet
  | .If c a b _ => match r.c S c, cSs r S a, cSs r S b with | some tc, some ta, some tb => some (sIf tc ta tb) | _, _, _ => none
  | .Assign [tg] value _ => cAsg r S tg value
  | .For tg iter body [] _ => if notSet iter then match (if S.hot = true then cItH r S iter else cIt r S tg iter), cTg S tg, cSs r S body with | some ti, some g, some tb => some (sFor ti g tb) | _, _, _ => none else none
  | .While c body [] _ => match r.c S c, cSs r S body with | some tc, some tb => some (sWhile tc tb) | _, _ => none
  | .Pass _ => some sNop
  | .Break _ => some sBreak
  | .Continue _ => some sCont
  | .Raise (some (.Call (.Name c _) args [] _)) none _ => cRaise r S c args
  | .Try body (h0 :: hds) [] [] _ => cTry r S body (h0 :: hds)
  | _ => none
theorem stepS_ok {st : Stmt} {t : SS} (ro : RecOk r) (g : Good X G S) (hp : PassesOwn (model X.prog X.w) X.A X.env X.xe) (h : stepS r S st = some t) : MS X G st t := by
  unfold stepS at h
  split at h
  · rename_i e _
    split at h
    · rename_i hb
      cases e1 : r.e S e with
      | none => rw [e1] at h; cases h
      | some te => rw [e1] at h; cases h; exact ms_expr (ro.e g e1) (sw_plain hb)
    · cases h
  · cases h; exact ms_retN
  · rename_i e _
    cases e1 : r.e S e with
    | none => rw [e1] at h; cases h
    | some te => rw [e1] at h; cases h; exact ms_ret (ro.e g e1)
  · split at h
    · rename_i e1 e2 e3; cases h; exact ms_if (ro.c g e1) (cSs_ok ro g hp e2) (cSs_ok ro g hp e3)
    · cases h
  · exact cAsg_ok ro g h
  · split at h
    · rename_i hb
      split at h
      · rename_i e1 e2 e3
        cases h
        cases hh : S.hot with
        | true => rw [hh, if_pos rfl] at e1; exact ms_forH hp (g.hotc hh) (cItH_ok ro g e1) (cTg_ok g e2) (cSs_ok ro g hp e3) (fold_plain hb)
        | false => rw [hh, if_neg Bool.false_ne_true] at e1; exact ms_for hp (g.calm hh) (cIt_ok ro g e1) (cTg_ok g e2) (cSs_ok ro g hp e3) (fold_plain hb)
      · cases h
    · cases h
  · split at h
    · rename_i e1 e2; cases h; exact ms_while hp (ro.c g e1) (cSs_ok ro g hp e2)
    · cases h
  · cases h; exact ms_pass
  · cases h; exact ms_break
  · cases h; exact ms_cont
  · exact cRaise_ok ro g h
  · exact cTry_ok ro g h
  · cases h
end
def recN : Nat → Rec
  | 0 => ⟨fun _ _ => none, fun _ _ => none, fun _ _ => none⟩
  | n + 1 => ⟨stepE (recN n), stepC (recN n), stepS (recN n)⟩
theorem recN_ok : ∀ n, RecOk (recN n)
  | 0 => { e := fun _ h => (by cases h), c := fun _ h => (by cases h), s := fun _ _ h => (by cases h) }
  | n + 1 => ⟨fun g h => stepE_ok (recN_ok n) g h, fun g h => stepC_ok (recN_ok n) g h, fun g hp h => stepS_ok (recN_ok n) g hp h⟩
theorem room_un {k : Nat} {A : Around} (r : Room k A) : A.units + 65 < cLine := by have := r.un; omega
/-! ### defs -/
def senv (Γ : List (Str × GE)) (lv : Nat) (N : List Str) (sc : Scope) (flds : List Str) : SEnv := { names := sc.names, N := N, fnall := true, fnl := [], lv := lv, Γ := Γ, xi := none, top := true, flds := flds }
/-- the reading of a def: its names N (the parameters first), the level of the defs that it calls -/
def cDef (Γ : List (Str × GE)) (lv : Nat) (N : List Str) (st : Stmt) (flds : List Str := []) : Option SS := cSs (recN 40) (senv Γ lv N (defScope st) flds) (defBody st)
theorem cDef_ok {G : GC} {Γ : List (Str × GE)} {flds : List Str} {lv : Nat} {x qual : Str} {st : Stmt} {f : Addr} {fd : FuncData} {N ps : List Str} {t : SS} (hx : G.xn = none) (hxf : ∀ n C, G.cm n = some C → XfK G.K C flds) (hΓ : GAll G Γ) (F : Fun G.K x qual st f fd) (Sc : FnScope N ps (defScope st)) (h : cDef Γ lv N st flds = some t) :
    FnOk G.P G.w G.K G.mg G.base (CX G.P G.w) (lv + 1) f fd ps (LSp G (bodyF N.length t) ps.length) := by
  refine fn_body hx F Sc fun cdv A outer s H E hr => ?_
  refine cSs_ok (recN_ok 40) (S := senv Γ lv N (defScope st) flds) ?_ (passes_of rfl) h
  exact { P := rfl, w := rfl, K := rfl, mg := rfl, base := rfl, kind := Sc.kind, names := rfl, N := rfl, nd := Sc.nd, calm := fun _ => rfl, room := fun _ => hr, hotc := fun h => (by cases h), roomH := fun h => (by cases h), un := room_un hr, fn := fun _ _ => rfl, xn := fun n e => (by rw [hx] at e; cases e), all := hΓ, cold := fun _ => hx, xx := fun x e => (by cases e), su := fun n e => (by rw [hx] at e; cases e), xf := hxf, st := fun _ => ⟨rfl, rfl⟩ }
/-- the same reading, of a def that is called where an exception is handled -/
def cDefH (Γ : List (Str × GE)) (lv : Nat) (N : List Str) (st : Stmt) (flds : List Str := []) : Option SS := cSs (recN 40) { senv Γ lv N (defScope st) flds with hot := true, top := false } (defBody st)
theorem roomH_un {k : Nat} {A : Around} (r : L2H.RoomH k A) : A.units + 65 < cLine := by have := r.un; omega
theorem cDefH_ok {G : GC} {Γ : List (Str × GE)} {flds : List Str} {lv : Nat} {x qual : Str} {st : Stmt} {f : Addr} {fd : FuncData} {N ps : List Str} {t : SS} (hx : G.xn = none) (hxf : ∀ n C, G.cm n = some C → XfK G.K C flds) (hΓ : GAll G Γ) (F : Fun G.K x qual st f fd) (Sc : FnScope N ps (defScope st)) (h : cDefH Γ lv N st flds = some t) :
    L2H.FnH G.P G.w G.K G.mg G.base (CX G.P G.w) (lv + 1) f fd ps (LSp G (bodyF N.length t) ps.length) := by
  refine fn_bodyH hx F Sc fun cdv A outer s H E p hot hr => ?_
  refine cSs_ok (recN_ok 40) (S := { senv Γ lv N (defScope st) flds with hot := true, top := false }) ?_ (passes_of rfl) h
  exact { P := rfl, w := rfl, K := rfl, mg := rfl, base := rfl, kind := Sc.kind, names := rfl, N := rfl, nd := Sc.nd, calm := fun h => (by cases h), room := fun h => (by cases h), hotc := fun _ => ⟨p, hot, List.mem_cons_self⟩, roomH := fun _ => hr, un := roomH_un hr, fn := fun _ _ => rfl, xn := fun n e => (by rw [hx] at e; cases e), all := hΓ, cold := fun h => (by cases h), xx := fun x e => (by cases e), su := fun n e => (by rw [hx] at e; cases e), xf := hxf, st := fun h => (by cases h) }
end DN

set_option maxHeartbeats 4000000
/-! the ends: the law's promise over the script -/
namespace DN
open PySem PySem.Spec L2
theorem gok_nil {G : GC} : GAll G [] := fun x ge h => by cases h
theorem gok_cons {G : GC} {x : Str} {ge : GE} {Γ : List (Str × GE)} (h : GEok G x ge) (t : GAll G Γ) : GAll G ((x, ge) :: Γ) := fun y ge' e => by
  rcases List.mem_cons.mp e with e | e
  · cases e; exact h
  · exact t y ge' e
theorem fn_bot {G : GC} {k n : Nat} {f : Addr} {fd : FuncData} {ps : List Str} : FnOk G.P G.w G.K G.mg G.base (CX G.P G.w) k f fd ps (LSp G (fun _ _ _ _ => False) n) :=
  ⟨fun vs H Q E h => by obtain ⟨_, _, _, _, _, _, _, _, h, _⟩ := h; exact h.elim, fun _ _ _ _ _ _ _ _ _ _ _ _ _ h => by obtain ⟨_, _, _, _, _, _, _, _, h, _⟩ := h; exact h.elim⟩
theorem fnH_bot {G : GC} {k n : Nat} {f : Addr} {fd : FuncData} {ps : List Str} : L2H.FnH G.P G.w G.K G.mg G.base (CX G.P G.w) k f fd ps (LSp G (fun _ _ _ _ => False) n) :=
  ⟨fun vs H Q E h => by obtain ⟨_, _, _, _, _, _, _, _, h, _⟩ := h; exact h.elim, fun _ _ _ _ _ _ _ _ _ _ _ _ _ _ _ _ h => by obtain ⟨_, _, _, _, _, _, _, _, h, _⟩ := h; exact h.elim⟩
section
variable {G G0 : GC}
theorem lsp_re (hK : G.K = G0.K) (hc : G.cm = G0.cm) {F : Fn} {n : Nat} {vs : List V} {H : Hp} {Q : VK} {E : XK} (h : LSp G0 F n vs H Q E) : LSp G F n vs H Q E := by
  obtain ⟨al, M, ds, R, Ex, hl, m, r, hF, c, xc⟩ := h
  refine ⟨al, M, ds, R, Ex, hl, RMem.re (G := G0) (G0 := G) hK.symm hc.symm m, by rw [hK]; exact r, hF, fun H' al' M' v d n1 r1 h1 => c _ _ _ _ _ (Nxt.re (G := G) (G0 := G0) hK hc n1) (by rw [← hK]; exact r1) h1, fun H' al' M' x cls dd n1 r1 h1 => xc _ _ _ _ _ _ (Nxt.re (G := G) (G0 := G0) hK hc n1) (by rw [← hK, ← hc]; exact r1) h1⟩
end
theorem rmem_nil {G : GC} {H : Hp} : RMem G H [] [] := ⟨by simp, rfl, fun n o e => by simp at e⟩
theorem rints {K : PySem.W.Frag} {H : Hp} {al : List Addr} : ∀ ns : List Int, RDats K H al (ns.map D.int) (ns.map V.int)
  | [] => RDats.nil
  | n :: ns => RDats.cons (by rw [RDat]) (rints ns)
/-- the law's promise -/
abbrev lawG (P : Program) (w : World) (K : PySem.W.Frag) (cm : Str → Option Addr) : GC := ⟨P, w, K, fun _ => none, ({} : Heap), cm, none⟩
theorem sp_law {G : GC} {F : Fn} {n : Nat} (hF : ∀ ns : List Int, ns.length ≤ n → F [.con (ns.map D.int)] [] (fun d _ => d = .bl true) fun _ _ => False) {H : Hp} {a : Addr} {ns : List Int} (hl : ns.length ≤ n) (o : L2.Only H) (s : SqL G.K H a (ns.map V.int)) :
    LSp G F 1 [.ref a] H (fun v _ => v = .bl true) fun _ _ _ => False := by
  refine ⟨[], [], [.con (ns.map D.int)], fun d _ => d = .bl true, fun _ _ => False, rfl, rmem_nil, ?_, hF ns hl, fun H' al' M' v d n r e => ?_, fun _ _ _ _ _ _ _ _ h => h⟩
  · exact RDats.cons (by rw [RDat]; exact ⟨a, _, rfl, SqF.of o s, rints ns⟩) RDats.nil
  · subst e
    rw [RDat] at r
    exact r
theorem cx_end {P : Program} {w : World} {H : Hp} {s : Shared} {e : Value} {s' : Shared} (h : CX P w [] H s (fun _ _ _ => False) e s') : False := by
  obtain ⟨_, _, _, _, _, _, _, _, _, _, _, _, h⟩ := h
  exact h
/-- the script, for walk_of -/
def spS (K : PySem.W.Frag) (n : Nat) : Sp := fun vs H Q _ => ∃ (a : Addr) (ns : List Int), vs = [.ref a] ∧ ns.length ≤ n ∧ SqL K H a (ns.map V.int) ∧ L2.Only H ∧ ∀ H', Q (.bl true) H'
theorem lsp_script {G : GC} {F : Fn} {n : Nat} (hF : ∀ ns : List Int, ns.length ≤ n → F [.con (ns.map D.int)] [] (fun d _ => d = .bl true) fun _ _ => False) {vs : List V} {H : Hp} {Q : VK} {E : XK} (h : spS G.K n vs H Q E) : LSp G F 1 vs H Q E := by
  obtain ⟨a, ns, rfl, hl, s, o, hq⟩ := h
  refine ⟨[], [], [.con (ns.map D.int)], fun d _ => d = .bl true, fun _ _ => False, rfl, rmem_nil, ?_, hF ns hl, fun H' al' M' v d n r e => ?_, fun _ _ _ _ _ _ _ _ h => h.elim⟩
  · exact RDats.cons (by rw [RDat]; exact ⟨a, _, rfl, SqF.of o s, rints ns⟩) RDats.nil
  · subst e
    rw [RDat] at r
    subst r
    exact hq _
theorem const_str {G : GC} {x y : Str} {t : Tok} (h : G.mg x = some (.str y t)) : GEok G x (.const (.str y)) := ⟨_, .str y, h, ⟨t, rfl⟩, fun H al => by rw [RDat]⟩
theorem const_int {G : GC} {x : Str} {i : Int} {t : Tok} (h : G.mg x = some (.int i t)) : GEok G x (.const (.int i)) := ⟨_, .int i, h, ⟨t, rfl⟩, fun H al => by rw [RDat]⟩
end DN

set_option maxHeartbeats 4000000
/-! the facts of own exception classes, by one look at the written part -/
namespace DN
open PySem PySem.Spec L2 NdefX
def isAt (K : PySem.W.Frag) (v : Value) (n : Str) (r : Option (Option Value)) : Bool := decide (PySem.W.findIn K v n = r)
def codeB (K : PySem.W.Frag) (P : Program) (c : Addr) : Bool := match K.lookup c with
  | some ⟨_, _, .fields vs, _⟩ => (match (vs[2]? : Option Value) with | some (Value.str file _) => (P.main.file : Str) == file | _ => false)
  | _ => false
def cellB (K : PySem.W.Frag) (cc C : Addr) : Bool := match K.lookup cc with
  | some ⟨_, _, .cell (some (.ref D)), _⟩ => D == C
  | _ => false
/-- what reading its fields and asking for its class needs -/
def xfkB (K : PySem.W.Frag) (C : Addr) (flds : List Str) : Bool :=
  xfB K C && (PySem.W.clsIn K C).isSome && isAt K (.ref C) "__class__" (some (some (.builtin "object.__class__"))) && decide (PySem.W.specialIn K (.builtin "object.__class__") "__get__" = some (some (.builtin "getset_descriptor.__get__"))) &&
    decide (PySem.W.takesIn K (.builtin "object.__class__") = some true) && decide (PySem.W.mroIn K C (.type "object") = some true) && flds.all fun f => isAt K (.ref C) f (some none)
theorem xfkB_ok {K : PySem.W.Frag} {C : Addr} {flds : List Str} (h : xfkB K C flds = true) : XfK K C flds := by
  unfold xfkB isAt at h
  simp only [Bool.and_eq_true, decide_eq_true_eq, List.all_eq_true] at h
  obtain ⟨⟨⟨⟨⟨⟨h1, h2⟩, h3⟩, h4⟩, h5⟩, h6⟩, h7⟩ := h
  exact ⟨xfB_ok h1, h2, h3, h4, h5, h6, h7⟩
def excB (K : PySem.W.Frag) (P : Program) (C fI cc c : Addr) (qual : Str) (fl : List Str) : Bool :=
  isAt K (.ref C) "__setattr__" (some (some (.builtin "object.__setattr__"))) && decide (PySem.W.subIn K (.ref C) (.type "BaseException") = some true) && decide (PySem.W.typeIn K (.ref C) = some (.type "type")) && PySem.W.keepIn K (.ref C) &&
    isAt K (.ref C) "__init__" (some (some (.ref fI))) && decide (PySem.W.typeIn K (.ref fI) = some (.type "function")) && PySem.W.codeIn K (.ref c) qual && codeB K P c && cellB K cc C && decide (PySem.W.mroIn K C (.ref C) = some true) &&
    decide (PySem.W.ks_superIn K C C "__init__" = some (some (.builtin "ValueError.__init__"))) && decide (PySem.W.subIn K (.ref C) (.type "ValueError") = some true) && decide (PySem.W.nsIn K cStatics "thirdparty.any" = some none) && fl.all fun f => isAt K (.ref C) f (some none)
/-- the __init__ of a class statement -/
def initS (st : Stmt) : Stmt := match st with
  | .ClassDef _ _ _ b _ _ _ _ _ _ _ => (b.find? fun s => match s with | .FunctionDef n _ _ _ _ _ _ _ _ _ => n == ("__init__" : Str) | _ => false).getD (.Pass ⟨0, 0, 0, 0⟩)
  | s => s
def initF (st : Stmt) (qual : Str) (cc c : Addr) : NF := ⟨"__init__", qual, defArgs (initS st), defBody (initS st), defScope (initS st), [(("__class__" : Str), cc)], c⟩
/-- what the text of an __init__ must be: computed once for each class -/
structure InitT (st : Stmt) (sf : Str) (fl : List Str) : Prop where
  sc : nscB (sf :: (fl ++ [("__class__" : Str)])) (sf :: fl) [("__class__" : Str)] (defScope (initS st)) = true
  ks : (defScope (initS st)).names.lookup ("super" : Str) = some .globalImplicit
  kc : (defScope (initS st)).names.lookup ("__class__" : Str) = some .free
  ka : (defScope (initS st)).names.lookup sf = some .local
  ar : ((defArgs (initS st)).posonlyargs ++ (defArgs (initS st)).args).head?.map (·.arg) = some sf
  d1 : (sf == ("__debug__" : Str)) = false
  d2 : (sf == ("__classdict__" : Str)) = false
  df : fl.all (fun f => !(f == ("__debug__" : Str)) && !(f == ("__classdict__" : Str))) = true
  nd : fl.Nodup
  ne : fl ≠ []
  len : fl.length ≤ 900
  body : ∃ (sts : List Stmt) (p0 p1 p2 p3 p4 p5 : Pos) (kk : Nat) (txt : Str) (pl : Sem Bool), Stores sf sts fl ∧ defBody (initS st) = sts ++ [.Expr (superE p0 p1 p2 p3 p4 kk txt) p5] ∧
    ∀ (qual : Str) (cc c f : Addr) (L : Addr), eval (superE p0 p1 p2 p3 p4 kk txt) (envF (initF st qual cc c) f L) = (do
      let ov ← attributeBase (.Call (.Name "super" p0) [] [] p1) "__init__" (envF (initF st qual cc c) f L) (eval (.Call (.Name "super" p0) [] [] p1) (envF (initF st qual cc c) f L))
      standAt p2.atName
      let (fx, first) ← holding [ov] (getMethod ov "__init__" pl)
      callWith p4 fx first (backTo p4 (starEach [.Constant (.str txt) kk p3] (envF (initF st qual cc c) f L))) [])
  bd : ∀ (qual : Str) (doc pm ctv : Value) (cc c : Addr) (us : List Value), us.length = (sf :: fl).length → bindArgs ((initF st qual cc c).fd doc pm ctv) ⟨us, []⟩ = pure ((sf :: fl).zip us)
theorem exc_mk {G : GC} {x qual sf : Str} {st : Stmt} {fl : List Str} {C fI cc c : Addr} (T : InitT st sf fl) {nm q : Str} {N : Addr} {bs bm : List Value} {sn : List Str} {sub : List Value} {ab : Bool} {col : Option Bool} {dd : Option Addr} {k0 k1 k2 k3 k5 : Option Value} {oc : Value} {od : Option Addr} {doc pm ctv : Value} {osl : Array (Option Value)}
    (hm : G.mg x = some (.ref C)) (hcm : G.cm x = some C) (lC : G.K.lookup C = some (excClassObj nm q C N bs bm true sn sub ab col dd k0 k1 k2 k3 k5 "ValueError.__new__")) (hbm : PySem.HandSPX.refsVE bm = true)
    (lf : G.K.lookup fI = some ⟨oc, od, .func ((initF st qual cc c).fd doc pm ctv), osl⟩) (b : excB G.K G.P C fI cc c qual fl = true) (hs : G.mg "super" = none) (htop : (G.P.main.scope.names.lookup ("super" : Str)).isSome = false) : ExcK G x fl 1 := by
  unfold excB isAt at b
  simp only [Bool.and_eq_true, decide_eq_true_eq, List.all_eq_true] at b
  obtain ⟨⟨⟨⟨⟨⟨⟨⟨⟨⟨⟨⟨⟨b1, b2⟩, b3⟩, b4⟩, b5⟩, b6⟩, b7⟩, b8⟩, b9⟩, b10⟩, b11⟩, b12⟩, b13⟩, b14⟩ := b
  have ox : OexC G.K C := ⟨⟨nm, q, N, bs, bm, sn, sub, ab, col, dd, k0, k1, k2, k3, k5, lC, hbm⟩, b1, b2, b3, b4⟩
  obtain ⟨sts, p0, p1, p2, p3, p4, p5, kk, txt, pl, t1, t2, t3⟩ := T.body
  have tdf : ∀ f ∈ fl, (f == ("__debug__" : Str)) = false ∧ (f == ("__classdict__" : Str)) = false := fun f hf => by
    have := List.all_eq_true.mp T.df f hf
    simpa using this
  have ic : InitC G.P G.K G.mg (initF st qual cc c) fI C cc sf := by
    refine ⟨ox, rfl, ?_, ?_, ?_, b10, b11, b12, b13, hs, htop, T.ks, T.kc, T.ka⟩
    · have ar := T.ar
      cases e : ((defArgs (initS st)).posonlyargs ++ (defArgs (initS st)).args).head? with
      | none => rw [e] at ar; cases ar
      | some a => rw [e] at ar; exact ⟨oc, od, osl, _, a, lf, e, by simpa using ar⟩
    · unfold codeB at b8
      split at b8
      · rename_i o1 o2 vs o3 e
        split at b8
        · rename_i file tf e2
          exact ⟨o1, o2, vs, o3, file, tf, e, e2, b8⟩
        · cases b8
      · cases b8
    · unfold cellB at b9
      split at b9
      · rename_i o1 o2 D o3 e
        have := beq_iff_eq.mp b9
        subst this
        exact ⟨o1, o2, o3, e⟩
      · cases b9
  refine ⟨C, fI, _, sf, hm, hcm, ox, b5, b6, fn_init (k := 0) (N := sf :: (fl ++ [("__class__" : Str)])) ic lf b7 (nscope_by T.sc) t1 T.ne t2 (fun f hf => ⟨b14 f hf, (tdf f hf).1, (tdf f hf).2⟩) T.len T.d1 T.d2 (t3 qual cc c fI), .all (T.bd qual doc pm ctv cc c), T.nd, T.len⟩
/-- the classes of a law: their names and where they lie -/
def cmOf (l : List (Str × Addr)) : Str → Option Addr := fun n => l.lookup n
def tabB (K : PySem.W.Frag) (l : List (Str × Addr)) (cv : Value) (tab : List (Str × Bool)) : Bool := tab.all fun p => match l.lookup p.1 with
  | some Cn => decide (PySem.W.exmOne K (.ref Cn) cv = some p.2) && decide (PySem.W.kitOne K (.ref Cn) cv = some p.2)
  | none => false
theorem tab_mk {G : GC} {l : List (Str × Addr)} {cv : Value} {tab : List (Str × Bool)} (hl : G.cm = cmOf l) (h : tabB G.K l cv tab = true) : ClsK G cv tab := fun n b e => by
  have mem : (n, b) ∈ tab := by
    clear h
    induction tab with
    | nil => simp at e
    | cons p r ih =>
      obtain ⟨y, v⟩ := p
      rw [List.lookup_cons] at e
      split at e
      · rename_i h1
        cases e
        rw [beq_iff_eq.mp h1]; simp
      · exact List.mem_cons_of_mem _ (ih e)
  have q := List.all_eq_true.mp h _ mem
  simp only at q
  split at q
  · rename_i Cn e2
    rw [Bool.and_eq_true, decide_eq_true_eq, decide_eq_true_eq] at q
    exact ⟨Cn, by rw [hl]; exact e2, q.1, q.2⟩
  · cases q
theorem xf_mk {G : GC} {l : List (Str × Addr)} {flds : List Str} (hl : G.cm = cmOf l) (h : (l.all fun p => xfkB G.K p.2 flds) = true) : ∀ n C, G.cm n = some C → XfK G.K C flds := fun n C e => by
  rw [hl] at e
  replace e : l.lookup n = some C := e
  have mem : (n, C) ∈ l := by
    clear h hl
    induction l with
    | nil => simp at e
    | cons p r ih =>
      obtain ⟨y, v⟩ := p
      rw [List.lookup_cons] at e
      split at e
      · rename_i h1
        cases e
        rw [beq_iff_eq.mp h1]; simp
      · exact List.mem_cons_of_mem _ (ih e)
  exact xfkB_ok (List.all_eq_true.mp h _ mem)
theorem xf_none {G : GC} {flds : List Str} (hl : G.cm = fun _ => none) : ∀ n C, G.cm n = some C → XfK G.K C flds := fun n C e => by rw [hl] at e; cases e
end DN

set_option maxHeartbeats 4000000
/-! laws over readings: frames of the memory, loops, comprehensions, equality -/
namespace DN
open PySem PySem.Spec L2
/-- nothing but the cells S has changed, something may have come behind -/
structure Fr (S : List Nat) (M M' : Mem) : Prop where
  le : M.length ≤ M'.length
  eq : ∀ i, i < M.length → i ∉ S → M'[i]? = M[i]?
section
variable {S T : List Nat} {M M1 M2 M' : Mem} {n k : Nat} {xs ys : List D} {o : O}
theorem Fr.refl : Fr S M M := ⟨Nat.le_refl _, fun _ _ _ => rfl⟩
theorem Fr.trans (a : Fr S M M1) (b : Fr T M1 M2) (h : ∀ i ∈ T, i < M.length → i ∈ S) : Fr S M M2 :=
  ⟨Nat.le_trans a.le b.le, fun i hi hs => (b.eq i (Nat.lt_of_lt_of_le hi a.le) fun z => hs (h i z hi)).trans (a.eq i hi hs)⟩
theorem Fr.tr (a : Fr S M M1) (b : Fr S M1 M2) : Fr S M M2 := a.trans b fun _ h _ => h
theorem Fr.tr0 (a : Fr S M M1) (b : Fr [] M1 M2) : Fr S M M2 := a.trans b fun _ h => by cases h
theorem Fr.app {L : Mem} : Fr S M (M ++ L) := ⟨by simp, fun i hi _ => List.getElem?_append_left hi⟩
theorem Fr.set (a : Fr S M M1) (h : n ∈ S ∨ M.length ≤ n) : Fr S M (M1.set n o) :=
  ⟨by simpa using a.le, fun i hi hs => by
    rw [List.getElem?_set_ne]
    · exact a.eq i hi hs
    · intro e; subst e; rcases h with h | h
      · exact hs h
      · omega⟩
theorem Fr.mono (a : Fr S M M') (h : ∀ i ∈ S, i < M.length → i ∈ T) : Fr T M M' := ⟨a.le, fun i hi hs => a.eq i hi fun z => hs (h i z hi)⟩
theorem Fr.new (a : Fr [n] M M') (h : M.length ≤ n) : Fr [] M M' := a.mono fun i hi hl => by simp at hi; omega
theorem Fr.up (a : Fr [] M M') : Fr S M M' := a.mono fun _ h => by cases h
theorem mlst_lt (h : mlst M n = some xs) : n < M.length := (List.getElem?_eq_some_iff.mp (mlst_lst h)).1
theorem mlst_of (h : M[n]? = some (.lst xs)) : mlst M n = some xs := by unfold mlst; rw [h]
theorem Fr.lst (a : Fr S M M') (h : mlst M n = some xs) (hn : n ∉ S := by simp) : mlst M' n = some xs :=
  mlst_of (by rw [a.eq n (mlst_lt h) hn]; exact mlst_lst h)
theorem mlst_set (h : n < M.length) : mlst (M.set n (.lst xs)) n = some xs := mlst_of (by rw [List.getElem?_set_self h])
theorem mlst_setne (h : mlst M n = some xs) (hn : k ≠ n) : mlst (M.set k o) n = some xs := mlst_of (by rw [List.getElem?_set_ne hn]; exact mlst_lst h)
theorem mlst_new : mlst (M ++ [.lst xs]) M.length = some xs := mlst_of (by rw [List.getElem?_append_right (Nat.le_refl _), Nat.sub_self]; rfl)
theorem lstAt_of (h : mlst M n = some xs) : lstAt M n = some xs := by unfold lstAt; rw [mlst_lst h]
end
/-! ### loops -/
section
variable {ok : Mem → Prop} {tg : Tg} {b : SS} {De : SD}
theorem forL_map {α : Type} (enc : α → D) (I : List α → Env → Mem → Prop) (hok : ∀ r ρ M, I r ρ M → ok M)
    (h1 : ∀ x r ρ M (Kn : Env → Mem → Prop), I (x :: r) ρ M → (∀ ρ M, I r ρ M → Kn ρ M) → ∃ ρ1, asgD tg (enc x) ρ = some ρ1 ∧ b (De.lp Kn) ρ1 M)
    (h0 : ∀ ρ M, I [] ρ M → De.nx ρ M) : ∀ (xs : List α) (ρ : Env) (M : Mem), I xs ρ M → forL ok tg b De (xs.map enc) ρ M
  | [], ρ, M, h => ⟨hok _ _ _ h, h0 ρ M h⟩
  | x :: r, ρ, M, h => by
    obtain ⟨ρ1, e, q⟩ := h1 x r ρ M (forL ok tg b De (r.map enc)) h (forL_map enc I hok h1 h0 r)
    rw [List.map_cons]
    refine ⟨hok _ _ _ h, ?_⟩
    rw [e]
    exact q
theorem forL_ix (I : Nat → Env → Mem → Prop) (ds : List D) (hok : ∀ i ρ M, I i ρ M → ok M)
    (h1 : ∀ i d ρ M (Kn : Env → Mem → Prop), ds[i]? = some d → I i ρ M → (∀ ρ M, I (i + 1) ρ M → Kn ρ M) → ∃ ρ1, asgD tg d ρ = some ρ1 ∧ b (De.lp Kn) ρ1 M)
    (h0 : ∀ ρ M, I ds.length ρ M → De.nx ρ M) (ρ : Env) (M : Mem) (h : I 0 ρ M) : forL ok tg b De ds ρ M := by
  have key : ∀ (r : List D) (i : Nat) (ρ : Env) (M : Mem), (∀ j, r[j]? = ds[i + j]?) → i + r.length = ds.length → I i ρ M → forL ok tg b De r ρ M := by
    intro r
    induction r with
    | nil => intro i ρ M _ hl h; exact ⟨hok _ _ _ h, h0 ρ M (by rw [← hl]; exact h)⟩
    | cons x r ih =>
      intro i ρ M hr hl h
      obtain ⟨ρ1, e, q⟩ := h1 i x ρ M (forL ok tg b De r) (by have := hr 0; simpa using this.symm) h (fun ρ M h => ih (i + 1) ρ M (fun j => by have := hr (j + 1); rw [show i + 1 + j = i + (j + 1) by omega, ← this]; simp) (by rw [← hl, List.length_cons]; omega) h)
      refine ⟨hok _ _ _ h, ?_⟩
      rw [e]
      exact q
  exact key ds 0 ρ M (fun j => by simp) (by simp) h
end
theorem rngD_len {lo : Int} {n : Nat} : (rngD lo n).length = n := by simp [rngD]
theorem enumD_len : ∀ {xs : List D} {k : Int}, (enumD k xs).length = xs.length
  | [], _ => rfl
  | x :: r, k => by simp [enumD, enumD_len (xs := r)]
/-! ### comprehensions -/
section
variable {ok : Mem → Prop} {tg : Tg} {tt : SC} {te : SE} {n : Nat} {ρ : Env} {Kn : Mem → Prop}
theorem lcL_inv (I : Nat → Mem → Prop) (ds : List D) (hok : ∀ i M, I i M → ok M)
    (h1 : ∀ i d M (Kc : Mem → Prop), ds[i]? = some d → I i M → (∀ M, I (i + 1) M → Kc M) → ∃ ρ1, asgD tg d ρ = some ρ1 ∧ tt noX ρ1 M fun b M2 => match b with
      | true => te noX ρ1 M2 fun y M3 => match mlst M3 n with
        | some acc => acc.length < sizeLine ∧ Kc (M3.set n (.lst (acc ++ [y])))
        | none => False
      | false => Kc M2)
    (h0 : ∀ M, I ds.length M → Kn M) (M : Mem) (h : I 0 M) : lcL ok tg tt te n ρ ds M Kn := by
  have key : ∀ (r : List D) (i : Nat) (M : Mem), (∀ j, r[j]? = ds[i + j]?) → i + r.length = ds.length → I i M → lcL ok tg tt te n ρ r M Kn := by
    intro r
    induction r with
    | nil => intro i M _ hl h; exact ⟨hok _ _ h, h0 M (by rw [← hl]; exact h)⟩
    | cons x r ih =>
      intro i M hr hl h
      obtain ⟨ρ1, e, q⟩ := h1 i x M (fun M => lcL ok tg tt te n ρ r M Kn) (by have := hr 0; simpa using this.symm) h (fun M h => ih (i + 1) M (fun j => by have := hr (j + 1); rw [show i + 1 + j = i + (j + 1) by omega, ← this]; simp) (by rw [← hl, List.length_cons]; omega) h)
      refine ⟨hok _ _ h, ?_⟩
      rw [e]
      exact q
  exact key ds 0 M (fun j => by simp) (by simp) h
/-- a comprehension that changes nothing -/
theorem lcL_pure {α : Type} (enc : α → D) (p : α → Bool) (g : α → D) {M0 : Mem} (hn : n < M0.length) (xs : List α) (hok : ∀ M, Fr [n] M0 M → ok M)
    (h : ∀ x M (Kt : KD) (Kf : Mem → Prop), x ∈ xs → Fr [n] M0 M → (p x = true → ∀ M3, Fr [] M M3 → Kt (g x) M3) → (p x = false → ∀ M2, Fr [] M M2 → Kf M2) →
      ∃ ρ1, asgD tg (enc x) ρ = some ρ1 ∧ tt noX ρ1 M fun b M2 => match b with | true => te noX ρ1 M2 Kt | false => Kf M2)
    {acc : List D} (ha : mlst M0 n = some acc) (hl : acc.length + xs.length ≤ sizeLine) (hK : ∀ M', Fr [n] M0 M' → mlst M' n = some (acc ++ (xs.filter p).map g) → Kn M') : lcL ok tg tt te n ρ (xs.map enc) M0 Kn := by
  have key : ∀ (r : List α) (acc : List D) (M : Mem), (∀ x ∈ r, x ∈ xs) → Fr [n] M0 M → mlst M n = some acc → acc.length + r.length ≤ sizeLine → (∀ M', Fr [n] M0 M' → mlst M' n = some (acc ++ (r.filter p).map g) → Kn M') → lcL ok tg tt te n ρ (r.map enc) M Kn := by
    intro r
    induction r with
    | nil => intro acc M _ fr hm _ k; exact ⟨hok M fr, k M fr (by simpa using hm)⟩
    | cons x r ih =>
      intro acc M hs fr hm hl k
      rw [List.length_cons] at hl
      obtain ⟨ρ1, e, q⟩ := h x M (fun y M3 => match mlst M3 n with
        | some acc => acc.length < sizeLine ∧ lcL ok tg tt te n ρ (r.map enc) (M3.set n (.lst (acc ++ [y]))) Kn
        | none => False) (fun M2 => lcL ok tg tt te n ρ (r.map enc) M2 Kn) (hs x (by simp)) fr
        (fun hp M3 f3 => by
          have m3 := f3.lst hm
          simp only [m3]
          refine ⟨by omega, ih (acc ++ [g x]) _ (fun y hy => hs y (by simp [hy])) ((fr.tr0 f3).set (.inl (by simp))) (mlst_set (mlst_lt m3)) (by simp; omega) fun M' f' m' => k M' f' ?_⟩
          rw [m']; simp [List.filter_cons, hp])
        (fun hp M2 f2 => ih acc M2 (fun y hy => hs y (by simp [hy])) (fr.tr0 f2) (f2.lst hm) (by omega) fun M' f' m' => k M' f' (by rw [m']; simp [List.filter_cons, hp]))
      rw [List.map_cons]
      refine ⟨hok M fr, ?_⟩
      rw [e]
      exact q
  exact key xs acc M0 (fun _ h => h) Fr.refl ha hl hK
end
/-! ### equality -/
theorem eqS {x y : Str} : eqD (.str x) (.str y) = decide (x = y) := by
  show (x == y) = _
  exact Bool.beq_eq_decide_eq x y
theorem eqI {i j : Int} : eqD (.int i) (.int j) = decide (i = j) := Bool.beq_eq_decide_eq i j
mutual
theorem eqD_refl : ∀ d : D, noref d = true → eqD d d = true
  | .non, _ => rfl
  | .bl b, _ => by simp [eqD]
  | .int i, _ => by simp [eqD]
  | .str x, _ => by simp [eqD]
  | .tup xs, h => by
    show eqL xs xs = true
    exact eqL_refl xs (by simpa [noref] using h)
  | .ref _, h => by simp [noref] at h
  | .con _, h => by simp [noref] at h
theorem eqL_refl : ∀ ds : List D, norefs ds = true → eqL ds ds = true
  | [], _ => rfl
  | d :: ds, h => by
    simp only [norefs, Bool.and_eq_true] at h
    simp [eqL, eqD_refl d h.1, eqL_refl ds h.2]
end
theorem eqM_tup {xs ys : List D} {M : Mem} {R : Bool → Prop} (h1 : norefs xs = true) (h2 : norefs ys = true) (h3 : (toPy (.tup xs)).depth ≤ 64) (k : R (eqL xs ys)) : eqM (.tup xs) (.tup ys) M R := by
  unfold eqM
  have e1 : pyM M (.tup xs) = some (toPy (.tup xs)) := by simp [pyM, noref, h1]
  have e2 : pyM M (.tup ys) = some (toPy (.tup ys)) := by simp [pyM, noref, h2]
  have e3 : PyData.eqv (toPy (.tup xs)) (toPy (.tup ys)) = eqL xs ys := eqv_toPy (.tup xs) (.tup ys) (by simpa [noref] using h1) (by simpa [noref] using h2)
  simp only [scalD, e1, e2]
  exact ⟨Nat.le_trans (Nat.min_le_left _ _) h3, by rw [e3]; exact k⟩
/-! texts in a row -/
def txs : List D → Bool
  | [] => true
  | .str _ :: r => txs r
  | _ => false
theorem txs_norefs : ∀ {ds : List D}, txs ds = true → norefs ds = true
  | [], _ => rfl
  | d :: r, h => by
    cases d <;> first
      | (simp only [txs] at h; simp [norefs, noref, txs_norefs h]; done)
      | (simp [txs] at h; done)
theorem txs_depth : ∀ {ds : List D}, txs ds = true → PyData.depthAll (toPys ds) = 0
  | [], _ => rfl
  | d :: r, h => by
    cases d <;> first
      | (simp only [txs] at h; simp [toPys, toPy, PyData.depthAll, PyData.depth, txs_depth h]; done)
      | (simp [txs] at h; done)
theorem txs_eq : ∀ {xs ys : List D}, txs xs = true → txs ys = true → (eqL xs ys = true ↔ xs = ys)
  | [], [], _, _ => by simp [eqL]
  | [], _ :: _, _, _ => by simp [eqL]
  | _ :: _, [], _, _ => by simp [eqL]
  | x :: xs, y :: ys, h1, h2 => by
    cases x <;> cases y <;> first
      | (simp only [txs] at h1 h2; simp [eqL, eqD, txs_eq h1 h2]; done)
      | (simp [txs] at h1; done)
      | (simp [txs] at h2; done)
theorem txs_app {xs ys : List D} (h1 : txs xs = true) (h2 : txs ys = true) : txs (xs ++ ys) = true := by
  induction xs with
  | nil => exact h2
  | cons d r ih => cases d <;> first | (simp only [txs] at h1; simp [txs, ih h1]; done) | (simp [txs] at h1; done)
theorem txs_iff {ds : List D} : txs ds = true ↔ ∀ d ∈ ds, ∃ x, d = .str x := by
  induction ds with
  | nil => simp [txs]
  | cons d r ih => cases d <;> simp [txs, ih]
theorem txs_drop {xs : List D} {n : Nat} (h : txs xs = true) : txs (xs.drop n) = true := txs_iff.mpr fun d hd => txs_iff.mp h d (List.mem_of_mem_drop hd)
theorem txs_take {xs : List D} {n : Nat} (h : txs xs = true) : txs (xs.take n) = true := txs_iff.mpr fun d hd => txs_iff.mp h d (List.mem_of_mem_take hd)
theorem eqM_txs {xs ys : List D} {M : Mem} {R : Bool → Prop} (h1 : txs xs = true) (h2 : txs ys = true) (k : ∀ b, (b = true ↔ xs = ys) → R b) : eqM (.tup xs) (.tup ys) M R :=
  eqM_tup (txs_norefs h1) (txs_norefs h2) (by simp [toPy, PyData.depth, txs_depth h1]) (k _ (txs_eq h1 h2))
/-! places -/
theorem ixN_nat {n j : Nat} {i : Int} (h : i = j) (hl : j < n) : ixN n i = some j := by
  subst h; unfold ixN; rw [if_pos (by omega), if_pos (by omega)]; simp
theorem atI_int {α : Type} {xs : List α} {i : Int} (h0 : 0 ≤ i) (h1 : i < xs.length) : ∃ d, atI xs i = some d ∧ xs[i.toNat]? = some d := by
  have hl : i.toNat < xs.length := by omega
  refine ⟨xs[i.toNat], ?_, List.getElem?_eq_getElem hl⟩
  unfold atI
  rw [ixN_nat (j := i.toNat) (by omega) hl]
  exact List.getElem?_eq_getElem hl
theorem atI_get {α : Type} {xs : List α} {i : Int} {j : Nat} {d : α} (h : i = j) (h1 : xs[j]? = some d) : atI xs i = some d := by
  unfold atI
  rw [ixN_nat h (List.getElem?_eq_some_iff.mp h1).1]
  exact h1
theorem atI_end {xs : List D} {d : D} : atI (xs ++ [d]) (-1) = some d := L2.atI_last _ _
theorem ixM_lst {M : Mem} {n : Nat} {xs : List D} {i : Int} {d : D} {R : D → Prop} (h : mlst M n = some xs) (e : atI xs i = some d) (k : R d) : ixM (.ref n) (.int i) M R := by
  unfold ixM; simp only [lstAt_of h, e]; exact k
theorem sIx_lo {n : Nat} {i : Int} (h : 0 ≤ i) : HT.sIx n 0 (some i) = min i.toNat n := by
  obtain ⟨j, rfl⟩ := Int.eq_ofNat_of_zero_le h
  simpa using HT.sIx_nat n 0 j
end DN
namespace DN
open PySem PySem.Spec L2
section
variable {M : Mem} {n : Nat} {xs : List D} {y : D} {R : KD}
theorem rcv_lst (h : mlst M n = some xs) : rcv "list" (.ref n) M := by unfold rcv; simp only [mlst_lst h]
theorem mAppend_ok (h : mlst M n = some xs) (hl : xs.length < sizeLine) (k : R .non (M.set n (.lst (xs ++ [y])))) : mAppend (.ref n) [y] M R := by
  unfold mAppend; simp only [h]; exact ⟨hl, k⟩
theorem cnTuple_ok (h : mlst M n = some xs) (k : R (.tup xs) M) : cnTuple [.ref n] M R := by
  unfold cnTuple; simp only [lstAt_of h]; exact k
theorem cnList_ok (h : mlst M n = some xs) (k : R (.ref M.length) (M ++ [.lst xs])) : cnList [.ref n] M R := by
  unfold cnList; simp only [lstAt_of h]; exact k
theorem cnLen_ok (h : mlst M n = some xs) (k : R (.int xs.length) M) : cnLen [.ref n] M R := by
  unfold cnLen; simp only [lstAt_of h]; exact k
theorem opIx_tup {i : Int} {d : D} (e : atI xs i = some d) (k : R d M) : opIx (.tup xs) (.int i) M R := by
  unfold opIx ixM; simp only [e]; exact k
theorem opIx_con {i : Int} {d : D} (e : atI xs i = some d) (k : R d M) : opIx (.con xs) (.int i) M R := by
  unfold opIx ixM; simp only [e]; exact k
theorem opIx_lst {i : Int} {d : D} (h : mlst M n = some xs) (e : atI xs i = some d) (k : R d M) : opIx (.ref n) (.int i) M R := ixM_lst h e k
theorem setM_of {i : Int} {j : Nat} {R : Mem → Prop} (h : mlst M n = some xs) (e : ixN xs.length i = some j) (k : R (M.set n (.lst (xs.set j y)))) : setM (.ref n) (.int i) y M R := by
  unfold setM; simp only [h, e]; exact k
theorem intsD_map : ∀ ns : List Int, intsD (ns.map D.int) = some ns
  | [] => rfl
  | n :: ns => by simp [intsD, intsD_map ns]
theorem cnSum_ok {ns : List Int} (h : mlst M n = some (ns.map D.int)) (k : R (.int ns.sum) M) : cnSum [.ref n] M R := by
  unfold cnSum; simp only [lstAt_of h, Option.bind_some, intsD_map]; exact k
end
end DN
namespace DN
open PySem PySem.Spec L2
section
variable {ok : Mem → Prop} {tg : Tg} {b : SS} {De : SD}
theorem forL_en {α : Type} (enc : α → D) (I : List α → List α → Env → Mem → Prop) (hok : ∀ p r ρ M, I p r ρ M → ok M)
    (h1 : ∀ p x r ρ M (Kn : Env → Mem → Prop), I p (x :: r) ρ M → (∀ ρ M, I (p ++ [x]) r ρ M → Kn ρ M) → ∃ ρ1, asgD tg (.tup [.int p.length, enc x]) ρ = some ρ1 ∧ b (De.lp Kn) ρ1 M)
    (h0 : ∀ p ρ M, I p [] ρ M → De.nx ρ M) (xs : List α) (ρ : Env) (M : Mem) (h : I [] xs ρ M) : forL ok tg b De (enumD 0 (xs.map enc)) ρ M := by
  have key : ∀ (r p : List α) (k : Int) (ρ : Env) (M : Mem), k = p.length → I p r ρ M → forL ok tg b De (enumD k (r.map enc)) ρ M := by
    intro r
    induction r with
    | nil => intro p k ρ M _ h; exact ⟨hok _ _ _ _ h, h0 p ρ M h⟩
    | cons x r ih =>
      intro p k ρ M hk h
      obtain ⟨ρ1, e, q⟩ := h1 p x r ρ M (forL ok tg b De (enumD (k + 1) (r.map enc))) h (fun ρ M h => ih (p ++ [x]) (k + 1) ρ M (by rw [hk]; simp) h)
      show ok M ∧ _
      refine ⟨hok _ _ _ _ h, ?_⟩
      rw [hk, e]
      rw [hk] at q
      exact q
  exact key xs [] 0 ρ M rfl h
end
section
variable {ok : Mem → Prop} {tg : Tg} {tt : SC} {te : SE} {n : Nat} {ρ : Env} {Kn : Mem → Prop}
/-- a comprehension over enumerate that changes nothing -/
theorem lcL_en {α : Type} (enc : α → D) (g : List α → α → D) {M0 : Mem} (hn : n < M0.length) (xs : List α) (hok : ∀ M, Fr [n] M0 M → ok M)
    (res : List α → List D) (hres : ∀ p x, res (p ++ [x]) = res p ++ [g p x])
    (h : ∀ p x r M (Kt : KD), xs = p ++ x :: r → Fr [n] M0 M → (∀ M3, Fr [] M M3 → Kt (g p x) M3) →
      ∃ ρ1, asgD tg (.tup [.int p.length, enc x]) ρ = some ρ1 ∧ tt noX ρ1 M fun b M2 => match b with | true => te noX ρ1 M2 Kt | false => False)
    {acc : List D} (ha : mlst M0 n = some (acc ++ res [])) (hl : (acc ++ res []).length + xs.length ≤ sizeLine) (hK : ∀ M', Fr [n] M0 M' → mlst M' n = some (acc ++ res xs) → Kn M')
    (mono : ∀ ρ M (f f' : Bool → Mem → Prop), (∀ b M2, f b M2 → f' b M2) → tt noX ρ M f → tt noX ρ M f') : lcL ok tg tt te n ρ (enumD 0 (xs.map enc)) M0 Kn := by
  have key : ∀ (r p : List α) (k : Int) (M : Mem), k = p.length → xs = p ++ r → Fr [n] M0 M → mlst M n = some (acc ++ res p) → (acc ++ res p).length + r.length ≤ sizeLine → lcL ok tg tt te n ρ (enumD k (r.map enc)) M Kn := by
    intro r
    induction r with
    | nil => intro p k M _ e fr hm _; exact ⟨hok M fr, hK M fr (by rw [e]; simpa using hm)⟩
    | cons x r ih =>
      intro p k M hk e fr hm hl
      rw [List.length_cons] at hl
      obtain ⟨ρ1, e1, q⟩ := h p x r M (fun y M3 => match mlst M3 n with
        | some acc => acc.length < sizeLine ∧ lcL ok tg tt te n ρ (enumD (k + 1) (r.map enc)) (M3.set n (.lst (acc ++ [y]))) Kn
        | none => False) e fr
        (fun M3 f3 => by
          have m3 := f3.lst hm
          simp only [m3]
          refine ⟨by omega, ih (p ++ [x]) (k + 1) _ (by rw [hk]; simp) (by rw [e]; simp) ((fr.tr0 f3).set (.inl (by simp))) (by rw [mlst_set (mlst_lt m3), hres, List.append_assoc]) (by rw [hres]; simp only [List.length_append, List.length_cons, List.length_nil] at hl ⊢; omega)⟩)
      show ok M ∧ _
      refine ⟨hok M fr, ?_⟩
      rw [hk, e1]
      rw [hk] at q
      refine mono ρ1 M _ _ (fun b M2 h => ?_) q
      cases b with
      | true => exact h
      | false => exact h.elim
  exact key xs [] 0 M0 rfl rfl Fr.refl ha hl
end
end DN
namespace DN
theorem bm {b : Bool} {A B : Prop} (h1 : b = true → A) (h2 : b = false → B) : (match (generalizing := false) b with | true => A | false => B) := by cases b <;> simp_all
theorem sz {n : Nat} (h : Nat.ble n 1000 = true) : n ≤ PySem.sizeLine := Nat.le_trans (Nat.le_of_ble_eq_true h) (by decide)
end DN
namespace DN
open PySem PySem.Spec L2
section
variable {M : Mem} {xs ys : List D}
theorem pyM_tup (h : norefs xs = true) : pyM M (.tup xs) = some (.tuple (toPys xs)) := by simp [pyM, noref, h, toPy]
theorem pyM_txs (h : txs xs = true) : pyM M (.tup xs) = some (.tuple (toPys xs)) := pyM_tup (txs_norefs h)
theorem dep_txs {p : PyData} (h : txs xs = true) : min (PyData.tuple (toPys xs)).depth p.depth ≤ 64 := Nat.le_trans (Nat.min_le_left _ _) (by simp [PyData.depth, txs_depth h])
theorem eqv_tup (h1 : norefs xs = true) (h2 : norefs ys = true) : PyData.eqv (.tuple (toPys xs)) (.tuple (toPys ys)) = eqL xs ys := eqv_toPy (.tup xs) (.tup ys) (by simpa [noref] using h1) (by simpa [noref] using h2)
theorem eqv_txs (h1 : txs xs = true) (h2 : txs ys = true) : ∃ b, PyData.eqv (.tuple (toPys xs)) (.tuple (toPys ys)) = b ∧ (b = true ↔ xs = ys) := ⟨_, eqv_tup (txs_norefs h1) (txs_norefs h2), txs_eq h1 h2⟩
end
end DN
namespace DN
theorem cm {b : Bool} {A B : Prop} (h1 : b = true → A) (h2 : b = false → B) : (match (generalizing := false) D.bl b with | .bl true => A | .bl false => B | _ => False) := by cases b <;> simp_all
end DN
namespace DN
/-- a def's reading, shut -/
theorem op (F : Fn) : ∃ F', F' = F := ⟨F, rfl⟩
end DN

set_option maxHeartbeats 4000000
/-! laws: what many of them share -/
namespace DN
open PySem PySem.Spec L2
def fit : Nat → D → Prop
  | 0, _ => False
  | r + 1, .tup xs => xs.length ≤ 16777216 ∧ ∀ x ∈ xs, fit r x
  | _ + 1, .ref _ => False
  | _ + 1, .con _ => False
  | _ + 1, _ => True
/-- a pool -/
def Pool (M : Mem) (n : Nat) : Prop := ∃ v, mlst M n = some [.int v]
theorem Pool.lt {M : Mem} {n : Nat} (h : Pool M n) : n < M.length := by obtain ⟨v, h⟩ := h; exact mlst_lt h
theorem Pool.fr {M M' : Mem} {n : Nat} {S : List Nat} (h : Pool M n) (f : Fr S M M') (hn : n ∉ S := by simp) : Pool M' n := by obtain ⟨v, h⟩ := h; exact ⟨v, f.lst h hn⟩
theorem bits64 {i : Int} (h : i.natAbs < 2 ^ 64) : Builtin.Int.intBits i ≤ 64 := by
  unfold Builtin.Int.intBits
  by_cases h0 : i = 0
  · simp [h0]
  · have hb : (i == 0) = false := by simpa using h0
    rw [hb]
    exact Nat.succ_le_of_lt ((Nat.log2_lt (by omega)).mpr h)
theorem mul_l {a b : Int} (h : a.natAbs < 2 ^ 64) : IntMulOk a b := .of_left (bits64 h)
theorem mul_r {a b : Int} (h : b.natAbs < 2 ^ 64) : IntMulOk a b := .of_right (bits64 h)
theorem ascii_ix {z : Str} {i : Int} (h0 : 0 ≤ i) (h1 : i < z.cps.toList.length) : ∃ c, atI z.cps.toList i = some c := by
  obtain ⟨c, e, _⟩ := atI_int h0 h1
  exact ⟨c, e⟩
def cut (xs : List D) (a b : Nat) : List D := (xs.drop a).take (b - a)
theorem cutL_int {xs : List D} {a b : Int} (h0 : 0 ≤ a) (h1 : 0 ≤ b) (h2 : b ≤ xs.length) : cutL xs (some a) (some b) = cut xs a.toNat b.toNat := by
  unfold cutL cut
  rw [sIx_lo h0]
  have hb : HT.sIx xs.length xs.length (some b) = b.toNat := by
    obtain ⟨j, rfl⟩ := Int.eq_ofNat_of_zero_le h1
    rw [HT.sIx_nat]; simp; omega
  rw [hb]
  by_cases h : a.toNat ≤ xs.length
  · rw [Nat.min_eq_left h]
  · have e1 : b.toNat - min a.toNat xs.length = 0 := by omega
    have e2 : b.toNat - a.toNat = 0 := by omega
    rw [e1, e2]; simp
theorem cut_len {t : List D} {a b : Nat} (h : b ≤ t.length) : (cut t a b).length = b - a := by
  unfold cut
  rw [List.length_take, List.length_drop]
  omega
theorem pick_D {xs : List D} {x : Int} (h0 : 0 ≤ x) (h1 : x < xs.length) : ∃ d ∈ xs, atI xs x = some d := by
  obtain ⟨d, a1, a2⟩ := atI_int h0 h1
  exact ⟨d, List.mem_of_getElem? a2, a1⟩
end DN
namespace DN
open PySem PySem.Spec L2
/-! ### lines of good signs -/
def okc (n : Nat) : Bool := decide (32 ≤ n) && decide (n ≤ 126) && !(n == 37)
def okl (x : Str) : Bool := decide (x.length ≤ 40) && x.cps.toList.all okc
/-- a row of good lines -/
def okt : List D → Bool
  | [] => true
  | .str x :: r => okl x && okt r
  | _ => false
theorem okt_iff {ds : List D} : okt ds = true ↔ ∀ d ∈ ds, ∃ x, d = .str x ∧ okl x = true := by
  induction ds with
  | nil => simp [okt]
  | cons d r ih => cases d <;> simp [okt, ih]
theorem okt_txs {ds : List D} (h : okt ds = true) : txs ds = true := txs_iff.mpr fun d hd => by
  obtain ⟨x, e, _⟩ := okt_iff.mp h d hd
  exact ⟨x, e⟩
theorem okt_app {xs ys : List D} (h1 : okt xs = true) (h2 : okt ys = true) : okt (xs ++ ys) = true := okt_iff.mpr fun d hd => by
  rcases List.mem_append.mp hd with hd | hd
  · exact okt_iff.mp h1 d hd
  · exact okt_iff.mp h2 d hd
theorem okt_cut {xs : List D} {a b : Nat} (h : okt xs = true) : okt (cut xs a b) = true := okt_iff.mpr fun d hd => okt_iff.mp h d (List.mem_of_mem_drop (List.mem_of_mem_take hd))
theorem okt_get {xs : List D} {i : Nat} {d : D} (h : okt xs = true) (e : xs[i]? = some d) : ∃ x, d = .str x ∧ okl x = true := okt_iff.mp h d (List.mem_of_getElem? e)
theorem okl_rep {c n : Nat} (h : okc c = true) (hn : n ≤ 40) : okl (repS ⟨#[c]⟩ n) = true := by
  have e : (repS ⟨#[c]⟩ n).cps.toList = List.replicate n c := by
    unfold repS
    simp
  unfold okl
  rw [Bool.and_eq_true, decide_eq_true_eq, List.all_eq_true]
  refine ⟨?_, fun x hx => ?_⟩
  · show (repS ⟨#[c]⟩ n).cps.size ≤ 40
    rw [← Array.length_toList, e, List.length_replicate]; exact hn
  · rw [e] at hx
    rw [List.eq_of_mem_replicate hx]; exact h
end DN
namespace DN
open PySem PySem.Spec L2
theorem toL_app (x y : Str) : (x ++ y).cps.toList = x.cps.toList ++ y.cps.toList := by
  show (x.cps ++ y.cps).toList = _
  simp
theorem join_toL : ∀ ys : List Str, (Txt.join (Str.ofString "") ys).cps.toList = (ys.map (·.cps.toList)).flatten := by
  intro ys
  have e : Txt.join (Str.ofString "") ys = Str.join (Str.ofString "") ys := by
    unfold Txt.join
    cases ys with
    | nil => rfl
    | cons x r => exact StrLaws.glued_cons _ r x
  rw [e]
  clear e
  have e0 : (Str.ofString "").cps.toList = [] := by decide
  induction ys with
  | nil => rfl
  | cons x r ih =>
    cases r with
    | nil => simp [Str.join]
    | cons y t =>
      show (x ++ Str.ofString "" ++ Str.join (Str.ofString "") (y :: t)).cps.toList = _
      rw [toL_app, toL_app, e0, ih]
      simp
/-- single good signs, joined -/
theorem okl_join {ys : List Str} (h : ∀ y ∈ ys, ∃ c, y = ⟨#[c]⟩ ∧ okc c = true) (hn : ys.length ≤ 40) : okl (Txt.join (Str.ofString "") ys) = true := by
  have e := join_toL ys
  have len : ∀ zs : List Str, (∀ y ∈ zs, ∃ c, y = (⟨#[c]⟩ : Str) ∧ okc c = true) → ((zs.map (·.cps.toList)).flatten).length = zs.length ∧ ∀ c ∈ (zs.map (·.cps.toList)).flatten, okc c = true := by
    intro zs
    induction zs with
    | nil => intro _; exact ⟨rfl, fun c hc => by simp at hc⟩
    | cons z r ih =>
      intro hz
      obtain ⟨i1, i2⟩ := ih fun y hy => hz y (by simp [hy])
      obtain ⟨c, rfl, hc⟩ := hz z (by simp)
      refine ⟨by simp [i1], fun d hd => ?_⟩
      simp only [List.map_cons, List.flatten_cons, List.mem_append] at hd
      rcases hd with hd | hd
      · have : d = c := by simpa using hd
        rw [this]; exact hc
      · exact i2 d hd
  obtain ⟨l1, l2⟩ := len ys h
  unfold okl
  rw [Bool.and_eq_true, decide_eq_true_eq, List.all_eq_true, e]
  refine ⟨?_, l2⟩
  show (Txt.join (Str.ofString "") ys).cps.size ≤ 40
  rw [← Array.length_toList, e, l1]; exact hn
end DN
namespace DN
open PySem PySem.Spec L2
/-! ### hunks -/
structure Hk where
  s : Int
  o : List D
  n : List D
def Hk.d (h : Hk) : D := .tup [.int h.s, .tup h.o, .tup h.n]
def Hk.e (h : Hk) : Int := h.s + h.o.length
def Hk.g (h : Hk) : Int := h.n.length - h.o.length
theorem Hk.se (h : Hk) : h.s ≤ h.e := by unfold Hk.e; omega
/-- the text with the hunks put in, from d on -/
def ap (t : List D) : Int → List Hk → List D
  | d, [] => t.drop d.toNat
  | d, h :: r => cut t d.toNat h.s.toNat ++ h.n ++ ap t h.e r
/-- the hunks lie in order from low, in the text -/
def Valid (t : List D) : Int → List Hk → Prop
  | _, [] => True
  | low, h :: r => low ≤ h.s ∧ h.e ≤ t.length ∧ h.o = cut t h.s.toNat h.e.toNat ∧ txs h.n = true ∧ Valid t (h.e + 1) r
theorem Valid.mono {t : List D} : ∀ {hs : List Hk} {a b : Int}, Valid t b hs → a ≤ b → Valid t a hs
  | [], _, _, _, _ => trivial
  | h :: r, a, b, v, l => ⟨by have := v.1; omega, v.2⟩
theorem Valid.snoc {t : List D} {h : Hk} : ∀ {hs : List Hk} {low : Int}, Valid t low hs → (∀ x ∈ hs, x.e + 1 ≤ h.s) → low ≤ h.s → h.e ≤ t.length → h.o = cut t h.s.toNat h.e.toNat → txs h.n = true → Valid t low (hs ++ [h])
  | [], low, _, _, h1, h2, h3, h4 => ⟨h1, h2, h3, h4, trivial⟩
  | x :: r, low, v, hx, h1, h2, h3, h4 => by
    obtain ⟨v1, v2, v3, v4, v6⟩ := v
    exact ⟨v1, v2, v3, v4, Valid.snoc v6 (fun y hy => hx y (by simp [hy])) (hx x (by simp)) h2 h3 h4⟩
theorem Valid.filter {t : List D} {p : Hk → Bool} : ∀ {hs : List Hk} {low : Int}, Valid t low hs → Valid t low (hs.filter p)
  | [], _, _ => trivial
  | h :: r, low, v => by
    obtain ⟨v1, v2, v3, v4, v5⟩ := v
    rw [List.filter_cons]
    split
    · exact ⟨v1, v2, v3, v4, v5.filter⟩
    · exact v5.filter.mono (by have := h.se; omega)
theorem Valid.mem {t : List D} : ∀ {hs : List Hk} {low : Int}, Valid t low hs → ∀ h ∈ hs, low ≤ h.s ∧ h.e ≤ t.length ∧ h.o = cut t h.s.toNat h.e.toNat ∧ txs h.n = true
  | x :: r, low, v, h, hm => by
    obtain ⟨v1, v2, v3, v4, v5⟩ := v
    rcases List.mem_cons.mp hm with rfl | hm
    · exact ⟨v1, v2, v3, v4⟩
    · obtain ⟨a, b⟩ := v5.mem h hm
      exact ⟨by have := x.se; omega, b⟩
theorem cut_cut {t : List D} {a b c : Nat} (h1 : a ≤ b) (h2 : b ≤ c) : cut t a b ++ cut t b c = cut t a c := by
  unfold cut
  have e : t.drop b = (t.drop a).drop (b - a) := by rw [List.drop_drop]; congr 1; omega
  rw [e, show c - a = (b - a) + (c - b) by omega, List.take_add]
theorem cut_drop {t : List D} {a b : Nat} (h1 : a ≤ b) : cut t a b ++ t.drop b = t.drop a := by
  unfold cut
  have e : t.drop b = (t.drop a).drop (b - a) := by rw [List.drop_drop]; congr 1; omega
  rw [e, List.take_append_drop]
theorem ap_cut {t : List D} : ∀ {r : List Hk} {d e : Int}, 0 ≤ d → d ≤ e → (∀ h ∈ r.head?, e ≤ h.s) → ap t d r = cut t d.toNat e.toNat ++ ap t e r
  | [], d, e, h0, h1, _ => by simp only [ap]; rw [cut_drop (by omega)]
  | h :: r, d, e, h0, h1, h2 => by
    have := h2 h (by simp)
    simp only [ap, ← List.append_assoc]
    rw [cut_cut (by omega) (by omega)]
/-- what changes nothing may go -/
theorem ap_filter {t : List D} {p : Hk → Bool} (hp : ∀ h, p h = false → h.o = h.n) : ∀ {hs : List Hk} {low d : Int}, Valid t low hs → 0 ≤ d → d ≤ low → ap t d (hs.filter p) = ap t d hs
  | [], _, _, _, _, _ => rfl
  | h :: r, low, d, v, h0, h1 => by
    obtain ⟨v1, v2, v3, v4, v5⟩ := v
    have se := h.se
    rw [List.filter_cons]
    split
    · simp only [ap]
      rw [ap_filter hp v5 (by omega) (by omega)]
    · rename_i hn
      have e := hp h (by simpa using hn)
      simp only [ap]
      rw [ap_filter hp v5 h0 (by omega), ← e]
      rw [show cut t d.toNat h.s.toNat ++ h.o = cut t d.toNat h.e.toNat by rw [v3, cut_cut (by omega) (by omega)]]
      refine ap_cut h0 (by omega) fun x hx => ?_
      cases r with
      | nil => simp at hx
      | cons y r' => simp at hx; subst hx; have := v5.1; omega
end DN
namespace DN
open PySem PySem.Spec L2
theorem tru_lst {M : Mem} {n : Nat} {xs : List D} (h : mlst M n = some xs) : tru (.ref n) M = some (!xs.isEmpty) := by unfold tru; simp only [mlst_lst h]
end DN
namespace DN
open PySem PySem.Spec L2
theorem while_ok {c : SC} {b : SS} {D : SD} (I : Nat → Env → Mem → Prop) (h0 : ∀ ρ M, ¬ I 0 ρ M)
    (h : ∀ n ρ M (Kn : Env → Mem → Prop), I (n + 1) ρ M → (∀ ρ M, I n ρ M → Kn ρ M) → c (fun x M1 => D.ex x ρ M1) ρ M fun k M1 => match k with | true => b (D.lp Kn) ρ M1 | false => D.nx ρ M1) : ∀ (n : Nat) (ρ : Env) (M : Mem), I n ρ M → whileN c b D n ρ M
  | 0, ρ, M, i => absurd i (h0 ρ M)
  | n + 1, ρ, M, i => h n ρ M (whileN c b D n) i (while_ok I h0 h n)
end DN

set_option maxHeartbeats 0
namespace SG
open PySem PySem.Spec L2 DN
def FL : List Str := ["limit"]
def Tb_BadText : List (Str × Bool) := [("TooMany", false)]
def Tb_ReviewError : List (Str × Bool) := [("TooMany", true)]
def Tb_TooMany : List (Str × Bool) := [("TooMany", true)]
def Tb_ValueError : List (Str × Bool) := [("TooMany", true)]
def C_TEXT_MOST : D := .int 60
/-- _law_draw: 0 pool, 1 many, 2 k -/
def t_law_draw_v1 : SS := (sSeq (sAsg (eBin opIx (eVar 0) (eC (.int 1))) (.nm 2))
  (sSeq (sSet (eVar 0) (eC (.int 1)) (eBin opAdd (eVar 2) (eC (.int 1))))
  (sSeq (sIf (cB (eBin opLt (eVar 2) (eCallB cnLen (aCons (eBin opIx (eVar 0) (eC (.int 0))) aNil)))) (sRet (eBin opMod (eCallB cnInt (aCons (eBin opIx (eBin opIx (eVar 0) (eC (.int 0))) (eVar 2)) aNil)) (eVar 1))) sNop)
  (sSeq (sSet (eVar 0) (eC (.int 2)) (eBin opMod (eCallB cnInt (aCons (eBin opAdd (eBin opMul (eBin opIx (eVar 0) (eC (.int 2))) (eC (.int 48271))) (eC (.int 11))) aNil)) (eC (.int 2147483647))))
  (sRet (eBin opMod (eCallB cnInt (aCons (eBin opDiv (eBin opIx (eVar 0) (eC (.int 2))) (eC (.int 64))) aNil)) (eVar 1)))))))
/-- _law_pool: 0 script, 1 numbers, 2 seed, 3 cell, 4 number, 5 k, 6 pool -/
def b_law_pool_v1_1 (F_law_draw_v1 : Fn) : SS := (sSeq (sEx (eBm "list" mAppend (eVar 1) (aCons (eBin opMod (eCallB cnInt (aCons (eVar 4) aNil)) (eC (.int 1000))) aNil)))
  (sSeq (sAsg (eBin opDiv (eVar 4) (eC (.int 1000))) (.nm 4))
  (sIf (cB (eBin opEq (eVar 4) (eC (.int 0)))) sBreak sNop)))
def b_law_pool_v1_2 (F_law_draw_v1 : Fn) : SS := (sSeq (sAsg (eBin opMod (eCallB cnInt (aCons (eVar 3) aNil)) (eBin opPow (eC (.int 10)) (eC (.int 36)))) (.nm 4))
  (sSeq (sAsg (eBin opMod (eCallB cnInt (aCons (eBin opAdd (eBin opMul (eVar 2) (eC (.int 48271))) (eVar 4)) aNil)) (eC (.int 2147483647))) (.nm 2))
  (sFor (iRange1 (aCons (eC (.int 12)) aNil)) (.nm 5) (b_law_pool_v1_1 F_law_draw_v1))))
def t_law_pool_v1 (F_law_draw_v1 : Fn) : SS := (sSeq (sAsg (eLst aNil) (.nm 1))
  (sSeq (sAsg (eC (.int 7)) (.nm 2))
  (sSeq (sFor (iSeq (eSl (eVar 0) oNo (oSome (eC (.int 63))))) (.nm 3) (b_law_pool_v1_2 F_law_draw_v1))
  (sSeq (sAsg (eLst (aCons (eVar 1) (aCons (eC (.int 0)) (aCons (eVar 2) (aCons (eC (.int 0)) aNil))))) (.nm 6))
  (sSeq (sSet (eVar 6) (eC (.int 3)) (eCall F_law_draw_v1 (aCons (eVar 6) (aCons (eC (.int 3)) aNil))))
  (sRet (eVar 6)))))))
/-- _law_signs: 0 signs -/
def t_law_signs : SS := (sSeq (sAsg (eC (.str " !\"#$&'()*+,-./0123456789:;<=>?@ABCDEFGHIJKLMNOPQRSTUVWXYZ[\\]^_`")) (.nm 0))
  (sRet (eBin opAdd (eVar 0) (eC (.str "abcdefghijklmnopqrstuvwxyz{|}~")))))
/-- _law_line: 0 pool, 1 signs, 2 size, 3 k -/
def r_law_line_v1_1 (F_law_draw_v1 F_law_signs : Fn) : SS := (sRet (eBm "str" mJoin (eC (.str "")) (aCons (eLc (iRange1 (aCons (eVar 2) aNil)) (.nm 3) cYes (eBin opIx (eVar 1) (eCall F_law_draw_v1 (aCons (eVar 0) (aCons (eCallB cnLen (aCons (eVar 1) aNil)) aNil)))) [3]) aNil)))
def t_law_line_v1 (F_law_draw_v1 F_law_signs : Fn) : SS := (sSeq (sIf (cB (eBin opEq (eBin opIx (eVar 0) (eC (.int 3))) (eC (.int 0)))) (sRet (eBin opIx (eLst (aCons (eC (.str "a")) (aCons (eC (.str "b")) (aCons (eC (.str "")) aNil)))) (eCall F_law_draw_v1 (aCons (eVar 0) (aCons (eC (.int 3)) aNil))))) sNop)
  (sSeq (sIf (cB (eBin opEq (eCall F_law_draw_v1 (aCons (eVar 0) (aCons (eC (.int 2)) aNil))) (eC (.int 0)))) (sRet (eBin opIx (eLst (aCons (eC (.str "")) (aCons (eC (.str "a")) (aCons (eC (.str "b")) (aCons (eC (.str "a b")) (aCons (eC (.str " ")) (aCons (eC (.str "-")) (aCons (eC (.str "+")) (aCons (eC (.str "* a")) (aCons (eC (.str "@ 0 0 1")) (aCons (eC (.str "ab")) aNil))))))))))) (eCall F_law_draw_v1 (aCons (eVar 0) (aCons (eC (.int 10)) aNil))))) sNop)
  (sSeq (sAsg (eCall F_law_signs aNil) (.nm 1))
  (sSeq (sAsg (eBin opAdd (eC (.int 1)) (eCall F_law_draw_v1 (aCons (eVar 0) (aCons (eC (.int 4)) aNil)))) (.nm 2))
  (sSeq (sIf (cB (eBin opEq (eCall F_law_draw_v1 (aCons (eVar 0) (aCons (eC (.int 16)) aNil))) (eC (.int 5)))) (sAsg (eC (.int 40)) (.nm 2)) sNop)
  (r_law_line_v1_1 F_law_draw_v1 F_law_signs))))))
/-- _law_text: 0 pool, 1 size, 2 k -/
def t_law_text_v1 (F_law_line_v1 : Fn) : SS := (sRet (eCallB cnTuple (aCons (eLc (iRange1 (aCons (eVar 1) aNil)) (.nm 2) cYes (eCall F_law_line_v1 (aCons (eVar 0) aNil)) [2]) aNil)))
/-- _law_applied: 0 edit, 1 text, 2 new, 3 done, 4 hunk -/
def b_law_applied_1 : SS := (sSeq (sAsg (eBin opAdd (eBin opAdd (eVar 2) (eSl (eVar 1) (oSome (eVar 3)) (oSome (eBin opIx (eVar 4) (eC (.int 0)))))) (eBin opIx (eVar 4) (eC (.int 2)))) (.nm 2))
  (sAsg (eBin opAdd (eBin opIx (eVar 4) (eC (.int 0))) (eCallB cnLen (aCons (eBin opIx (eVar 4) (eC (.int 1))) aNil))) (.nm 3)))
def t_law_applied : SS := (sSeq (sAsg (eTup aNil) (.nm 2))
  (sSeq (sAsg (eC (.int 0)) (.nm 3))
  (sSeq (sFor (iSeq (eVar 0)) (.nm 4) (b_law_applied_1))
  (sRet (eBin opAdd (eVar 2) (eSl (eVar 1) (oSome (eVar 3)) oNo))))))
/-- _law_edit: 0 pool, 1 text, 2 most, 3 hunks, 4 low, 5 k, 6 room, 7 at, 8 many, 9 old, 10 new -/
def r_law_edit_v2_1 (F_law_draw_v1 F_law_text_v1 F_law_line_v1 : Fn) : SS := (sSeq (sEx (eBm "list" mAppend (eVar 3) (aCons (eTup (aCons (eVar 7) (aCons (eVar 9) (aCons (eVar 10) aNil)))) aNil)))
  (sAsg (eBin opAdd (eBin opAdd (eVar 7) (eVar 8)) (eC (.int 1))) (.nm 4)))
def b_law_edit_v2_2 (F_law_draw_v1 F_law_text_v1 F_law_line_v1 : Fn) : SS := (sSeq (sAsg (eBin opSub (eCallB cnLen (aCons (eVar 1) aNil)) (eVar 4)) (.nm 6))
  (sSeq (sIf (cB (eBin opLt (eVar 6) (eC (.int 0)))) sBreak sNop)
  (sSeq (sAsg (eBin opAdd (eVar 4) (eCallB cnMin (aCons (eCall F_law_draw_v1 (aCons (eVar 0) (aCons (eBin opIx (eLst (aCons (eC (.int 1)) (aCons (eC (.int 2)) (aCons (eC (.int 3)) (aCons (eBin opAdd (eVar 6) (eC (.int 1))) aNil))))) (eCall F_law_draw_v1 (aCons (eVar 0) (aCons (eC (.int 4)) aNil)))) aNil))) (aCons (eVar 6) aNil)))) (.nm 7))
  (sSeq (sAsg (eCallB cnMin (aCons (eCall F_law_draw_v1 (aCons (eVar 0) (aCons (eBin opIx (eLst (aCons (eC (.int 1)) (aCons (eC (.int 2)) (aCons (eC (.int 3)) (aCons (eBin opAdd (eVar 6) (eC (.int 1))) aNil))))) (eCall F_law_draw_v1 (aCons (eVar 0) (aCons (eC (.int 4)) aNil)))) aNil))) (aCons (eBin opSub (eCallB cnLen (aCons (eVar 1) aNil)) (eVar 7)) aNil))) (.nm 8))
  (sSeq (sAsg (eSl (eVar 1) (oSome (eVar 7)) (oSome (eBin opAdd (eVar 7) (eVar 8)))) (.nm 9))
  (sSeq (sAsg (eCall F_law_text_v1 (aCons (eVar 0) (aCons (eCall F_law_draw_v1 (aCons (eVar 0) (aCons (eBin opIx (eLst (aCons (eC (.int 1)) (aCons (eC (.int 2)) (aCons (eC (.int 3)) (aCons (eC (.int 5)) aNil))))) (eCall F_law_draw_v1 (aCons (eVar 0) (aCons (eC (.int 4)) aNil)))) aNil))) aNil))) (.nm 10))
  (sSeq (sIf (cB (eBin opEq (eVar 10) (eVar 9))) (sAsg (eBin opAdd (eVar 10) (eTup (aCons (eCall F_law_line_v1 (aCons (eVar 0) aNil)) aNil))) (.nm 10)) sNop)
  (r_law_edit_v2_1 F_law_draw_v1 F_law_text_v1 F_law_line_v1))))))))
def t_law_edit_v2 (F_law_draw_v1 F_law_text_v1 F_law_line_v1 : Fn) : SS := (sSeq (sAsg (eLst aNil) (.nm 3))
  (sSeq (sAsg (eC (.int 0)) (.nm 4))
  (sSeq (sFor (iRange1 (aCons (eCall F_law_draw_v1 (aCons (eVar 0) (aCons (eBin opAdd (eVar 2) (eC (.int 1))) aNil))) aNil)) (.nm 5) (b_law_edit_v2_2 F_law_draw_v1 F_law_text_v1 F_law_line_v1))
  (sRet (eCallB cnTuple (aCons (eVar 3) aNil))))))
/-- _law_same: 0 told, 1 due, 2 k -/
def b_law_same_v2_1 (F_law_same_v2 : Fn) : SS := (sIf (cNot (cT (eCall F_law_same_v2 (aCons (eBin opIx (eVar 0) (eVar 2)) (aCons (eBin opIx (eVar 1) (eVar 2)) aNil))))) (sRet (eC (.bl false))) sNop)
def t_law_same_v2 (F_law_same_v2 : Fn) : SS := (sSeq (sIf (cT (eIsi "tuple" (eVar 1))) (sSeq (sIf (cOr (cNot (cT (eIsi "tuple" (eVar 0)))) (cB (eBin opNe (eCallB cnLen (aCons (eVar 0) aNil)) (eCallB cnLen (aCons (eVar 1) aNil))))) (sRet (eC (.bl false))) sNop)
  (sSeq (sFor (iRange1 (aCons (eCallB cnLen (aCons (eVar 1) aNil)) aNil)) (.nm 2) (b_law_same_v2_1 F_law_same_v2))
  (sRet (eC (.bl true))))) sNop)
  (sSeq (sIf (cB (eBin opIs (eVar 1) (eC .non))) (sRet (eBin opIs (eVar 0) (eC .non))) sNop)
  (sSeq (sIf (cT (eIsi "bool" (eVar 1))) (sRet (eAnd (eIsi "bool" (eVar 0)) (eBin opEq (eVar 0) (eVar 1)))) sNop)
  (sSeq (sIf (cT (eIsi "int" (eVar 1))) (sRet (eAnd (eIsi "int" (eVar 0)) (eAnd (eNot (eIsi "bool" (eVar 0))) (eBin opEq (eVar 0) (eVar 1))))) sNop)
  (sRet (eAnd (eIsi "str" (eVar 0)) (eBin opEq (eVar 0) (eVar 1))))))))
/-- check_sizes: 0 first, 1 second -/
def t_check_sizes (C_TEXT_MOST : D) : SS := (sIf (cOr (cB (eBin opGt (eCallB cnLen (aCons (eVar 0) aNil)) (eC C_TEXT_MOST))) (cB (eBin opGt (eCallB cnLen (aCons (eVar 1) aNil)) (eC C_TEXT_MOST)))) (sRaise "TooMany" ["limit"] (aCons (eC C_TEXT_MOST) aNil)) sNop)
/-- tail_table: 0 first, 1 second, 2 table, 3 _, 4 i, 5 j -/
def b_tail_table_1 : SS := (sIf (cB (eBin opEq (eBin opIx (eVar 0) (eVar 4)) (eBin opIx (eVar 1) (eVar 5)))) (sSet (eBin opIx (eVar 2) (eVar 4)) (eVar 5) (eBin opAdd (eBin opIx (eBin opIx (eVar 2) (eBin opAdd (eVar 4) (eC (.int 1)))) (eBin opAdd (eVar 5) (eC (.int 1)))) (eC (.int 1)))) (sSet (eBin opIx (eVar 2) (eVar 4)) (eVar 5) (eCallB cnMax (aCons (eBin opIx (eBin opIx (eVar 2) (eBin opAdd (eVar 4) (eC (.int 1)))) (eVar 5)) (aCons (eBin opIx (eBin opIx (eVar 2) (eVar 4)) (eBin opAdd (eVar 5) (eC (.int 1)))) aNil)))))
def b_tail_table_2 : SS := (sFor (iRevR1 (eCallB cnLen (aCons (eVar 1) aNil))) (.nm 5) (b_tail_table_1))
def t_tail_table : SS := (sSeq (sAsg (eLc (iRange1 (aCons (eBin opAdd (eCallB cnLen (aCons (eVar 0) aNil)) (eC (.int 1))) aNil)) (.nm 3) cYes (eLc (iRange1 (aCons (eBin opAdd (eCallB cnLen (aCons (eVar 1) aNil)) (eC (.int 1))) aNil)) (.nm 3) cYes (eC (.int 0)) [3]) [3]) (.nm 2))
  (sSeq (sFor (iRevR1 (eCallB cnLen (aCons (eVar 0) aNil))) (.nm 4) (b_tail_table_2))
  (sRet (eVar 2))))
/-- shared_lines: 0 first, 1 second -/
def t_shared_lines (F_check_sizes F_tail_table : Fn) : SS := (sSeq (sEx (eCall F_check_sizes (aCons (eVar 0) (aCons (eVar 1) aNil))))
  (sRet (eBin opIx (eBin opIx (eCall F_tail_table (aCons (eVar 0) (aCons (eVar 1) aNil))) (eC (.int 0))) (eC (.int 0)))))
/-- shared_pairs: 0 first, 1 second, 2 table, 3 pairs, 4 i, 5 j -/
def b_shared_pairs_1 (F_check_sizes F_tail_table : Fn) : SS := (sIf (cB (eBin opEq (eBin opIx (eVar 0) (eVar 4)) (eBin opIx (eVar 1) (eVar 5)))) (sSeq (sEx (eBm "list" mAppend (eVar 3) (aCons (eTup (aCons (eVar 4) (aCons (eVar 5) aNil))) aNil)))
  (sSeq (sAsg (eBin opAdd (eVar 4) (eC (.int 1))) (.nm 4))
  (sAsg (eBin opAdd (eVar 5) (eC (.int 1))) (.nm 5)))) (sIf (cB (eBin opGe (eBin opIx (eBin opIx (eVar 2) (eBin opAdd (eVar 4) (eC (.int 1)))) (eVar 5)) (eBin opIx (eBin opIx (eVar 2) (eVar 4)) (eBin opAdd (eVar 5) (eC (.int 1)))))) (sAsg (eBin opAdd (eVar 4) (eC (.int 1))) (.nm 4)) (sAsg (eBin opAdd (eVar 5) (eC (.int 1))) (.nm 5))))
def t_shared_pairs (F_check_sizes F_tail_table : Fn) : SS := (sSeq (sEx (eCall F_check_sizes (aCons (eVar 0) (aCons (eVar 1) aNil))))
  (sSeq (sAsg (eCall F_tail_table (aCons (eVar 0) (aCons (eVar 1) aNil))) (.nm 2))
  (sSeq (sAsg (eLst aNil) (.nm 3))
  (sSeq (sAsg (eC (.int 0)) (.nm 4))
  (sSeq (sAsg (eC (.int 0)) (.nm 5))
  (sSeq (sWhile (cAnd (cB (eBin opLt (eVar 4) (eCallB cnLen (aCons (eVar 0) aNil)))) (cB (eBin opLt (eVar 5) (eCallB cnLen (aCons (eVar 1) aNil))))) (b_shared_pairs_1 F_check_sizes F_tail_table))
  (sRet (eCallB cnTuple (aCons (eVar 3) aNil)))))))))
/-- diff: 0 first, 1 second, 2 hunks, 3 i, 4 j, 5 p, 6 q -/
def r_diff_1 (F_shared_pairs : Fn) : SS := (sSeq (sAsg (eBin opAdd (eVar 5) (eC (.int 1))) (.nm 3))
  (sAsg (eBin opAdd (eVar 6) (eC (.int 1))) (.nm 4)))
def b_diff_2 (F_shared_pairs : Fn) : SS := (sSeq (sIf (cOr (cB (eBin opGt (eVar 5) (eVar 3))) (cB (eBin opGt (eVar 6) (eVar 4)))) (sEx (eBm "list" mAppend (eVar 2) (aCons (eTup (aCons (eVar 3) (aCons (eSl (eVar 0) (oSome (eVar 3)) (oSome (eVar 5))) (aCons (eSl (eVar 1) (oSome (eVar 4)) (oSome (eVar 6))) aNil)))) aNil))) sNop)
  (r_diff_1 F_shared_pairs))
def t_diff (F_shared_pairs : Fn) : SS := (sSeq (sAsg (eLst aNil) (.nm 2))
  (sSeq (sAsg (eC (.int 0)) (.nm 3))
  (sSeq (sAsg (eC (.int 0)) (.nm 4))
  (sSeq (sFor (iSeq (eBin opAdd (eCall F_shared_pairs (aCons (eVar 0) (aCons (eVar 1) aNil))) (eTup (aCons (eTup (aCons (eCallB cnLen (aCons (eVar 0) aNil)) (aCons (eCallB cnLen (aCons (eVar 1) aNil)) aNil))) aNil)))) (.tp [.nm 5, .nm 6]) (b_diff_2 F_shared_pairs))
  (sRet (eCallB cnTuple (aCons (eVar 2) aNil)))))))
/-- head_table: 0 first, 1 second, 2 table, 3 _, 4 i, 5 j -/
def b_head_table_1 : SS := (sIf (cB (eBin opEq (eBin opIx (eVar 0) (eVar 4)) (eBin opIx (eVar 1) (eVar 5)))) (sSet (eBin opIx (eVar 2) (eBin opAdd (eVar 4) (eC (.int 1)))) (eBin opAdd (eVar 5) (eC (.int 1))) (eBin opAdd (eBin opIx (eBin opIx (eVar 2) (eVar 4)) (eVar 5)) (eC (.int 1)))) (sSet (eBin opIx (eVar 2) (eBin opAdd (eVar 4) (eC (.int 1)))) (eBin opAdd (eVar 5) (eC (.int 1))) (eCallB cnMax (aCons (eBin opIx (eBin opIx (eVar 2) (eVar 4)) (eBin opAdd (eVar 5) (eC (.int 1)))) (aCons (eBin opIx (eBin opIx (eVar 2) (eBin opAdd (eVar 4) (eC (.int 1)))) (eVar 5)) aNil)))))
def b_head_table_2 : SS := (sFor (iRange1 (aCons (eCallB cnLen (aCons (eVar 1) aNil)) aNil)) (.nm 5) (b_head_table_1))
def t_head_table : SS := (sSeq (sAsg (eLc (iRange1 (aCons (eBin opAdd (eCallB cnLen (aCons (eVar 0) aNil)) (eC (.int 1))) aNil)) (.nm 3) cYes (eLc (iRange1 (aCons (eBin opAdd (eCallB cnLen (aCons (eVar 1) aNil)) (eC (.int 1))) aNil)) (.nm 3) cYes (eC (.int 0)) [3]) [3]) (.nm 2))
  (sSeq (sFor (iRange1 (aCons (eCallB cnLen (aCons (eVar 0) aNil)) aNil)) (.nm 4) (b_head_table_2))
  (sRet (eVar 2))))
/-- layers: 0 first, 1 second, 2 table, 3 rows, 4 _, 5 i, 6 j, 7 row -/
def b_layers_1 (F_check_sizes F_head_table : Fn) : SS := (sIf (cB (eBin opEq (eBin opIx (eVar 0) (eVar 5)) (eBin opIx (eVar 1) (eVar 6)))) (sEx (eBm "list" mAppend (eBin opIx (eVar 3) (eBin opIx (eBin opIx (eVar 2) (eVar 5)) (eVar 6))) (aCons (eTup (aCons (eVar 5) (aCons (eVar 6) aNil))) aNil))) sNop)
def b_layers_2 (F_check_sizes F_head_table : Fn) : SS := (sFor (iRevR1 (eCallB cnLen (aCons (eVar 1) aNil))) (.nm 6) (b_layers_1 F_check_sizes F_head_table))
def t_layers (F_check_sizes F_head_table : Fn) : SS := (sSeq (sEx (eCall F_check_sizes (aCons (eVar 0) (aCons (eVar 1) aNil))))
  (sSeq (sAsg (eCall F_head_table (aCons (eVar 0) (aCons (eVar 1) aNil))) (.nm 2))
  (sSeq (sAsg (eLc (iRange1 (aCons (eBin opIx (eBin opIx (eVar 2) (eCallB cnLen (aCons (eVar 0) aNil))) (eCallB cnLen (aCons (eVar 1) aNil))) aNil)) (.nm 4) cYes (eLst aNil) [4]) (.nm 3))
  (sSeq (sFor (iRange1 (aCons (eCallB cnLen (aCons (eVar 0) aNil)) aNil)) (.nm 5) (b_layers_2 F_check_sizes F_head_table))
  (sRet (eCallB cnTuple (aCons (eLc (iSeq (eVar 3)) (.nm 7) cYes (eCallB cnTuple (aCons (eVar 7) aNil)) [7]) aNil)))))))
/-- _law_answer: 0 kind, 1 a, 2 b, 3 e -/
def t_law_answer (F_shared_lines F_shared_pairs F_diff F_layers : Fn) : SS := (sTryG [⟨some 3, Tb_TooMany, fun x => (sSeq (sIf (cOr (cT (eIsE x Tb_BadText)) (cOr (cNot (cT (eIsE x Tb_ReviewError))) (cNot (cT (eIsE x Tb_ValueError))))) (sRet (eTup (aCons (eC (.str "odd")) (aCons (eC (.int 0)) aNil)))) sNop)
  (sRet (eTup (aCons (eC (.str "many")) (aCons (eFld x "limit") aNil)))))⟩] (sSeq (sIf (cB (eBin opEq (eVar 0) (eC (.int 0)))) (sRet (eTup (aCons (eC (.str "fine")) (aCons (eCall F_shared_lines (aCons (eVar 1) (aCons (eVar 2) aNil))) aNil)))) sNop)
  (sSeq (sIf (cB (eBin opEq (eVar 0) (eC (.int 1)))) (sRet (eTup (aCons (eC (.str "fine")) (aCons (eCall F_shared_pairs (aCons (eVar 1) (aCons (eVar 2) aNil))) aNil)))) sNop)
  (sSeq (sIf (cB (eBin opEq (eVar 0) (eC (.int 2)))) (sRet (eTup (aCons (eC (.str "fine")) (aCons (eCall F_diff (aCons (eVar 1) (aCons (eVar 2) aNil))) aNil)))) sNop)
  (sRet (eTup (aCons (eC (.str "fine")) (aCons (eCall F_layers (aCons (eVar 1) (aCons (eVar 2) aNil))) aNil))))))))
/-- _law_tails: 0 a, 1 b, 2 table, 3 k, 4 i, 5 q, 6 j -/
def b_law_tails_1 : SS := (sSeq (sAsg (eBin opSub (eBin opSub (eCallB cnLen (aCons (eVar 1) aNil)) (eC (.int 1))) (eVar 5)) (.nm 6))
  (sIf (cB (eBin opEq (eBin opIx (eVar 0) (eVar 4)) (eBin opIx (eVar 1) (eVar 6)))) (sSet (eBin opIx (eVar 2) (eVar 4)) (eVar 6) (eBin opAdd (eBin opIx (eBin opIx (eVar 2) (eBin opAdd (eVar 4) (eC (.int 1)))) (eBin opAdd (eVar 6) (eC (.int 1)))) (eC (.int 1)))) (sSet (eBin opIx (eVar 2) (eVar 4)) (eVar 6) (eCallB cnMax (aCons (eBin opIx (eBin opIx (eVar 2) (eBin opAdd (eVar 4) (eC (.int 1)))) (eVar 6)) (aCons (eBin opIx (eBin opIx (eVar 2) (eVar 4)) (eBin opAdd (eVar 6) (eC (.int 1)))) aNil))))))
def b_law_tails_2 : SS := (sSeq (sAsg (eBin opSub (eBin opSub (eCallB cnLen (aCons (eVar 0) aNil)) (eC (.int 1))) (eVar 3)) (.nm 4))
  (sFor (iRange1 (aCons (eCallB cnLen (aCons (eVar 1) aNil)) aNil)) (.nm 5) (b_law_tails_1)))
def t_law_tails : SS := (sSeq (sAsg (eLc (iRange1 (aCons (eBin opAdd (eCallB cnLen (aCons (eVar 0) aNil)) (eC (.int 1))) aNil)) (.nm 3) cYes (eBin opMul (eLst (aCons (eC (.int 0)) aNil)) (eBin opAdd (eCallB cnLen (aCons (eVar 1) aNil)) (eC (.int 1)))) [3]) (.nm 2))
  (sSeq (sFor (iRange1 (aCons (eCallB cnLen (aCons (eVar 0) aNil)) aNil)) (.nm 3) (b_law_tails_2))
  (sRet (eVar 2))))
/-- _law_pairs: 0 a, 1 b, 2 table, 3 found, 4 i, 5 j, 6 k -/
def b_law_pairs_v2_1 : SS := (sSeq (sIf (cOr (cB (eBin opEq (eVar 4) (eCallB cnLen (aCons (eVar 0) aNil)))) (cB (eBin opEq (eVar 5) (eCallB cnLen (aCons (eVar 1) aNil))))) sBreak sNop)
  (sIf (cB (eBin opEq (eBin opIx (eVar 0) (eVar 4)) (eBin opIx (eVar 1) (eVar 5)))) (sSeq (sEx (eBm "list" mAppend (eVar 3) (aCons (eTup (aCons (eVar 4) (aCons (eVar 5) aNil))) aNil)))
  (sSeq (sAsg (eBin opAdd (eVar 4) (eC (.int 1))) (.nm 4))
  (sAsg (eBin opAdd (eVar 5) (eC (.int 1))) (.nm 5)))) (sIf (cB (eBin opGe (eBin opIx (eBin opIx (eVar 2) (eBin opAdd (eVar 4) (eC (.int 1)))) (eVar 5)) (eBin opIx (eBin opIx (eVar 2) (eVar 4)) (eBin opAdd (eVar 5) (eC (.int 1)))))) (sAsg (eBin opAdd (eVar 4) (eC (.int 1))) (.nm 4)) (sAsg (eBin opAdd (eVar 5) (eC (.int 1))) (.nm 5)))))
def t_law_pairs_v2 : SS := (sSeq (sAsg (eLst aNil) (.nm 3))
  (sSeq (sAsg (eC (.int 0)) (.nm 4))
  (sSeq (sAsg (eC (.int 0)) (.nm 5))
  (sSeq (sFor (iRange1 (aCons (eBin opAdd (eCallB cnLen (aCons (eVar 0) aNil)) (eCallB cnLen (aCons (eVar 1) aNil))) aNil)) (.nm 6) (b_law_pairs_v2_1))
  (sRet (eCallB cnTuple (aCons (eVar 3) aNil)))))))
/-- _law_layers: 0 a, 1 b, 2 back, 3 found, 4 k, 5 i, 6 q, 7 j, 8 row -/
def b_law_layers_1 (F_law_tails : Fn) : SS := (sSeq (sAsg (eBin opSub (eBin opSub (eCallB cnLen (aCons (eVar 1) aNil)) (eC (.int 1))) (eVar 6)) (.nm 7))
  (sIf (cB (eBin opEq (eBin opIx (eVar 0) (eVar 5)) (eBin opIx (eVar 1) (eVar 7)))) (sEx (eBm "list" mAppend (eBin opIx (eVar 3) (eBin opIx (eBin opIx (eVar 2) (eBin opSub (eCallB cnLen (aCons (eVar 0) aNil)) (eVar 5))) (eBin opSub (eCallB cnLen (aCons (eVar 1) aNil)) (eVar 7)))) (aCons (eTup (aCons (eVar 5) (aCons (eVar 7) aNil))) aNil))) sNop))
def b_law_layers_2 (F_law_tails : Fn) : SS := (sFor (iRange1 (aCons (eCallB cnLen (aCons (eVar 1) aNil)) aNil)) (.nm 6) (b_law_layers_1 F_law_tails))
def t_law_layers (F_law_tails : Fn) : SS := (sSeq (sAsg (eCall F_law_tails (aCons (eRev (eVar 0)) (aCons (eRev (eVar 1)) aNil))) (.nm 2))
  (sSeq (sAsg (eLc (iRange1 (aCons (eBin opIx (eBin opIx (eVar 2) (eC (.int 0))) (eC (.int 0))) aNil)) (.nm 4) cYes (eLst aNil) [4]) (.nm 3))
  (sSeq (sFor (iRange1 (aCons (eCallB cnLen (aCons (eVar 0) aNil)) aNil)) (.nm 5) (b_law_layers_2 F_law_tails))
  (sRet (eCallB cnTuple (aCons (eLc (iSeq (eVar 3)) (.nm 8) cYes (eCallB cnTuple (aCons (eVar 8) aNil)) [8]) aNil))))))
/-- _law_kept: 0 a, 1 b, 2 kept, 3 hunks, 4 i, 5 j, 6 pair -/
def r_law_kept_v1_1 : SS := (sSeq (sAsg (eBin opAdd (eBin opIx (eVar 6) (eC (.int 0))) (eC (.int 1))) (.nm 4))
  (sAsg (eBin opAdd (eBin opIx (eVar 6) (eC (.int 1))) (eC (.int 1))) (.nm 5)))
def b_law_kept_v1_2 : SS := (sSeq (sIf (cOr (cB (eBin opGt (eBin opIx (eVar 6) (eC (.int 0))) (eVar 4))) (cB (eBin opGt (eBin opIx (eVar 6) (eC (.int 1))) (eVar 5)))) (sEx (eBm "list" mAppend (eVar 3) (aCons (eTup (aCons (eVar 4) (aCons (eSl (eVar 0) (oSome (eVar 4)) (oSome (eBin opIx (eVar 6) (eC (.int 0))))) (aCons (eSl (eVar 1) (oSome (eVar 5)) (oSome (eBin opIx (eVar 6) (eC (.int 1))))) aNil)))) aNil))) sNop)
  (r_law_kept_v1_1))
def t_law_kept_v1 : SS := (sSeq (sAsg (eLst aNil) (.nm 3))
  (sSeq (sAsg (eC (.int 0)) (.nm 4))
  (sSeq (sAsg (eC (.int 0)) (.nm 5))
  (sSeq (sFor (iSeq (eBin opAdd (eVar 2) (eTup (aCons (eTup (aCons (eCallB cnLen (aCons (eVar 0) aNil)) (aCons (eCallB cnLen (aCons (eVar 1) aNil)) aNil))) aNil)))) (.nm 6) (b_law_kept_v1_2))
  (sRet (eCallB cnTuple (aCons (eVar 3) aNil)))))))
/-- law: 0 script, 1 pool, 2 size, 3 other, 4 large, 5 a, 6 b, 7 kind, 8 table, 9 kept, 10 due -/
def b_law_1 (F_law_pool_v1 F_law_draw_v1 F_law_text_v1 F_law_applied F_law_edit_v2 F_law_same_v2 F_law_answer F_law_tails F_law_pairs_v2 F_law_layers F_law_kept_v1 : Fn) : SS := (sIf (cNot (cT (eCall F_law_same_v2 (aCons (eCall F_law_answer (aCons (eVar 7) (aCons (eVar 5) (aCons (eVar 6) aNil)))) (aCons (eTup (aCons (eC (.str "many")) (aCons (eC (.int 60)) aNil))) aNil))))) (sRet (eC (.bl false))) sNop)
def b_law_2 (F_law_pool_v1 F_law_draw_v1 F_law_text_v1 F_law_applied F_law_edit_v2 F_law_same_v2 F_law_answer F_law_tails F_law_pairs_v2 F_law_layers F_law_kept_v1 : Fn) : SS := (sIf (cNot (cT (eCall F_law_same_v2 (aCons (eCall F_law_answer (aCons (eVar 7) (aCons (eVar 5) (aCons (eVar 6) aNil)))) (aCons (eTup (aCons (eC (.str "fine")) (aCons (eBin opIx (eVar 10) (eVar 7)) aNil))) aNil))))) (sRet (eC (.bl false))) sNop)
def r_law_3 (F_law_pool_v1 F_law_draw_v1 F_law_text_v1 F_law_applied F_law_edit_v2 F_law_same_v2 F_law_answer F_law_tails F_law_pairs_v2 F_law_layers F_law_kept_v1 : Fn) : SS := (sSeq (sIf (cOr (cB (eBin opGt (eCallB cnLen (aCons (eVar 5) aNil)) (eC (.int 60)))) (cB (eBin opGt (eCallB cnLen (aCons (eVar 6) aNil)) (eC (.int 60))))) (sSeq (sFor (iRange1 (aCons (eC (.int 4)) aNil)) (.nm 7) (b_law_1 F_law_pool_v1 F_law_draw_v1 F_law_text_v1 F_law_applied F_law_edit_v2 F_law_same_v2 F_law_answer F_law_tails F_law_pairs_v2 F_law_layers F_law_kept_v1))
  (sRet (eC (.bl true)))) sNop)
  (sSeq (sAsg (eCall F_law_tails (aCons (eVar 5) (aCons (eVar 6) aNil))) (.nm 8))
  (sSeq (sAsg (eCall F_law_pairs_v2 (aCons (eVar 5) (aCons (eVar 6) (aCons (eVar 8) aNil)))) (.nm 9))
  (sSeq (sAsg (eLst (aCons (eBin opIx (eBin opIx (eVar 8) (eC (.int 0))) (eC (.int 0))) (aCons (eVar 9) (aCons (eCall F_law_kept_v1 (aCons (eVar 5) (aCons (eVar 6) (aCons (eVar 9) aNil)))) (aCons (eCall F_law_layers (aCons (eVar 5) (aCons (eVar 6) aNil))) aNil))))) (.nm 10))
  (sSeq (sFor (iRange1 (aCons (eC (.int 4)) aNil)) (.nm 7) (b_law_2 F_law_pool_v1 F_law_draw_v1 F_law_text_v1 F_law_applied F_law_edit_v2 F_law_same_v2 F_law_answer F_law_tails F_law_pairs_v2 F_law_layers F_law_kept_v1))
  (sRet (eC (.bl true))))))))
def r_law_4 (F_law_pool_v1 F_law_draw_v1 F_law_text_v1 F_law_applied F_law_edit_v2 F_law_same_v2 F_law_answer F_law_tails F_law_pairs_v2 F_law_layers F_law_kept_v1 : Fn) : SS := (sSeq (sAsg (eCall F_law_text_v1 (aCons (eVar 1) (aCons (eVar 2) aNil))) (.nm 5))
  (sSeq (sAsg (eCall F_law_text_v1 (aCons (eVar 1) (aCons (eVar 3) aNil))) (.nm 6))
  (sSeq (sIf (cOr (cB (eBin opEq (eVar 4) (eC (.int 5)))) (cAnd (cB (eBin opLt (eVar 2) (eC (.int 9)))) (cAnd (cB (eBin opNe (eVar 4) (eC (.int 4)))) (cB (eBin opEq (eCall F_law_draw_v1 (aCons (eVar 1) (aCons (eC (.int 2)) aNil))) (eC (.int 0))))))) (sAsg (eCall F_law_applied (aCons (eCall F_law_edit_v2 (aCons (eVar 1) (aCons (eVar 5) (aCons (eC (.int 4)) aNil)))) (aCons (eVar 5) aNil))) (.nm 6)) sNop)
  (r_law_3 F_law_pool_v1 F_law_draw_v1 F_law_text_v1 F_law_applied F_law_edit_v2 F_law_same_v2 F_law_answer F_law_tails F_law_pairs_v2 F_law_layers F_law_kept_v1))))
def r_law_5 (F_law_pool_v1 F_law_draw_v1 F_law_text_v1 F_law_applied F_law_edit_v2 F_law_same_v2 F_law_answer F_law_tails F_law_pairs_v2 F_law_layers F_law_kept_v1 : Fn) : SS := (sSeq (sIf (cB (eBin opEq (eVar 4) (eC (.int 4)))) (sAsg (eBin opAdd (eC (.int 59)) (eCall F_law_draw_v1 (aCons (eVar 1) (aCons (eC (.int 4)) aNil)))) (.nm 3)) sNop)
  (r_law_4 F_law_pool_v1 F_law_draw_v1 F_law_text_v1 F_law_applied F_law_edit_v2 F_law_same_v2 F_law_answer F_law_tails F_law_pairs_v2 F_law_layers F_law_kept_v1))
def t_law (F_law_pool_v1 F_law_draw_v1 F_law_text_v1 F_law_applied F_law_edit_v2 F_law_same_v2 F_law_answer F_law_tails F_law_pairs_v2 F_law_layers F_law_kept_v1 : Fn) : SS := (sSeq (sAsg (eCall F_law_pool_v1 (aCons (eVar 0) aNil)) (.nm 1))
  (sSeq (sAsg (eCall F_law_draw_v1 (aCons (eVar 1) (aCons (eC (.int 9)) aNil))) (.nm 2))
  (sSeq (sAsg (eCall F_law_draw_v1 (aCons (eVar 1) (aCons (eC (.int 9)) aNil))) (.nm 3))
  (sSeq (sAsg (eCall F_law_draw_v1 (aCons (eVar 1) (aCons (eC (.int 40)) aNil))) (.nm 4))
  (sSeq (sIf (cOr (cB (eBin opEq (eVar 4) (eC (.int 3)))) (cB (eBin opEq (eVar 4) (eC (.int 5))))) (sAsg (eBin opAdd (eC (.int 59)) (eCall F_law_draw_v1 (aCons (eVar 1) (aCons (eC (.int 4)) aNil)))) (.nm 2)) sNop)
  (r_law_5 F_law_pool_v1 F_law_draw_v1 F_law_text_v1 F_law_applied F_law_edit_v2 F_law_same_v2 F_law_answer F_law_tails F_law_pairs_v2 F_law_layers F_law_kept_v1))))))
def F_law_draw_v1 : Fn := bodyF 3 (t_law_draw_v1)
def F_law_pool_v1 : Fn := bodyF 7 (t_law_pool_v1 F_law_draw_v1)
def F_law_signs : Fn := bodyF 1 (t_law_signs)
def F_law_line_v1 : Fn := bodyF 4 (t_law_line_v1 F_law_draw_v1 F_law_signs)
def F_law_text_v1 : Fn := bodyF 3 (t_law_text_v1 F_law_line_v1)
def F_law_applied : Fn := bodyF 5 (t_law_applied)
def F_law_edit_v2 : Fn := bodyF 11 (t_law_edit_v2 F_law_draw_v1 F_law_text_v1 F_law_line_v1)
def R_law_same_v2 : Nat → Fn
  | 0 => fun _ _ _ _ => False
  | r + 1 => bodyF 3 (t_law_same_v2 (R_law_same_v2 r))
def F_law_same_v2 : Fn := R_law_same_v2 6
def F_check_sizes : Fn := bodyF 2 (t_check_sizes C_TEXT_MOST)
def F_tail_table : Fn := bodyF 6 (t_tail_table)
def F_shared_lines : Fn := bodyF 2 (t_shared_lines F_check_sizes F_tail_table)
def F_shared_pairs : Fn := bodyF 6 (t_shared_pairs F_check_sizes F_tail_table)
def F_diff : Fn := bodyF 7 (t_diff F_shared_pairs)
def F_head_table : Fn := bodyF 6 (t_head_table)
def F_layers : Fn := bodyF 8 (t_layers F_check_sizes F_head_table)
def F_law_answer : Fn := bodyF 4 (t_law_answer F_shared_lines F_shared_pairs F_diff F_layers)
def F_law_tails : Fn := bodyF 7 (t_law_tails)
def F_law_pairs_v2 : Fn := bodyF 7 (t_law_pairs_v2)
def F_law_layers : Fn := bodyF 9 (t_law_layers F_law_tails)
def F_law_kept_v1 : Fn := bodyF 7 (t_law_kept_v1)
def F_law : Fn := bodyF 11 (t_law F_law_pool_v1 F_law_draw_v1 F_law_text_v1 F_law_applied F_law_edit_v2 F_law_same_v2 F_law_answer F_law_tails F_law_pairs_v2 F_law_layers F_law_kept_v1)
end SG

set_option maxHeartbeats 1000000
namespace SG
open PySem PySem.Spec L2 DN
/-! ### the pools of the laws k01 to k16: the pool at n, its numbers at m -/
def Pl (M : Mem) (n m : Nat) : Prop := ∃ (ns : List Int) (k s f : Int), mlst M n = some [.ref m, .int k, .int s, .int f] ∧ mlst M m = some (ns.map D.int) ∧ m ≠ n ∧ 0 ≤ k
section
variable {M M' : Mem} {n m : Nat} {S : List Nat}
theorem Pl.ltn (h : Pl M n m) : n < M.length := by obtain ⟨_, _, _, _, h, _⟩ := h; exact mlst_lt h
theorem Pl.ltm (h : Pl M n m) : m < M.length := by obtain ⟨_, _, _, _, _, h, _⟩ := h; exact mlst_lt h
theorem Pl.fr (h : Pl M n m) (f : Fr S M M') (hn : n ∉ S := by simp) (hm : m ∉ S := by simp) : Pl M' n m := by
  obtain ⟨ns, k, s, g, h1, h2, h3, h4⟩ := h
  exact ⟨ns, k, s, g, f.lst h1 hn, f.lst h2 hm, h3, h4⟩
theorem Pl.app (h : Pl M n m) {L : Mem} : Pl (M ++ L) n m := h.fr (Fr.app (S := []))
theorem Pl.set (h : Pl M n m) {j : Nat} {o : O} (hn : j ≠ n) (hm : j ≠ m) : Pl (M.set j o) n m := by
  obtain ⟨ns, k, s, g, h1, h2, h3, h4⟩ := h
  exact ⟨ns, k, s, g, mlst_setne h1 hn, mlst_setne h2 hm, h3, h4⟩
/-- a cell that was made behind the pool -/
theorem Pl.ne (h : Pl M n m) {j : Nat} (hj : M.length ≤ j) : j ≠ n ∧ j ≠ m := ⟨by have := h.ltn; omega, by have := h.ltm; omega⟩
end
theorem w_draw {n m : Nat} {c : Int} {M R Ex} (h : Pl M n m) (hc : 0 < c) (k : ∀ x M', 0 ≤ x → x < c → Pl M' n m → Fr [n] M M' → R (.int x) M') : F_law_draw_v1 [.ref n, .int c] M R Ex := by
  obtain ⟨ns, i, s, f, h1, h2, h3, h4⟩ := h
  have hl := mlst_lt h1
  conv => whnf
  rw [lstAt_of h1]
  conv => whnf
  rw [h1]
  conv => whnf
  have e1 : ∀ xs, lstAt (M.set n (.lst xs)) n = some xs := fun xs => lstAt_of (mlst_set hl)
  have e2 : ∀ xs, lstAt (M.set n (.lst xs)) m = some (ns.map D.int) := fun xs => lstAt_of (mlst_setne h2 h3.symm)
  rw [e1]
  conv => whnf
  rw [e2]
  conv => whnf
  refine bm (fun e => ?_) (fun e => ?_)
  · have e : i < ((ns.map D.int).length : Int) := of_decide_eq_true e
    conv => whnf
    rw [e1]
    conv => whnf
    rw [e2]
    obtain ⟨d, a1, a2⟩ := atI_int h4 e
    rw [List.getElem?_map] at a2
    cases e3 : ns[i.toNat]? with
    | none => rw [e3] at a2; cases a2
    | some z =>
      rw [e3] at a2; cases a2
      conv => whnf
      rw [a1]
      refine ⟨hc, k _ _ (Int.emod_nonneg _ (by omega)) (Int.emod_lt_of_pos _ hc) ⟨ns, i + 1, s, f, mlst_set hl, mlst_setne h2 h3.symm, h3, by omega⟩ (Fr.refl.set (.inl (by simp)))⟩
  · conv => whnf
    rw [e1]
    refine ⟨mul_r (by decide), by decide, ?_⟩
    have e0 : ∀ xs, mlst (M.set n (.lst xs)) n = some xs := fun xs => mlst_set hl
    conv => whnf
    rw [e0]
    conv => whnf
    have hl2 : ∀ o, n < (M.set n o).length := fun o => by simpa using hl
    have e4 : ∀ o xs, lstAt ((M.set n o).set n (.lst xs)) n = some xs := fun o xs => lstAt_of (mlst_set (hl2 o))
    rw [e4]
    refine ⟨by decide, by decide +kernel, hc, ?_⟩
    exact k _ _ (Int.emod_nonneg _ (by omega)) (Int.emod_lt_of_pos _ hc) ⟨ns, i + 1, _, f, mlst_set (hl2 _), mlst_setne (mlst_setne h2 h3.symm) h3.symm, h3, by omega⟩ ((Fr.refl.set (.inl (by simp))).set (.inl (by simp)))
theorem w_law_pool {ns : List Int} {M R Ex} (hl : ns.length ≤ 63) (k : ∀ M' n m, M.length ≤ n → M.length ≤ m → Pl M' n m → Fr [] M M' → R (.ref n) M') : F_law_pool_v1 [.con (ns.map D.int)] M R Ex := by
  unfold F_law_pool_v1
  have w1 := @w_draw; obtain ⟨Fw1, qw1⟩ := op F_law_draw_v1; rw [← qw1] at w1 ⊢; clear qw1
  refine ⟨sz rfl, ?_⟩
  conv => whnf
  have hc : ∃ as : List Int, cutL (ns.map D.int) none (some 63) = as.map D.int ∧ as.length ≤ 63 := by
    refine ⟨cutL ns none (some 63), ?_, ?_⟩
    · unfold cutL; rw [List.length_map, ← List.map_drop, ← List.map_take]
    · unfold cutL; simp only [List.length_take, List.length_drop]; omega
  obtain ⟨as, ea, la⟩ := hc
  rw [ea]
  rw [lstAt_of (mlst_new)]
  refine forL_map D.int (fun r ρ M' => ∃ (nm : List Int) (s : Int) (x3 x4 x5 : Option D), ρ = [some (.con (ns.map D.int)), some (.ref M.length), some (.int s), x3, x4, x5, none] ∧ mlst M' M.length = some (nm.map D.int) ∧ Fr [] M M' ∧ mlst M' (M.length + 1) = some (as.map D.int) ∧ nm.length + 12 * r.length ≤ 12 * 63) (fun r ρ M' h => ?_) ?_ ?_ _ _ _
    ⟨[], 7, none, none, none, rfl, ?_, Fr.app.tr Fr.app, ?_, by simp only [List.length_nil]; omega⟩
  · obtain ⟨_, _, _, _, _, _, _, _, h, _⟩ := h
    simpa using lstAt_of h
  · rintro z r ρ M1 Kn ⟨nm, s, x3, x4, x5, rfl, hm, fr, hm2, hn⟩ hK
    refine ⟨_, rfl, ⟨by decide, by decide, by decide⟩, by decide, ?_⟩
    refine ⟨mul_r (by decide), by decide, ?_⟩
    refine ⟨by decide, by decide, ?_⟩
    rw [List.length_cons] at hn
    refine forL_ix (fun i ρ M' => ∃ (nm : List Int) (s : Int) (x3 x4 : Int) (x5 : Option D), ρ = [some (.con (ns.map D.int)), some (.ref M.length), some (.int s), some (.int x3), some (.int x4), x5, none] ∧ mlst M' M.length = some (nm.map D.int) ∧ Fr [] M M' ∧ mlst M' (M.length + 1) = some (as.map D.int) ∧ nm.length + (12 - i) + 12 * r.length ≤ 12 * 63 ∧ i ≤ 12) _ (fun _ _ _ _ => trivial) ?_ ?_ _ _ ⟨nm, _, _, _, _, rfl, hm, fr, hm2, by omega, by omega⟩
    · rintro i d ρ M2 Kn2 hd ⟨nm, s, x3, x4, x5, rfl, hm, fr, hm2, hn, hi12⟩ hK2
      obtain ⟨hi, rfl⟩ := rngD_get hd
      have hi : i < 12 := hi
      refine ⟨_, rfl, ?_⟩
      refine ⟨rcv_lst hm, ?_⟩
      refine ⟨by decide, ?_⟩
      conv => whnf
      rw [hm]
      refine ⟨Nat.lt_of_lt_of_le (show (nm.map D.int).length < 12 * 63 + 1 by rw [List.length_map]; omega) (by decide), ?_⟩
      refine ⟨by decide, by decide +kernel, ?_⟩
      have en : ∀ z : Int, nm.map D.int ++ [D.int z] = (nm ++ [z]).map D.int := fun z => by simp
      have fr2 : ∀ o, Fr [] M (M2.set M.length o) := fun o => fr.set (.inr (Nat.le_refl _))
      conv => whnf
      rw [eqI]
      refine bm (fun e => ?_) (fun e => ?_)
      · refine hK _ _ ⟨_, s, _, _, _, rfl, by rw [en]; exact mlst_set (mlst_lt hm), fr2 _, mlst_setne hm2 (by omega), ?_⟩
        simp only [List.length_append, List.length_cons, List.length_nil]; omega
      · refine hK2 _ _ ⟨_, s, _, _, _, rfl, by rw [en]; exact mlst_set (mlst_lt hm), fr2 _, mlst_setne hm2 (by omega), ?_, by omega⟩
        simp only [List.length_append, List.length_cons, List.length_nil]; omega
    · rintro ρ M2 ⟨nm, s, x3, x4, x5, rfl, hm, fr, hm2, hn, _⟩
      exact hK _ _ ⟨nm, s, _, _, _, rfl, hm, fr, hm2, by omega⟩
  · rintro ρ M1 ⟨nm, s, x3, x4, x5, rfl, hm, fr, hm2, hn⟩
    refine ⟨sz rfl, ?_⟩
    conv => whnf
    have p1 : Pl (M1 ++ [.lst [.ref M.length, .int 0, .int s, .int 0]]) M1.length M.length := ⟨nm, 0, s, 0, mlst_new, Fr.app.lst (S := []) hm, by have := mlst_lt hm; omega, by omega⟩
    refine w1 p1 (by decide) fun x M2 x0 x1 p2 f2 => ?_
    obtain ⟨ns2, k2, s2, g2, h1, h2, h3, h4⟩ := p2
    conv => whnf
    rw [h1]
    refine k _ M1.length M.length fr.le (Nat.le_refl _) ⟨ns2, k2, s2, x, mlst_set (mlst_lt h1), mlst_setne h2 h3.symm, h3, h4⟩ ?_
    have f3 : Fr [] M1 M2 := (Fr.app.trans f2 fun i hi hl => by simp at hi; omega)
    exact (fr.tr f3).set (.inr fr.le)
  · exact mlst_of (by rw [List.getElem?_append_left (by simp)]; exact mlst_lst mlst_new)
  · have := mlst_new (M := M ++ [O.lst []]) (xs := as.map D.int)
    simpa using this
end SG

set_option maxHeartbeats 1000000
namespace SG
open PySem PySem.Spec L2 DN
theorem signs_ix {z : Str} {i : Int} (h0 : 0 ≤ i) (h1 : i < z.cps.toList.length) (h : z.cps.toList.all okc = true) : ∃ c, atI z.cps.toList i = some c ∧ okc c = true := by
  obtain ⟨c, e, e2⟩ := atI_int h0 h1
  exact ⟨c, e, List.all_eq_true.mp h c (List.mem_of_getElem? e2)⟩
/-- single good signs in a row of data -/
theorem strs_of {acc : List D} (h1 : ∀ d ∈ acc, ∃ c, d = .str ⟨#[c]⟩ ∧ okc c = true) : ∃ ys, strsD acc = some ys ∧ ((ys.map (·.length)).sum = acc.length ∧ ys.length = acc.length) ∧ ∀ y ∈ ys, ∃ c, y = ⟨#[c]⟩ ∧ okc c = true := by
  induction acc with
  | nil => exact ⟨[], rfl, ⟨rfl, rfl⟩, fun _ h => by simp at h⟩
  | cons a r ih =>
    obtain ⟨ys, e1, ⟨e2, e3⟩, e4⟩ := ih fun d hd => h1 d (by simp [hd])
    obtain ⟨c, rfl, hc⟩ := h1 a (by simp)
    refine ⟨⟨#[c]⟩ :: ys, by simp [strsD, e1], ⟨?_, by simp [e3]⟩, fun y hy => ?_⟩
    · have : (⟨#[c]⟩ : Str).length = 1 := rfl
      simp [e2, this]; omega
    · rcases List.mem_cons.mp hy with rfl | hy
      · exact ⟨c, rfl, hc⟩
      · exact e4 y hy
theorem w_law_signs {M R Ex} (k : ∀ z : Str, z.length = 94 → z.cps.toList.all okc = true → R (.str z) M) : F_law_signs [] M R Ex := by
  refine ⟨by decide +kernel, k _ (by decide +kernel) (by decide +kernel)⟩
theorem w_line_rest {n m : Nat} {z : Str} {size : Int} {x : Option D} {M : Mem} {R : KD} {De : SD} (hR : De.rt = R) (h : Pl M n m) (hz : z.length = 94) (ho : z.cps.toList.all okc = true) (h0 : 0 ≤ size) (h1 : size ≤ 40) (k : ∀ x M', okl x = true → Pl M' n m → Fr [n] M M' → R (.str x) M') :
    r_law_line_v1_1 F_law_draw_v1 F_law_signs De [some (.ref n), some (.str z), some (.int size), x] M := by
  unfold r_law_line_v1_1
  have w1 := @w_draw; obtain ⟨Fw1, qw1⟩ := op F_law_draw_v1; rw [← qw1] at w1 ⊢; clear qw1
  subst hR
  conv => whnf
  refine ⟨rfl, by omega, by omega, ?_⟩
  have hne := h.ne (Nat.le_refl _)
  have hz2 : z.cps.toList.length = 94 := by simpa [Str.length] using hz
  refine lcL_inv (fun i M' => ∃ acc, mlst M' M.length = some acc ∧ acc.length = i ∧ (∀ d ∈ acc, ∃ c, d = .str ⟨#[c]⟩ ∧ okc c = true) ∧ Pl M' n m ∧ Fr [n] M M') _ (fun _ _ _ => trivial) ?_ ?_ _ ⟨[], mlst_new, rfl, fun _ h => by simp at h, h.app, Fr.app⟩
  · rintro i d M2 Kc hd ⟨acc, hm, hl, hg, p2, f3⟩ hK
    obtain ⟨hi, rfl⟩ := rngD_get hd
    refine ⟨_, rfl, ?_⟩
    refine ⟨by rw [hz]; decide, ?_⟩
    refine w1 p2 (by omega) fun x M3 x0 x1 p3 f4 => ?_
    refine ⟨by rw [hz]; decide, ?_⟩
    obtain ⟨c, ec, hc⟩ := signs_ix (z := z) x0 (by rw [hz2]; omega) ho
    have m3 := f4.lst hm (by simpa using hne.1)
    conv => whnf
    rw [ec]
    conv => whnf
    rw [m3]
    refine ⟨Nat.lt_of_lt_of_le (show acc.length < 41 by omega) (by decide), hK _ ⟨_, mlst_set (mlst_lt m3), by simp [hl], ?_, p3.set hne.1 hne.2, (f3.tr f4).set (.inr (Nat.le_refl _))⟩⟩
    intro d hd
    rcases List.mem_append.mp hd with hd | hd
    · exact hg d hd
    · simp at hd; subst hd; exact ⟨c, rfl, hc⟩
  · rintro M2 ⟨acc, hm, hl, hg, p2, f3⟩
    rw [rngD_len] at hl
    conv => whnf
    rw [lstAt_of hm]
    conv => whnf
    obtain ⟨ys, ey, el, ez⟩ := strs_of hg
    rw [show (some acc).bind strsD = some ys from ey]
    refine ⟨?_, k _ _ (okl_join ez (by omega)) p2 f3⟩
    rw [el.1, el.2]
    show acc.length + acc.length * 0 ≤ 16777216
    omega
theorem w_law_line {n m : Nat} {M R Ex} (h : Pl M n m) (k : ∀ x M', okl x = true → Pl M' n m → Fr [n] M M' → R (.str x) M') : F_law_line_v1 [.ref n] M R Ex := by
  have wr := @w_line_rest
  unfold F_law_line_v1 t_law_line_v1
  obtain ⟨RR, qR⟩ : ∃ RR, RR = r_law_line_v1_1 F_law_draw_v1 F_law_signs := ⟨_, rfl⟩
  rw [← qR] at wr ⊢; clear qR
  have w1 := @w_draw; obtain ⟨Fw1, qw1⟩ := op F_law_draw_v1; rw [← qw1] at w1 ⊢; clear qw1
  have w2 := @w_law_signs; obtain ⟨Fw2, qw2⟩ := op F_law_signs; rw [← qw2] at w2 ⊢; clear qw2
  have pick : ∀ (xs : List D), okt xs = true → ∀ (x : Int), 0 ≤ x → x < xs.length → ∃ y, atI xs x = some (.str y) ∧ okl y = true := fun xs hx x x0 x1 => by
    obtain ⟨d, hd, a1⟩ := pick_D x0 x1
    obtain ⟨y, rfl, hy⟩ := okt_iff.mp hx d hd
    exact ⟨y, a1, hy⟩
  obtain ⟨ns, i, s, f, h1, h2, h3, h4⟩ := id h
  conv => whnf
  rw [lstAt_of h1]
  conv => whnf
  rw [eqI]
  refine bm (fun e => ?_) (fun e => ?_)
  · refine ⟨sz rfl, ?_⟩
    refine w1 h.app (by decide) fun x M1 x0 x1 p1 f1 => ?_
    obtain ⟨y, a1, hy⟩ := pick [D.str "a", .str "b", .str ""] (by decide +kernel) x x0 x1
    conv => whnf
    rw [lstAt_of (f1.lst mlst_new (by simpa using (h.ne (Nat.le_refl _)).1))]
    conv => whnf
    rw [a1]
    exact k y _ hy p1 (Fr.app.tr f1)
  · refine w1 h (by decide) fun x M1 x0 x1 p1 f1 => ?_
    conv => whnf
    rw [eqI]
    refine bm (fun e2 => ?_) (fun e2 => ?_)
    · refine ⟨sz rfl, ?_⟩
      refine w1 p1.app (by decide) fun x M2 x0 x1 p2 f2 => ?_
      obtain ⟨y, a1, hy⟩ := pick [D.str "", .str "a", .str "b", .str "a b", .str " ", .str "-", .str "+", .str "* a", .str "@ 0 0 1", .str "ab"] (by decide +kernel) x x0 x1
      conv => whnf
      rw [lstAt_of (f2.lst mlst_new (by simpa using (p1.ne (Nat.le_refl _)).1))]
      conv => whnf
      rw [a1]
      exact k y _ hy p2 (f1.tr (Fr.app.tr f2))
    · refine w2 fun z hz ho => ?_
      refine w1 p1 (by decide) fun x M2 x0 x1 p2 f2 => ?_
      refine w1 p2 (by decide) fun y M3 y0 y1 p3 f3 => ?_
      conv => whnf
      rw [eqI]
      refine bm (fun e3 => ?_) (fun e3 => ?_)
      · exact wr rfl p3 hz ho (by decide) (by decide) fun x M' hx p f => k x M' hx p (f1.tr (f2.tr (f3.tr f)))
      · exact wr rfl p3 hz ho (by omega) (by omega) fun x M' hx p f => k x M' hx p (f1.tr (f2.tr (f3.tr f)))
theorem w_law_text {n m : Nat} {c : Int} {M R Ex} (h : Pl M n m) (hc : 0 ≤ c) (hc2 : c ≤ 100000) (k : ∀ xs M', okt xs = true → xs.length = c.toNat → Pl M' n m → Fr [n] M M' → R (.tup xs) M') : F_law_text_v1 [.ref n, .int c] M R Ex := by
  unfold F_law_text_v1
  have w1 := @w_law_line; obtain ⟨Fw1, qw1⟩ := op F_law_line_v1; rw [← qw1] at w1 ⊢; clear qw1
  refine ⟨by omega, by omega, ?_⟩
  have hne := h.ne (Nat.le_refl _)
  refine lcL_inv (fun i M' => ∃ acc, mlst M' M.length = some acc ∧ acc.length = i ∧ okt acc = true ∧ Pl M' n m ∧ Fr [n] M M') _ (fun _ _ _ => trivial) ?_ ?_ _ ⟨[], mlst_new, rfl, rfl, h.app, Fr.app⟩
  · rintro i d M2 Kc hd ⟨acc, hm, hl, ht, p2, f3⟩ hK
    obtain ⟨hi, rfl⟩ := rngD_get hd
    refine ⟨_, rfl, ?_⟩
    refine w1 p2 fun x M3 hx p3 f4 => ?_
    have m3 := f4.lst hm (by simpa using hne.1)
    conv => whnf
    rw [m3]
    exact ⟨Nat.lt_of_lt_of_le (show acc.length < 100001 by omega) (by decide), hK _ ⟨_, mlst_set (mlst_lt m3), by simp [hl], okt_app ht (by simp [okt, hx]), p3.set hne.1 hne.2, (f3.tr f4).set (.inr (Nat.le_refl _))⟩⟩
  · rintro M2 ⟨acc, hm, hl, ht, p2, f3⟩
    rw [rngD_len] at hl
    exact cnTuple_ok hm (k _ _ ht hl p2 f3)
/-! ### _law_same of two equal values -/
theorem w_same_r : ∀ (r : Nat) (d : D), fit r d → ∀ {M R Ex}, R (.bl true) M → R_law_same_v2 r [d, d] M R Ex
  | 0, d, h, _, _, _, _ => h.elim
  | r + 1, d, h, M, R, Ex, k => by
    have ih := w_same_r r
    unfold R_law_same_v2
    generalize R_law_same_v2 r = F at ih ⊢
    cases d with
    | non => exact k
    | bl b => cases b <;> exact k
    | int i =>
      conv => whnf
      rw [eqI, decide_eq_true rfl]
      exact k
    | str i =>
      conv => whnf
      rw [eqS, decide_eq_true rfl]
      exact k
    | ref n => exact h.elim
    | con n => exact h.elim
    | tup xs =>
      have hl : (xs.length : Int) < 2 ^ 62 := by have := h.1; omega
      conv => whnf
      rw [eqI, decide_eq_true rfl]
      conv => whnf
      refine ⟨hl, by omega, ?_⟩
      refine forL_ix (fun i ρ M' => M' = M ∧ ∃ x, ρ = [some (.tup xs), some (.tup xs), x]) _ (fun _ _ _ _ => trivial) ?_ ?_ _ _ ⟨rfl, _, rfl⟩
      · rintro i d ρ M1 Kn hd ⟨rfl, x, rfl⟩ hK
        obtain ⟨hi, rfl⟩ := rngD_get hd
        have hi : i < xs.length := by simpa using hi
        refine ⟨_, rfl, ?_⟩
        conv => whnf
        rw [atI_get (j := i) (by omega) (List.getElem?_eq_getElem hi)]
        conv => whnf
        rw [atI_get (j := i) (by omega) (List.getElem?_eq_getElem hi)]
        refine ih xs[i] (h.2 _ (List.getElem_mem hi)) ?_
        exact hK _ _ ⟨rfl, _, rfl⟩
      · rintro ρ M1 ⟨rfl, x, rfl⟩
        exact k
theorem fit_up : ∀ {r : Nat} {d : D}, fit r d → fit (r + 1) d
  | 0, _, h => h.elim
  | r + 1, d, h => by
    cases d with
    | tup xs => exact ⟨h.1, fun x hx => fit_up (h.2 x hx)⟩
    | ref _ => exact h.elim
    | con _ => exact h.elim
    | _ => trivial
theorem fit_le {r s : Nat} {d : D} (h : fit r d) (l : r ≤ s) : fit s d := by
  induction l with
  | refl => exact h
  | step _ ih => exact fit_up ih
theorem w_same {d e : D} (he : d = e) (h : fit 6 d) {M R Ex} (k : R (.bl true) M) : F_law_same_v2 [d, e] M R Ex := by subst he; exact w_same_r _ d (fit_le h (by decide)) k
end SG

set_option maxHeartbeats 1000000
namespace SG
open PySem PySem.Spec L2 DN
theorem pickI {xs : List Int} {x : Int} (h0 : 0 ≤ x) (h1 : x < xs.length) : ∃ c ∈ xs, atI (xs.map D.int) x = some (.int c) := by
  obtain ⟨d, hd, a1⟩ := pick_D (xs := xs.map D.int) h0 (by rw [List.length_map]; exact h1)
  obtain ⟨c, hc, rfl⟩ := List.mem_map.mp hd
  exact ⟨c, hc, a1⟩
/-! ### drawn edits of a text -/
def Hk.good (h : Hk) : Prop := okt h.o = true ∧ okt h.n = true ∧ h.n.length ≤ 5 ∧ h.o ≠ h.n
theorem w_law_edit {n m : Nat} {t : List D} {most : Int} {M R Ex} (h : Pl M n m) (ht : okt t = true) (hl : t.length ≤ 1000) (h0 : 0 ≤ most) (h1 : most ≤ 1000)
    (k : ∀ hs M', Valid t 0 hs → (∀ h ∈ hs, Hk.good h) → hs.length ≤ most.toNat → Pl M' n m → Fr [n] M M' → R (.tup (hs.map Hk.d)) M') : F_law_edit_v2 [.ref n, .tup t, .int most] M R Ex := by
  unfold F_law_edit_v2
  have w1 := @w_draw; obtain ⟨Fw1, qw1⟩ := op F_law_draw_v1; rw [← qw1] at w1 ⊢; clear qw1
  have w2 := @w_law_text; obtain ⟨Fw2, qw2⟩ := op F_law_text_v1; rw [← qw2] at w2 ⊢; clear qw2
  have w3 := @w_law_line; obtain ⟨Fw3, qw3⟩ := op F_law_line_v1; rw [← qw3] at w3 ⊢; clear qw3
  refine ⟨sz rfl, ?_⟩
  have hne := h.ne (Nat.le_refl _)
  refine w1 h.app (by omega) fun x M1 x0 x1 p1 f1 => ?_
  refine ⟨by omega, by omega, ?_⟩
  refine forL_ix (fun i ρ M' => ∃ (acc : List Hk) (low : Int) (x5 x6 x7 x8 x9 x10 : Option D), ρ = [some (.ref n), some (.tup t), some (.int most), some (.ref M.length), some (.int low), x5, x6, x7, x8, x9, x10] ∧ mlst M' M.length = some (acc.map Hk.d) ∧ Valid t 0 acc ∧ (∀ x ∈ acc, x.e + 1 ≤ low) ∧ 0 ≤ low ∧ (∀ x ∈ acc, Hk.good x) ∧ acc.length ≤ i ∧ (i : Int) ≤ x ∧ Pl M' n m ∧ Fr [n] M M') _ (fun _ _ _ _ => trivial) ?_ ?_ _ _
    ⟨[], 0, _, _, _, _, _, _, rfl, f1.lst mlst_new (by simpa using hne.1), trivial, fun _ h => by simp at h, by omega, fun _ h => by simp at h, by simp, by omega, p1, Fr.app.tr f1⟩
  · rintro i d ρ M2 Kn hd ⟨acc, low, x5, x6, x7, x8, x9, x10, rfl, hm, hv, hlow, l0, hg, hal, hix, p2, f2⟩ hK
    obtain ⟨hi, rfl⟩ := rngD_get hd
    refine ⟨_, rfl, ?_⟩
    conv => whnf
    refine bm (fun eb => ?_) (fun eb => ?_)
    · -- break
      refine cnTuple_ok hm (k acc M2 hv hg (by omega) p2 f2)
    · have room : 0 ≤ (t.length : Int) - low := by have := of_decide_eq_false eb; omega
      -- at
      refine ⟨sz rfl, ?_⟩
      refine w1 p2.app (by decide) fun a M3 a0 a1 p3 f3 => ?_
      obtain ⟨c, hc, ec⟩ := pickI (xs := [1, 2, 3, (t.length : Int) - low + 1]) a0 (by simpa using a1)
      have m3 : ∀ {j : Nat} {M M' : Mem} {xs : List D}, Pl M n m → M.length ≤ j → mlst M j = some xs → False := fun p hj e => by have := mlst_lt e; omega
      conv => whnf
      rw [lstAt_of (f3.lst mlst_new (by simpa using (p2.ne (Nat.le_refl _)).1))]
      conv => whnf
      rw [show ([D.int 1, .int 2, .int 3, .int ((t.length : Int) - low + 1)] : List D) = [1, 2, 3, (t.length : Int) - low + 1].map D.int from rfl, ec]
      have cpos : 0 < c := by simp at hc; omega
      refine w1 p3 cpos fun b M4 b0 b1 p4 f4 => ?_
      have f24 : Fr [n] M2 M4 := Fr.app.tr (f3.tr f4)
      obtain ⟨at_, hat, at0, at1⟩ : ∃ at_ : Int, low + (if (t.length : Int) - low < b then (t.length : Int) - low else b) = at_ ∧ low ≤ at_ ∧ at_ ≤ t.length := ⟨_, rfl, by split <;> omega, by split <;> omega⟩
      conv => whnf
      rw [hat]
      -- many
      refine ⟨sz rfl, ?_⟩
      refine w1 p4.app (by decide) fun a' M5 a0' a1' p5 f5 => ?_
      obtain ⟨c', hc', ec'⟩ := pickI (xs := [1, 2, 3, (t.length : Int) - low + 1]) a0' (by simpa using a1')
      conv => whnf
      rw [lstAt_of (f5.lst mlst_new (by simpa using (p4.ne (Nat.le_refl _)).1))]
      conv => whnf
      rw [show ([D.int 1, .int 2, .int 3, .int ((t.length : Int) - low + 1)] : List D) = [1, 2, 3, (t.length : Int) - low + 1].map D.int from rfl, ec']
      have cpos' : 0 < c' := by simp at hc'; omega
      refine w1 p5 cpos' fun b' M6 b0' b1' p6 f6 => ?_
      have f26 : Fr [n] M2 M6 := f24.tr (Fr.app.tr (f5.tr f6))
      obtain ⟨many, hmany, mn0, mn1⟩ : ∃ many : Int, (if (t.length : Int) - at_ < b' then (t.length : Int) - at_ else b') = many ∧ 0 ≤ many ∧ at_ + many ≤ t.length := ⟨_, rfl, by split <;> omega, by split <;> omega⟩
      conv => whnf
      rw [hmany]
      -- old
      rw [cutL_int (by omega) (by omega) (by omega)]
      -- new
      refine ⟨sz rfl, ?_⟩
      refine w1 p6.app (by decide) fun a2 M7 a20 a21 p7 f7 => ?_
      obtain ⟨c2, hc2, ec2⟩ := pickI (xs := [1, 2, 3, 5]) a20 (by simpa using a21)
      conv => whnf
      rw [lstAt_of (f7.lst mlst_new (by simpa using (p6.ne (Nat.le_refl _)).1))]
      conv => whnf
      rw [show ([D.int 1, .int 2, .int 3, .int 5] : List D) = [1, 2, 3, 5].map D.int from rfl, ec2]
      have cpos2 : 0 < c2 ∧ c2 ≤ 5 := by simp at hc2; omega
      refine w1 p7 cpos2.1 fun b2 M8 b20 b21 p8 f8 => ?_
      refine w2 p8 (by omega) (by omega) fun new M9 hnew lnew p9 f9 => ?_
      have f29 : Fr [n] M2 M9 := f26.tr (Fr.app.tr (f7.tr (f8.tr f9)))
      have hold : okt (cut t at_.toNat (at_ + many).toNat) = true := okt_cut ht
      have hlen : (cut t at_.toNat (at_ + many).toNat).length = many.toNat := by rw [cut_len (by omega)]; omega
      have fin : ∀ (nw : List D) (M' : Mem), okt nw = true → nw.length ≤ 5 → cut t at_.toNat (at_ + many).toNat ≠ nw → Pl M' n m → Fr [n] M2 M' →
          r_law_edit_v2_1 Fw1 Fw2 Fw3 (SD.lp { nx := fun _ M1 => R .non M1, rt := R, bk := fun _ _ => False, ct := fun _ _ => False, ex := fun x _ M1 => Ex x M1 } Kn) [some (.ref n), some (.tup t), some (.int most), some (.ref M.length), some (.int low), some (.int (0 + (i : Int))), some (.int ((t.length : Int) - low)), some (.int at_), some (.int many), some (.tup (cut t at_.toNat (at_ + many).toNat)), some (.tup nw)] M' := by
        intro nw M' h1 h2 h3 p' f'
        have hm' := f'.lst hm (by simpa using hne.1)
        have he : (⟨at_, cut t at_.toNat (at_ + many).toNat, nw⟩ : Hk).e = at_ + many := by unfold Hk.e; simp only [hlen]; omega
        refine ⟨rcv_lst hm', sz rfl, ?_⟩
        conv => whnf
        rw [hm']
        refine ⟨Nat.lt_of_lt_of_le (show (acc.map Hk.d).length < 1001 by rw [List.length_map]; omega) (by decide), ?_⟩
        refine hK _ _ ⟨acc ++ [⟨at_, cut t at_.toNat (at_ + many).toNat, nw⟩], at_ + many + 1, _, _, _, _, _, _, rfl, ?_, ?_, ?_, by omega, ?_, by simp; omega, by omega, p'.set hne.1 hne.2, (f2.tr f').set (.inr (Nat.le_refl _))⟩
        · rw [mlst_set (mlst_lt hm')]; simp [Hk.d]
        · refine hv.snoc (fun x hx => by have := hlow x hx; show x.e + 1 ≤ at_; omega) (by show 0 ≤ at_; omega) (by rw [he]; omega) (by rw [he]) (okt_txs h1)
        · intro x hx
          rcases List.mem_append.mp hx with hx | hx
          · have := hlow x hx; omega
          · simp at hx; subst hx; rw [he]; omega
        · intro x hx
          rcases List.mem_append.mp hx with hx | hx
          · exact hg x hx
          · simp at hx; subst hx; exact ⟨hold, h1, h2, h3⟩
      conv => whnf
      rw [pyM_txs (okt_txs hnew), pyM_txs (okt_txs hold)]
      refine ⟨dep_txs (okt_txs hnew), ?_⟩
      rw [eqv_tup (txs_norefs (okt_txs hnew)) (txs_norefs (okt_txs hold))]
      conv => whnf
      cases eq : eqL new (cut t at_.toNat (at_ + many).toNat) with
      | true =>
        have eq2 := (txs_eq (okt_txs hnew) (okt_txs hold)).mp eq
        refine w3 p9 fun y M10 hy p10 f10 => ?_
        refine ⟨sz rfl, Nat.le_trans (show new.length + 1 ≤ 10 by omega) (by decide), ?_⟩
        refine fin (new ++ [.str y]) M10 (okt_app hnew (by simp [okt, hy])) (by simp; omega) (fun z => ?_) p10 (f29.tr f10)
        have := congrArg List.length z
        rw [← eq2] at this
        simp at this
      | false =>
        exact fin new M9 hnew (by omega) (fun z => by rw [z, (txs_eq (okt_txs hnew) (okt_txs hnew)).mpr rfl] at eq; cases eq) p9 f29
  · rintro ρ M2 ⟨acc, low, x5, x6, x7, x8, x9, x10, rfl, hm, hv, hlow, l0, hg, hal, hix, p2, f2⟩
    rw [rngD_len] at hal
    exact cnTuple_ok hm (k acc M2 hv hg (by omega) p2 f2)
/-- the law's own application -/
theorem w_law_applied {t : List D} {hs : List Hk} {M R Ex} (hh : ∀ h ∈ hs, 0 ≤ h.s ∧ h.s ≤ t.length) (hl : (ap t 0 hs).length ≤ 1000000) (k : R (.tup (ap t 0 hs)) M) : F_law_applied [.tup (hs.map Hk.d), .tup t] M R Ex := by
  unfold F_law_applied
  refine ⟨sz rfl, ?_⟩
  have sl : (16777216 : Nat) ≤ sizeLine := by decide
  refine forL_map Hk.d (fun r ρ M' => ∃ (acc : List D) (x : Option D) (d : Int), ρ = [some (.tup (hs.map Hk.d)), some (.tup t), some (.tup acc), some (.int d), x] ∧ M' = M ∧ acc ++ ap t d r = ap t 0 hs ∧ 0 ≤ d ∧ ∀ h ∈ r, h ∈ hs) (fun _ _ _ _ => trivial) ?_ ?_ _ _ _ ⟨[], _, 0, rfl, rfl, rfl, by omega, fun h hh => hh⟩
  · rintro h r ρ M1 Kn ⟨acc, x, d, rfl, rfl, ha, hd, hr⟩ hK
    obtain ⟨h0, h1⟩ := hh h (hr h (by simp))
    have len := congrArg List.length ha
    simp only [ap, List.length_append] at len
    have se := h.se
    refine ⟨_, rfl, ?_⟩
    conv => whnf
    rw [cutL_int hd h0 h1]
    refine ⟨by omega, by rw [List.length_append]; omega, ?_⟩
    exact hK _ _ ⟨_, _, h.e, rfl, rfl, by rw [← ha]; simp [ap], by omega, fun z hz => hr z (by simp [hz])⟩
  · rintro ρ M1 ⟨acc, x, d, rfl, rfl, ha, hd, hr⟩
    have hcd : cutL t (some d) none = t.drop d.toNat := by
      unfold cutL
      rw [sIx_lo hd]
      have : HT.sIx t.length t.length none = t.length := rfl
      rw [this, List.take_of_length_le (by simp)]
      by_cases hx : d.toNat ≤ t.length
      · rw [Nat.min_eq_left hx]
      · rw [Nat.min_eq_right (by omega), List.drop_eq_nil_of_le (Nat.le_refl _), List.drop_eq_nil_of_le (by omega)]
    have ha : acc ++ t.drop d.toNat = ap t 0 hs := ha
    have len := congrArg List.length ha
    simp only [List.length_append] at len
    conv => whnf
    rw [hcd]
    refine ⟨by omega, ?_⟩
    rw [ha]
    exact k
end SG

set_option maxHeartbeats 1000000
namespace SG
open PySem PySem.Spec L2 DN
/-! ### edits of the program -/
def fitsB (t : List D) (h : Hk) : Bool := decide (h.e ≤ t.length) && eqL (cut t h.s.toNat h.e.toNat) h.o
def mis (t : List D) (hs : List Hk) : Option Nat := hs.findIdx? fun h => !fitsB t h
def misD (t : List D) (hs : List Hk) : D := match mis t hs with | some i => .int i | none => .non
theorem mis_nil {t : List D} : mis t [] = none := rfl
theorem mis_cons {t : List D} {h : Hk} {r : List Hk} : mis t (h :: r) = if fitsB t h = true then (mis t r).map (· + 1) else some 0 := by
  unfold mis
  rw [List.findIdx?_cons]
  cases e : fitsB t h <;> simp
theorem mis_none {t : List D} : ∀ {hs : List Hk}, mis t hs = none → ∀ h ∈ hs, fitsB t h = true := by
  intro hs e h hh
  unfold mis at e
  rw [List.findIdx?_eq_none_iff] at e
  simpa using e h hh
theorem none_mis {t : List D} {hs : List Hk} (e : ∀ h ∈ hs, fitsB t h = true) : mis t hs = none := by
  unfold mis
  rw [List.findIdx?_eq_none_iff]
  intro h hh
  simp [e h hh]
theorem fitsB_iff {t : List D} {h : Hk} (ht : txs t = true) (ho : txs h.o = true) : fitsB t h = true ↔ (h.e ≤ t.length ∧ cut t h.s.toNat h.e.toNat = h.o) := by
  have hc : txs (cut t h.s.toNat h.e.toNat) = true := txs_take (txs_drop ht)
  unfold fitsB
  rw [Bool.and_eq_true, decide_eq_true_eq, txs_eq hc ho]
/-- a hunk's parts are texts, its start is no negative number -/
def Hk.ok (h : Hk) : Prop := 0 ≤ h.s ∧ txs h.o = true ∧ txs h.n = true
/-! ### starts and inverses -/
def sts (g : Int) : List Hk → List Int
  | [] => []
  | h :: r => (h.s + g) :: sts (g + h.g) r
def inv (g : Int) : List Hk → List Hk
  | [] => []
  | h :: r => ⟨h.s + g, h.n, h.o⟩ :: inv (g + h.g) r
theorem sts_len : ∀ {hs : List Hk} {g : Int}, (sts g hs).length = hs.length
  | [], _ => rfl
  | h :: r, g => by simp [sts, sts_len (hs := r)]
theorem inv_len : ∀ {hs : List Hk} {g : Int}, (inv g hs).length = hs.length
  | [], _ => rfl
  | h :: r, g => by simp [inv, inv_len (hs := r)]
theorem inv_get : ∀ {hs : List Hk} {g : Int} {i : Nat} {h : Hk} {s : Int}, hs[i]? = some h → (sts g hs)[i]? = some s → (inv g hs)[i]? = some ⟨s, h.n, h.o⟩
  | x :: r, g, 0, h, s, e1, e2 => by simp [sts, inv] at e1 e2 ⊢; simp [e1] at e2 ⊢; rw [e1] at *; simp [e2]
  | x :: r, g, i + 1, h, s, e1, e2 => by simp [sts, inv] at e1 e2 ⊢; exact inv_get e1 e2
end SG

set_option maxHeartbeats 1000000
namespace SG
open PySem PySem.Spec L2 DN
/-! ### edits in plain Lean -/
theorem valid_fits {t : List D} (ht : txs t = true) : ∀ {hs : List Hk} {low : Int}, Valid t low hs → ∀ h ∈ hs, fitsB t h = true := by
  intro hs low v h hh
  obtain ⟨v1, v2, v3, v4⟩ := v.mem h hh
  have hc : txs h.o = true := by rw [v3]; exact txs_take (txs_drop ht)
  exact (fitsB_iff ht hc).mpr ⟨v2, v3.symm⟩
theorem valid_mis {t : List D} (ht : txs t = true) {hs : List Hk} {low : Int} (v : Valid t low hs) : mis t hs = none := none_mis (valid_fits ht v)
theorem valid_ok {t : List D} (ht : txs t = true) {hs : List Hk} {low : Int} (h0 : 0 ≤ low) (v : Valid t low hs) : ∀ h ∈ hs, Hk.ok h := fun h hh => by
  obtain ⟨v1, v2, v3, v4⟩ := v.mem h hh
  exact ⟨by omega, by rw [v3]; exact txs_take (txs_drop ht), v4⟩
theorem cut_app {p q r : List D} {a b : Nat} (ha : a = p.length) (hb : b = p.length + q.length) : cut (p ++ (q ++ r)) a b = q := by
  subst ha hb
  unfold cut
  rw [List.drop_left, Nat.add_sub_cancel_left, List.take_left]
theorem inv_ok {t : List D} (ht : txs t = true) : ∀ {hs : List Hk} {p : List D} {low d g : Int}, Valid t low hs → 0 ≤ d → d ≤ low → (p.length : Int) = d + g →
    Valid (p ++ ap t d hs) (low + g) (inv g hs) ∧ ap (p ++ ap t d hs) (d + g) (inv g hs) = t.drop d.toNat
  | [], p, low, d, g, _, h0, h1, h2 => by
    refine ⟨trivial, ?_⟩
    simp only [ap, inv]
    have : (d + g).toNat = p.length := by omega
    rw [this, List.drop_left]
  | h :: r, p, low, d, g, v, h0, h1, h2 => by
    obtain ⟨v1, v2, v3, v4, v5⟩ := v
    have se := h.se
    have ho : (h.o.length : Int) = h.e - h.s := by unfold Hk.e; omega
    have lc : (cut t d.toNat h.s.toNat).length = h.s.toNat - d.toNat := cut_len (by omega)
    have e1 : p ++ ap t d (h :: r) = (p ++ cut t d.toNat h.s.toNat ++ h.n) ++ ap t h.e r := by simp [ap]
    have hg : ((p ++ cut t d.toNat h.s.toNat ++ h.n).length : Int) = h.e + (g + h.g) := by
      simp only [List.length_append, lc]
      unfold Hk.g
      omega
    obtain ⟨i1, i2⟩ := inv_ok ht (hs := r) (p := p ++ cut t d.toNat h.s.toNat ++ h.n) (g := g + h.g) v5 (by omega) (by omega) hg
    rw [e1]
    have e2 : (p ++ cut t d.toNat h.s.toNat ++ h.n) ++ ap t h.e r = (p ++ cut t d.toNat h.s.toNat) ++ (h.n ++ ap t h.e r) := by simp
    have e3 : (p ++ cut t d.toNat h.s.toNat ++ h.n) ++ ap t h.e r = p ++ (cut t d.toNat h.s.toNat ++ (h.n ++ ap t h.e r)) := by simp
    have eh : (⟨h.s + g, h.n, h.o⟩ : Hk).e = h.e + (g + h.g) := by unfold Hk.e Hk.g; simp only; omega
    constructor
    · refine ⟨by show low + g ≤ h.s + g; omega, ?_, ?_, by show txs h.o = true; rw [v3]; exact txs_take (txs_drop ht), ?_⟩
      · rw [eh]
        simp only [List.length_append] at hg ⊢
        omega
      · rw [eh]
        show h.n = _
        rw [e2, cut_app]
        · rw [List.length_append, lc]; show (h.s + g).toNat = _; omega
        · simp only [List.length_append, lc] at hg ⊢
          omega
      · rw [eh]
        exact i1.mono (by omega)
    · show cut _ (d + g).toNat (h.s + g).toNat ++ h.o ++ ap _ (⟨h.s + g, h.n, h.o⟩ : Hk).e (inv (g + h.g) r) = _
      rw [eh, i2, v3]
      rw [e3, cut_app (by omega) (by rw [lc]; omega)]
      rw [cut_cut (by omega) (by omega), cut_drop (by omega)]
theorem inv_inv : ∀ {hs : List Hk} {g : Int}, inv (-g) (inv g hs) = hs
  | [], _ => rfl
  | h :: r, g => by
    have e : -g + (⟨h.s + g, h.n, h.o⟩ : Hk).g = -(g + h.g) := by unfold Hk.g; simp only; omega
    show (⟨h.s + g + -g, h.o, h.n⟩ : Hk) :: inv (-g + (⟨h.s + g, h.n, h.o⟩ : Hk).g) (inv (g + h.g) r) = h :: r
    rw [e, inv_inv]
    congr 1
    cases h
    simp only [Hk.mk.injEq, and_true]
    omega
theorem cut_le {t : List D} {a b : Nat} : (cut t a b).length ≤ t.length := by
  unfold cut
  rw [List.length_take, List.length_drop]
  omega
theorem ap_len {t : List D} {B : Nat} : ∀ {hs : List Hk} {d : Int}, (∀ h ∈ hs, h.n.length ≤ B) → (ap t d hs).length ≤ (hs.length + 1) * t.length + hs.length * B
  | [], d, _ => by simp only [ap, List.length_drop, List.length_nil]; omega
  | h :: r, d, hB => by
    have ih := ap_len (t := t) (hs := r) (d := h.e) fun x hx => hB x (by simp [hx])
    have h1 := hB h (by simp)
    have h2 : (cut t d.toNat h.s.toNat).length ≤ t.length := cut_le
    simp only [ap, List.length_append, List.length_cons]
    rw [Nat.add_mul (r.length + 1) 1, Nat.add_mul r.length 1 B]
    omega
theorem inv_mem : ∀ {hs : List Hk} {g : Int} {x : Hk}, x ∈ inv g hs → ∃ h ∈ hs, x.o = h.n ∧ x.n = h.o
  | h :: r, g, x, hx => by
    rcases List.mem_cons.mp hx with rfl | hx
    · exact ⟨h, by simp, rfl, rfl⟩
    · obtain ⟨y, hy, q⟩ := inv_mem hx
      exact ⟨y, by simp [hy], q⟩
theorem fit_edit {hs : List Hk} (hl : hs.length ≤ 10000) (h : ∀ h ∈ hs, txs h.o = true ∧ txs h.n = true ∧ h.o.length ≤ 10000 ∧ h.n.length ≤ 10000) : fit 6 (.tup (hs.map Hk.d)) := by
  refine ⟨by rw [List.length_map]; omega, fun d hd => ?_⟩
  obtain ⟨x, hx, rfl⟩ := List.mem_map.mp hd
  obtain ⟨a, b, c, e⟩ := h x hx
  refine ⟨show 3 ≤ 16777216 by decide, fun y hy => ?_⟩
  simp only [List.mem_cons, List.not_mem_nil, or_false] at hy
  have tx : ∀ xs : List D, txs xs = true → xs.length ≤ 10000 → fit 4 (.tup xs) := fun xs q l => ⟨by omega, fun z hz => by obtain ⟨s, rfl⟩ := txs_iff.mp q z hz; trivial⟩
  rcases hy with rfl | rfl | rfl
  · trivial
  · exact tx _ a c
  · exact tx _ b e
theorem fit_txs {xs : List D} (q : txs xs = true) (l : xs.length ≤ 10000000) : fit 6 (.tup xs) := ⟨by omega, fun z hz => by obtain ⟨s, rfl⟩ := txs_iff.mp q z hz; trivial⟩
theorem fit_ints {ns : List Int} (l : ns.length ≤ 10000000) : fit 6 (.tup (ns.map D.int)) := ⟨by rw [List.length_map]; omega, fun z hz => by obtain ⟨s, _, rfl⟩ := List.mem_map.mp hz; trivial⟩
theorem ap_txs {t : List D} (ht : txs t = true) : ∀ {hs : List Hk} {d : Int}, (∀ h ∈ hs, txs h.n = true) → txs (ap t d hs) = true
  | [], d, _ => txs_drop ht
  | h :: r, d, hn => by
    simp only [ap]
    exact txs_app (txs_app (txs_take (txs_drop ht)) (hn h (by simp))) (ap_txs ht fun x hx => hn x (by simp [hx]))
theorem ap_okt {t : List D} (ht : okt t = true) : ∀ {hs : List Hk} {d : Int}, (∀ h ∈ hs, okt h.n = true) → okt (ap t d hs) = true
  | [], d, _ => okt_iff.mpr fun x hx => okt_iff.mp ht x (List.mem_of_mem_drop hx)
  | h :: r, d, hn => by
    simp only [ap]
    exact okt_app (okt_app (okt_cut ht) (hn h (by simp))) (ap_okt ht fun x hx => hn x (by simp [hx]))
end SG

set_option maxHeartbeats 1000000
namespace SG
open PySem PySem.Spec L2 DN
/-! ### the greatest number of shared lines -/
def lc : List Str → List Str → Nat
  | [], _ => 0
  | _ :: _, [] => 0
  | x :: a, y :: b => if x = y then lc a b + 1 else max (lc a (y :: b)) (lc (x :: a) b)
termination_by a b => a.length + b.length
theorem lc_nil {a : List Str} : lc a [] = 0 := by cases a <;> rw [lc]
theorem lc_nil' {a : List Str} : lc [] a = 0 := by rw [lc]
theorem lc_cons {x y : Str} {a b : List Str} : lc (x :: a) (y :: b) = if x = y then lc a b + 1 else max (lc a (y :: b)) (lc (x :: a) b) := by rw [lc]
theorem lc_symm : ∀ (n : Nat) (a b : List Str), a.length + b.length ≤ n → lc a b = lc b a
  | _, [], b, _ => by rw [lc_nil, lc_nil']
  | _, x :: a, [], _ => by rw [lc_nil, lc_nil']
  | 0, x :: a, y :: b, h => by simp at h
  | n + 1, x :: a, y :: b, h => by
    simp only [List.length_cons] at h
    rw [lc_cons, lc_cons, lc_symm n a b (by omega), lc_symm n a (y :: b) (by simp; omega), lc_symm n (x :: a) b (by simp; omega)]
    by_cases e : x = y
    · rw [if_pos e, if_pos e.symm]
    · rw [if_neg e, if_neg fun z => e z.symm, Nat.max_comm]
theorem lc_step : ∀ (n : Nat) (a b : List Str) (x : Str), a.length + b.length ≤ n → lc a b ≤ lc (x :: a) b ∧ lc (x :: a) b ≤ lc a b + 1
  | _, a, [], x, _ => by rw [lc_nil, lc_nil]; omega
  | 0, a, y :: b, x, h => by simp at h
  | n + 1, a, y :: b, x, h => by
    simp only [List.length_cons] at h
    have p := lc_step n a b x (by omega)
    have q := lc_step n b a y (by omega)
    rw [lc_symm _ b a (Nat.le_refl _), lc_symm _ (y :: b) a (Nat.le_refl _)] at q
    rw [lc_cons]
    by_cases e : x = y
    · rw [if_pos e]; omega
    · rw [if_neg e]; omega
theorem lc_step' {a b : List Str} {y : Str} : lc a b ≤ lc a (y :: b) ∧ lc a (y :: b) ≤ lc a b + 1 := by
  have q := lc_step _ b a y (Nat.le_refl _)
  rwa [lc_symm _ b a (Nat.le_refl _), lc_symm _ (y :: b) a (Nat.le_refl _)] at q
theorem lc_le : ∀ (n : Nat) (a b : List Str), a.length + b.length ≤ n → lc a b ≤ a.length
  | _, [], b, _ => by rw [lc_nil']; exact Nat.zero_le _
  | _, x :: a, [], _ => by rw [lc_nil]; exact Nat.zero_le _
  | 0, x :: a, y :: b, h => by simp at h
  | n + 1, x :: a, y :: b, h => by
    simp only [List.length_cons] at h ⊢
    have p := lc_le n a (y :: b) (by simp; omega)
    have q := lc_step _ a (y :: b) x (Nat.le_refl _)
    omega
/-- of the ends -/
def Tl (a b : List Str) (i j : Nat) : Nat := lc (a.drop i) (b.drop j)
theorem Tl_i {a b : List Str} {i j : Nat} (h : a.length ≤ i) : Tl a b i j = 0 := by unfold Tl; rw [List.drop_eq_nil_of_le h, lc_nil']
theorem Tl_j {a b : List Str} {i j : Nat} (h : b.length ≤ j) : Tl a b i j = 0 := by unfold Tl; rw [List.drop_eq_nil_of_le h, lc_nil]
theorem Tl_step {a b : List Str} {i j : Nat} (hi : i < a.length) (hj : j < b.length) : Tl a b i j = if a[i] = b[j] then Tl a b (i + 1) (j + 1) + 1 else max (Tl a b (i + 1) j) (Tl a b i (j + 1)) := by
  unfold Tl
  rw [List.drop_eq_getElem_cons hi, List.drop_eq_getElem_cons hj, lc_cons]
/-- of the beginnings -/
def Hd (a b : List Str) (i j : Nat) : Nat := lc (a.take i).reverse (b.take j).reverse
theorem Hd_0i {a b : List Str} {j : Nat} : Hd a b 0 j = 0 := by unfold Hd; rw [List.take_zero]; exact lc_nil'
theorem Hd_0j {a b : List Str} {i : Nat} : Hd a b i 0 = 0 := by unfold Hd; rw [List.take_zero]; exact lc_nil
theorem tk_rev {a : List Str} {i : Nat} (hi : i < a.length) : (a.take (i + 1)).reverse = a[i] :: (a.take i).reverse := by
  rw [List.take_add_one, List.getElem?_eq_getElem hi]; simp
theorem Hd_step {a b : List Str} {i j : Nat} (hi : i < a.length) (hj : j < b.length) : Hd a b (i + 1) (j + 1) = if a[i] = b[j] then Hd a b i j + 1 else max (Hd a b i (j + 1)) (Hd a b (i + 1) j) := by
  unfold Hd
  rw [tk_rev hi, tk_rev hj, lc_cons]
theorem Hd_i {a b : List Str} {i j : Nat} : Hd a b i j ≤ Hd a b (i + 1) j := by
  unfold Hd
  by_cases hi : i < a.length
  · rw [tk_rev hi]; exact (lc_step _ _ _ _ (Nat.le_refl _)).1
  · rw [List.take_of_length_le (show a.length ≤ i by omega), List.take_of_length_le (show a.length ≤ i + 1 by omega)]; exact Nat.le_refl _
theorem Hd_j {a b : List Str} {i j : Nat} : Hd a b i j ≤ Hd a b i (j + 1) := by
  unfold Hd
  by_cases hj : j < b.length
  · rw [tk_rev hj]; exact lc_step'.1
  · rw [List.take_of_length_le (show b.length ≤ j by omega), List.take_of_length_le (show b.length ≤ j + 1 by omega)]; exact Nat.le_refl _
theorem Hd_up {a b : List Str} {i j : Nat} : ∀ n m : Nat, Hd a b i j ≤ Hd a b (i + n) (j + m)
  | 0, 0 => Nat.le_refl _
  | 0, m + 1 => Nat.le_trans (Hd_up 0 m) Hd_j
  | n + 1, m => Nat.le_trans (Hd_up n m) Hd_i
theorem Hd_lt {a b : List Str} {i j : Nat} (hi : i < a.length) (hj : j < b.length) (e : a[i] = b[j]) : Hd a b i j < Hd a b a.length b.length := by
  have h := Hd_up (a := a) (b := b) (i := i + 1) (j := j + 1) (a.length - (i + 1)) (b.length - (j + 1))
  rw [Hd_step hi hj, if_pos e, show i + 1 + (a.length - (i + 1)) = a.length by omega, show j + 1 + (b.length - (j + 1)) = b.length by omega] at h
  omega
theorem Tl_rev {a b : List Str} {i j : Nat} (hi : i ≤ a.length) (hj : j ≤ b.length) : Tl a.reverse b.reverse (a.length - i) (b.length - j) = Hd a b i j := by
  unfold Tl Hd
  rw [List.drop_reverse, List.drop_reverse, show a.length - (a.length - i) = i by omega, show b.length - (b.length - j) = j by omega]
/-! ### a table -/
def rowI (w : Nat) (f : Nat → Int) : List D := (List.range w).map fun j => D.int (f j)
theorem rowI_len {w : Nat} {f : Nat → Int} : (rowI w f).length = w := by unfold rowI; simp
theorem rowI_get {w : Nat} {f : Nat → Int} {j : Nat} (h : j < w) : (rowI w f)[j]? = some (.int (f j)) := by unfold rowI; simp [h]
theorem rowI_at {w : Nat} {f : Nat → Int} {j : Nat} {x : Int} (h : j < w) (hx : x = j) : atI (rowI w f) x = some (.int (f j)) := atI_get hx (rowI_get h)
theorem rowI_congr {w : Nat} {f g : Nat → Int} (h : ∀ j, j < w → f j = g j) : rowI w f = rowI w g := by
  unfold rowI
  exact List.map_congr_left fun j hj => by rw [h j (by simpa using hj)]
theorem rowI_set {w : Nat} {f : Nat → Int} {j : Nat} {v : Int} : (rowI w f).set j (.int v) = rowI w (fun k => if k = j then v else f k) := by
  apply List.ext_getElem?
  intro k
  rw [List.getElem?_set, rowI_len]
  by_cases e : j = k
  · subst e
    rw [if_pos rfl]
    by_cases h : j < w
    · rw [if_pos h, rowI_get h, if_pos rfl]
    · rw [if_neg h, List.getElem?_eq_none (by rw [rowI_len]; omega)]
  · rw [if_neg e]
    by_cases h : k < w
    · rw [rowI_get h, rowI_get h, if_neg fun z => e z.symm]
    · rw [List.getElem?_eq_none (by rw [rowI_len]; omega), List.getElem?_eq_none (by rw [rowI_len]; omega)]
theorem rowI_snoc {w : Nat} {f : Nat → Int} : rowI (w + 1) f = rowI w f ++ [.int (f w)] := by unfold rowI; rw [List.range_succ, List.map_append]; rfl
def refs (n c h : Nat) : List D := (List.range h).map fun i => D.ref (n + c * (i + 1))
theorem refs_len {n c h : Nat} : (refs n c h).length = h := by unfold refs; simp
theorem refs_at {n c h i : Nat} {x : Int} (hi : i < h) (hx : x = i) : atI (refs n c h) x = some (.ref (n + c * (i + 1))) := atI_get hx (by unfold refs; simp [hi])
theorem refs_snoc {n c h : Nat} : refs n c (h + 1) = refs n c h ++ [.ref (n + c * (h + 1))] := by unfold refs; rw [List.range_succ, List.map_append]; rfl
/-- a table of h rows of w numbers at n, the rows c apart -/
def Tb (M : Mem) (n c h w : Nat) (f : Nat → Nat → Int) : Prop := 0 < c ∧ mlst M n = some (refs n c h) ∧ ∀ i, i < h → mlst M (n + c * (i + 1)) = some (rowI w (f i))
section
variable {M M' : Mem} {n c h w : Nat} {f : Nat → Nat → Int} {S : List Nat}
theorem Tb.fr (t : Tb M n c h w f) (fr : Fr [] M M') : Tb M' n c h w f := ⟨t.1, fr.lst t.2.1, fun i hi => fr.lst (t.2.2 i hi)⟩
theorem Tb.fr1 {m : Nat} (t : Tb M n c h w f) (fr : Fr [m] M M') (hm : ∀ k, k = n ∨ n < k ∧ k ≤ n + c * h → m ≠ k) : Tb M' n c h w f := by
  refine ⟨t.1, fr.lst t.2.1 (by have := hm n (.inl rfl); simpa using fun z => this z.symm), fun i hi => fr.lst (t.2.2 i hi) ?_⟩
  have h0 := t.1
  have : c * (i + 1) ≤ c * h := Nat.mul_le_mul_left c (by omega)
  have p : 0 < c * (i + 1) := Nat.mul_pos h0 (by omega)
  have := hm (n + c * (i + 1)) (.inr ⟨by omega, by omega⟩)
  simpa using fun z => this z.symm
theorem Tb.lt (t : Tb M n c h w f) (hh : 0 < h) : n + c * h < M.length := by
  have := mlst_lt (t.2.2 (h - 1) (by omega))
  rwa [show h - 1 + 1 = h by omega] at this
theorem Tb.n_lt (t : Tb M n c h w f) : n < M.length := mlst_lt t.2.1
theorem Tb.congr {g : Nat → Nat → Int} (t : Tb M n c h w f) (e : ∀ i j, i < h → j < w → f i j = g i j) : Tb M n c h w g := ⟨t.1, t.2.1, fun i hi => by rw [t.2.2 i hi, rowI_congr fun j hj => e i j hi hj]⟩
theorem Tb.app (t : Tb M n c h w f) {L : Mem} : Tb (M ++ L) n c h w f := t.fr Fr.app
theorem Tb.row (t : Tb M n c h w f) {i : Nat} (hi : i < h) : mlst M (n + c * (i + 1)) = some (rowI w (f i)) := t.2.2 i hi
theorem Tb.set (t : Tb M n c h w f) {i j : Nat} {v : Int} (hi : i < h) : Tb (M.set (n + c * (i + 1)) (.lst ((rowI w (f i)).set j (.int v)))) n c h w (fun i' j' => if i' = i ∧ j' = j then v else f i' j') := by
  have h0 := t.1
  have inj : ∀ k, k ≠ i → n + c * (i + 1) ≠ n + c * (k + 1) := fun k hk z => hk (by
    have : c * (i + 1) = c * (k + 1) := by omega
    have := Nat.eq_of_mul_eq_mul_left h0 this
    omega)
  have p : 0 < c * (i + 1) := Nat.mul_pos h0 (by omega)
  refine ⟨h0, mlst_setne t.2.1 (by omega), fun k hk => ?_⟩
  by_cases e : k = i
  · subst e
    rw [mlst_set (mlst_lt (t.row hi)), rowI_set]
    congr 2
    funext j'
    by_cases ej : j' = j
    · simp [ej]
    · simp [ej]
  · rw [mlst_setne (t.row hk) (inj k e)]
    congr 2
    funext j'
    simp [e]
end
end SG

set_option maxHeartbeats 1000000
namespace SG
open PySem PySem.Spec L2 DN
theorem str_at {a : List Str} {x : Int} {i : Nat} (hx : x = i) (hi : i < a.length) : atI (a.map D.str) x = some (.str a[i]) := atI_get hx (by rw [List.getElem?_map, List.getElem?_eq_getElem hi]; rfl)
/-- [[0 for _ in ..] for _ in ..] -/
theorem mk_table {xs ys : List D} {M : Mem} {R : KD} {Ex : XC} (la : xs.length ≤ 100) (lb : ys.length ≤ 100) (k : ∀ M', Tb M' M.length 1 (xs.length + 1) (ys.length + 1) (fun _ _ => 0) → Fr [] M M' → R (.ref M.length) M') :
    eLc (iRange1 (aCons (eBin opAdd (eCallB cnLen (aCons (eVar 0) aNil)) (eC (.int 1))) aNil)) (.nm 3) cYes (eLc (iRange1 (aCons (eBin opAdd (eCallB cnLen (aCons (eVar 1) aNil)) (eC (.int 1))) aNil)) (.nm 3) cYes (eC (.int 0)) [3]) [3] Ex [some (.tup xs), some (.tup ys), none, none, none, none] M R := by
  refine ⟨by omega, by omega, ?_⟩
  refine lcL_inv (fun i M' => Tb M' M.length 1 i (ys.length + 1) (fun _ _ => 0) ∧ Fr [] M M' ∧ M'.length = M.length + 1 + i) _ (fun _ _ _ => trivial) ?_ ?_ _ ⟨⟨by omega, mlst_new, fun i hi => absurd hi (by omega)⟩, Fr.app, by simp⟩
  · rintro i d M1 Kc hd ⟨t, f1, l1⟩ hK
    obtain ⟨hi, rfl⟩ := rngD_get hd
    refine ⟨_, rfl, ?_⟩
    refine ⟨by omega, by omega, ?_⟩
    refine lcL_inv (fun j M' => mlst M' M1.length = some (rowI j fun _ => 0) ∧ Fr [] M1 M' ∧ M'.length = M1.length + 1) _ (fun _ _ _ => trivial) ?_ ?_ _ ⟨mlst_new, Fr.app, by simp⟩
    · rintro j d M2 Kc2 hd2 ⟨m2, f2, l2⟩ hK2
      obtain ⟨hj, rfl⟩ := rngD_get hd2
      refine ⟨_, rfl, ?_⟩
      conv => whnf
      rw [m2]
      refine ⟨Nat.lt_of_lt_of_le (show (rowI j fun _ => 0).length < 200 by rw [rowI_len]; omega) (by decide), hK2 _ ⟨?_, f2.set (.inr (Nat.le_refl _)), by simpa using l2⟩⟩
      rw [mlst_set (mlst_lt m2), rowI_snoc]
    · rintro M2 ⟨m2, f2, l2⟩
      rw [rngD_len] at m2
      have t2 := t.fr f2
      conv => whnf
      rw [t2.2.1]
      refine ⟨Nat.lt_of_lt_of_le (show (refs M.length 1 i).length < 200 by rw [refs_len]; omega) (by decide), hK _ ⟨⟨by omega, ?_, fun i' hi' => ?_⟩, (f1.tr f2).set (.inr (Nat.le_refl _)), by simp; omega⟩⟩
      · rw [mlst_set t2.n_lt, refs_snoc, show M.length + 1 * (i + 1) = M1.length by omega]
      · by_cases e : i' = i
        · subst e
          rw [show M.length + 1 * (i' + 1) = M1.length by omega]
          rw [mlst_setne m2 (by omega), show ((ys.length : Int) + 1).toNat = ys.length + 1 by omega]
        · exact mlst_setne (t2.row (by omega)) (by omega)
  · rintro M1 ⟨t, f1, l1⟩
    rw [rngD_len, show ((xs.length : Int) + 1).toNat = xs.length + 1 by omega] at t
    exact k M1 t f1
/-- the cells that are filled, from the end -/
def stT (a b : List Str) (p q i j : Nat) : Int := if p < i ∨ (i = p ∧ q ≤ j) then (Tl a b i j : Int) else 0
theorem stT_in {a b : List Str} {p q i j : Nat} (h : p < i ∨ (i = p ∧ q ≤ j)) : stT a b p q i j = Tl a b i j := if_pos h
theorem stT_set {a b : List Str} {p q : Nat} : (fun i' j' => if i' = p ∧ j' = q then (Tl a b p q : Int) else stT a b p (q + 1) i' j') = stT a b p q := by
  funext i' j'
  by_cases e : i' = p ∧ j' = q
  · rw [if_pos e, stT_in (by omega), e.1, e.2]
  · rw [if_neg e]
    unfold stT
    by_cases c : p < i' ∨ (i' = p ∧ q ≤ j')
    · rw [if_pos c, if_pos (by omega)]
    · rw [if_neg c, if_neg (by omega)]
theorem stT_row {a b : List Str} {p i j : Nat} (hj : j < b.length + 1) : stT a b (p + 1) 0 i j = stT a b p b.length i j := by
  unfold stT
  by_cases c : p + 1 < i ∨ (i = p + 1 ∧ 0 ≤ j)
  · rw [if_pos c, if_pos (by omega)]
  · rw [if_neg c]
    by_cases d : p < i ∨ (i = p ∧ b.length ≤ j)
    · rw [if_pos d, Tl_j (by omega)]; rfl
    · rw [if_neg d]
theorem stT_init {a b : List Str} {i j : Nat} : stT a b a.length 0 i j = 0 := by
  unfold stT
  split
  · rw [Tl_i (by omega)]; rfl
  · rfl
theorem stT_all {a b : List Str} {i j : Nat} : stT a b 0 0 i j = Tl a b i j := stT_in (by omega)
theorem Tl_val {a b : List Str} {i j : Nat} (hi : i < a.length) (hj : j < b.length) (e : a[i] = b[j]) : (Tl a b (i + 1) (j + 1) : Int) + 1 = Tl a b i j := by rw [Tl_step hi hj, if_pos e]; rfl
theorem Tl_val' {a b : List Str} {i j : Nat} (hi : i < a.length) (hj : j < b.length) (e : a[i] ≠ b[j]) : (if (Tl a b i (j + 1) : Int) > (Tl a b (i + 1) j : Int) then (Tl a b i (j + 1) : Int) else (Tl a b (i + 1) j : Int)) = Tl a b i j := by
  rw [Tl_step hi hj, if_neg e]
  split <;> omega
theorem w_tail_table {a b : List Str} {M R Ex} (la : a.length ≤ 90) (lb : b.length ≤ 90) (k : ∀ M' n, M.length ≤ n → Tb M' n 1 (a.length + 1) (b.length + 1) (fun i j => (Tl a b i j : Int)) → Fr [] M M' → R (.ref n) M') : F_tail_table [.tup (a.map D.str), .tup (b.map D.str)] M R Ex := by
  have la' : (a.map D.str).length = a.length := by simp
  have lb' : (b.map D.str).length = b.length := by simp
  unfold F_tail_table bodyF t_tail_table sSeq sAsg
  refine mk_table (xs := a.map D.str) (ys := b.map D.str) (by omega) (by omega) fun M1 t1 f1 => ?_
  rw [la', lb'] at t1
  conv => whnf
  rw [la']
  refine ⟨⟨by omega, by omega⟩, ?_⟩
  refine forL_ix (fun i ρ M' => (∃ x4 x5, ρ = [some (.tup (a.map D.str)), some (.tup (b.map D.str)), some (.ref M.length), none, x4, x5]) ∧ Tb M' M.length 1 (a.length + 1) (b.length + 1) (stT a b (a.length - i) 0) ∧ Fr [] M M') _ (fun _ _ _ _ => trivial) ?_ ?_ _ _ ⟨⟨_, _, rfl⟩, t1.congr fun i j _ _ => stT_init.symm, f1⟩
  · rintro i d ρ M2 Kn hd ⟨⟨x4, x5, rfl⟩, t2, f2⟩ hK
    obtain ⟨hi, rfl⟩ := revD_get hd
    obtain ⟨p, hp⟩ : ∃ p : Nat, a.length = i + 1 + p := ⟨a.length - i - 1, by omega⟩
    have hpl : p < a.length := by omega
    rw [show ((a.length : Int).toNat : Int) - 1 - (i : Nat) = (p : Int) by omega]
    refine ⟨_, rfl, ?_⟩
    conv => whnf
    rw [lb']
    refine ⟨⟨by omega, by omega⟩, ?_⟩
    rw [show a.length - i = p + 1 by omega] at t2
    refine forL_ix (fun j ρ M' => (∃ x5, ρ = [some (.tup (a.map D.str)), some (.tup (b.map D.str)), some (.ref M.length), none, some (.int p), x5]) ∧ Tb M' M.length 1 (a.length + 1) (b.length + 1) (stT a b p (b.length - j)) ∧ Fr [] M M') _ (fun _ _ _ _ => trivial) ?_ ?_ _ _ ⟨⟨_, rfl⟩, t2.congr fun i j _ hj => stT_row hj, f2⟩
    · rintro j d ρ M3 Kn3 hd3 ⟨⟨x5, rfl⟩, t3, f3⟩ hK3
      obtain ⟨hj, rfl⟩ := revD_get hd3
      obtain ⟨q, hq⟩ : ∃ q : Nat, b.length = j + 1 + q := ⟨b.length - j - 1, by omega⟩
      have hql : q < b.length := by omega
      rw [show ((b.length : Int).toNat : Int) - 1 - (j : Nat) = (q : Int) by omega]
      rw [show b.length - j = q + 1 by omega] at t3
      have hset := t3.set (i := p) (j := q) (v := (Tl a b p q : Int)) (by omega)
      rw [stT_set] at hset
      have r1 := t3.row (i := p + 1) (by omega)
      have r0 := t3.row (i := p) (by omega)
      have fin : Kn3 [some (.tup (a.map D.str)), some (.tup (b.map D.str)), some (.ref M.length), none, some (.int p), some (.int q)] (M3.set (M.length + 1 * (p + 1)) (.lst ((rowI (b.length + 1) (stT a b p (q + 1) p)).set q (.int (Tl a b p q))))) := hK3 _ _ ⟨⟨_, rfl⟩, by rw [show b.length - (j + 1) = q by omega]; exact hset, f3.set (.inr (by omega))⟩
      refine ⟨_, rfl, ?_⟩
      conv => whnf
      rw [str_at rfl hpl]
      conv => whnf
      rw [str_at rfl hql]
      conv => whnf
      rw [eqS]
      refine bm (fun e => ?_) (fun e => ?_)
      · have e : a[p] = b[q] := of_decide_eq_true e
        conv => whnf
        rw [lstAt_of t3.2.1]
        conv => whnf
        rw [refs_at (i := p + 1) (by omega) (by omega)]
        conv => whnf
        rw [lstAt_of r1]
        conv => whnf
        rw [rowI_at (j := q + 1) (by omega) (by omega), stT_in (by omega)]
        conv => whnf
        rw [lstAt_of t3.2.1]
        conv => whnf
        rw [refs_at (i := p) (by omega) rfl]
        conv => whnf
        rw [r0]
        conv => whnf
        rw [ixN_nat (j := q) rfl (by rw [rowI_len]; omega)]
        conv => whnf
        rw [Tl_val hpl hql e]
        exact fin
      · have e : a[p] ≠ b[q] := of_decide_eq_false e
        conv => whnf
        rw [lstAt_of t3.2.1]
        conv => whnf
        rw [refs_at (i := p + 1) (by omega) (by omega)]
        conv => whnf
        rw [lstAt_of r1]
        conv => whnf
        rw [rowI_at (j := q) (by omega) rfl, stT_in (by omega)]
        conv => whnf
        rw [lstAt_of t3.2.1]
        conv => whnf
        rw [refs_at (i := p) (by omega) rfl]
        conv => whnf
        rw [lstAt_of r0]
        conv => whnf
        rw [rowI_at (j := q + 1) (by omega) (by omega), stT_in (by omega)]
        conv => whnf
        rw [lstAt_of t3.2.1]
        conv => whnf
        rw [refs_at (i := p) (by omega) rfl]
        conv => whnf
        rw [r0]
        conv => whnf
        rw [ixN_nat (j := q) rfl (by rw [rowI_len]; omega)]
        conv => whnf
        rw [Tl_val' hpl hql e]
        exact fin
    · rintro ρ M3 ⟨⟨x5, rfl⟩, t3, f3⟩
      rw [revD_len, show b.length - (b.length : Int).toNat = 0 by omega] at t3
      exact hK _ _ ⟨⟨_, _, rfl⟩, by rw [show a.length - (i + 1) = p by omega]; exact t3, f3⟩
  · rintro ρ M2 ⟨⟨x4, x5, rfl⟩, t2, f2⟩
    rw [revD_len, show a.length - (a.length : Int).toNat = 0 by omega] at t2
    exact k _ _ (Nat.le_refl _) (t2.congr fun _ _ _ _ => stT_all) f2
theorem rep_row {w : Nat} : (List.replicate w [D.int 0]).flatten = rowI w fun _ => 0 := by
  rw [List.flatten_replicate_singleton]
  symm
  rw [List.eq_replicate_iff]
  exact ⟨rowI_len, fun d hd => by unfold rowI at hd; obtain ⟨i, _, rfl⟩ := List.mem_map.mp hd; rfl⟩
theorem w_law_tails {a b : List Str} {M R Ex} (la : a.length ≤ 90) (lb : b.length ≤ 90) (k : ∀ M' n, M.length ≤ n → Tb M' n 2 (a.length + 1) (b.length + 1) (fun i j => (Tl a b i j : Int)) → Fr [] M M' → R (.ref n) M') : F_law_tails [.tup (a.map D.str), .tup (b.map D.str)] M R Ex := by
  have la' : (a.map D.str).length = a.length := by simp
  have lb' : (b.map D.str).length = b.length := by simp
  unfold F_law_tails
  refine ⟨by omega, by omega, ?_⟩
  rw [la']
  refine lcL_inv (fun i M' => Tb M' M.length 2 i (b.length + 1) (fun _ _ => 0) ∧ Fr [] M M' ∧ M'.length = M.length + 1 + 2 * i) _ (fun _ _ _ => trivial) ?_ ?_ _ ⟨⟨by omega, mlst_new, fun i hi => absurd hi (by omega)⟩, Fr.app, by simp⟩
  · rintro i d M1 Kc hd ⟨t, f1, l1⟩ hK
    obtain ⟨hi, rfl⟩ := rngD_get hd
    refine ⟨_, rfl, ?_⟩
    refine ⟨sz rfl, ?_⟩
    conv => whnf
    rw [mlst_new, lb']
    have rr := sizeLine_eq
    refine ⟨⟨by omega, by omega, by simp only [List.length_cons, List.length_nil]; omega⟩, ?_⟩
    rw [show ((b.length : Int) + 1).toNat = b.length + 1 by omega, rep_row]
    have t2 := (t.app (L := [O.lst [D.int 0]])).app (L := [O.lst (rowI (b.length + 1) fun _ => 0)])
    have m2 : mlst ((M1 ++ [O.lst [D.int 0]]) ++ [O.lst (rowI (b.length + 1) fun _ => 0)]) (M1 ++ [O.lst [D.int 0]]).length = some (rowI (b.length + 1) fun _ => 0) := mlst_new
    have f2 : Fr [] M ((M1 ++ [O.lst [D.int 0]]) ++ [O.lst (rowI (b.length + 1) fun _ => 0)]) := f1.tr (Fr.app.tr Fr.app)
    have l2 : ((M1 ++ [O.lst [D.int 0]]) ++ [O.lst (rowI (b.length + 1) fun _ => 0)]).length = M1.length + 2 := by simp
    have l3 : (M1 ++ [O.lst [D.int 0]]).length = M1.length + 1 := by simp
    revert t2 m2 f2 l2
    generalize (M1 ++ [O.lst [D.int 0]]) ++ [O.lst (rowI (b.length + 1) fun _ => 0)] = M2
    intro t2 m2 f2 l2
    conv => whnf
    rw [t2.2.1]
    refine ⟨Nat.lt_of_lt_of_le (show (refs M.length 2 i).length < 200 by rw [refs_len]; omega) (by decide), hK _ ⟨⟨by omega, ?_, fun i' hi' => ?_⟩, f2.set (.inr (Nat.le_refl _)), by simp; omega⟩⟩
    · rw [mlst_set t2.n_lt, refs_snoc, l3, show M.length + 2 * (i + 1) = M1.length + 1 by omega]
    · by_cases e : i' = i
      · subst e
        rw [l3] at m2
        rw [show M.length + 2 * (i' + 1) = M1.length + 1 by omega]
        rw [mlst_setne m2 (by omega)]
      · exact mlst_setne (t2.row (by omega)) (by omega)
  · rintro M1 ⟨t1, f1, l1⟩
    rw [rngD_len, show ((a.length : Int) + 1).toNat = a.length + 1 by omega] at t1
    conv => whnf
    rw [la']
    refine ⟨by omega, by omega, ?_⟩
    refine forL_ix (fun i ρ M' => (∃ x3 x4 x5 x6, ρ = [some (.tup (a.map D.str)), some (.tup (b.map D.str)), some (.ref M.length), x3, x4, x5, x6]) ∧ Tb M' M.length 2 (a.length + 1) (b.length + 1) (stT a b (a.length - i) 0) ∧ Fr [] M M') _ (fun _ _ _ _ => trivial) ?_ ?_ _ _ ⟨⟨_, _, _, _, rfl⟩, t1.congr fun i j _ _ => stT_init.symm, f1⟩
    · rintro i d ρ M2 Kn hd ⟨⟨x3, x4, x5, x6, rfl⟩, t2, f2⟩ hK
      obtain ⟨hi, rfl⟩ := rngD_get hd
      obtain ⟨p, hp⟩ : ∃ p : Nat, a.length = i + 1 + p := ⟨a.length - i - 1, by omega⟩
      have hpl : p < a.length := by omega
      refine ⟨_, rfl, ?_⟩
      conv => whnf
      rw [la', lb', show (a.length : Int) - 1 - (0 + (i : Nat)) = (p : Int) by omega]
      refine ⟨by omega, by omega, ?_⟩
      rw [show a.length - i = p + 1 by omega] at t2
      refine forL_ix (fun j ρ M' => (∃ x5 x6, ρ = [some (.tup (a.map D.str)), some (.tup (b.map D.str)), some (.ref M.length), some (.int (0 + (i : Nat))), some (.int p), x5, x6]) ∧ Tb M' M.length 2 (a.length + 1) (b.length + 1) (stT a b p (b.length - j)) ∧ Fr [] M M') _ (fun _ _ _ _ => trivial) ?_ ?_ _ _ ⟨⟨_, _, rfl⟩, t2.congr fun i j _ hj => stT_row hj, f2⟩
      · rintro j d ρ M3 Kn3 hd3 ⟨⟨x5, x6, rfl⟩, t3, f3⟩ hK3
        obtain ⟨hj, rfl⟩ := rngD_get hd3
        obtain ⟨q, hq⟩ : ∃ q : Nat, b.length = j + 1 + q := ⟨b.length - j - 1, by omega⟩
        have hql : q < b.length := by omega
        rw [show b.length - j = q + 1 by omega] at t3
        have hset := t3.set (i := p) (j := q) (v := (Tl a b p q : Int)) (by omega)
        rw [stT_set] at hset
        have r1 := t3.row (i := p + 1) (by omega)
        have r0 := t3.row (i := p) (by omega)
        have fin : Kn3 [some (.tup (a.map D.str)), some (.tup (b.map D.str)), some (.ref M.length), some (.int (0 + (i : Nat))), some (.int p), some (.int (0 + (j : Nat))), some (.int q)] (M3.set (M.length + 2 * (p + 1)) (.lst ((rowI (b.length + 1) (stT a b p (q + 1) p)).set q (.int (Tl a b p q))))) := hK3 _ _ ⟨⟨_, _, rfl⟩, by rw [show b.length - (j + 1) = q by omega]; exact hset, f3.set (.inr (by omega))⟩
        refine ⟨_, rfl, ?_⟩
        conv => whnf
        rw [lb', show (b.length : Int) - 1 - (0 + (j : Nat)) = (q : Int) by omega]
        conv => whnf
        rw [str_at rfl hpl]
        conv => whnf
        rw [str_at rfl hql]
        conv => whnf
        rw [eqS]
        refine bm (fun e => ?_) (fun e => ?_)
        · have e : a[p] = b[q] := of_decide_eq_true e
          conv => whnf
          rw [lstAt_of t3.2.1]
          conv => whnf
          rw [refs_at (i := p + 1) (by omega) (by omega)]
          conv => whnf
          rw [lstAt_of r1]
          conv => whnf
          rw [rowI_at (j := q + 1) (by omega) (by omega), stT_in (by omega)]
          conv => whnf
          rw [lstAt_of t3.2.1]
          conv => whnf
          rw [refs_at (i := p) (by omega) rfl]
          conv => whnf
          rw [r0]
          conv => whnf
          rw [ixN_nat (j := q) rfl (by rw [rowI_len]; omega)]
          conv => whnf
          rw [Tl_val hpl hql e]
          exact fin
        · have e : a[p] ≠ b[q] := of_decide_eq_false e
          conv => whnf
          rw [lstAt_of t3.2.1]
          conv => whnf
          rw [refs_at (i := p + 1) (by omega) (by omega)]
          conv => whnf
          rw [lstAt_of r1]
          conv => whnf
          rw [rowI_at (j := q) (by omega) rfl, stT_in (by omega)]
          conv => whnf
          rw [lstAt_of t3.2.1]
          conv => whnf
          rw [refs_at (i := p) (by omega) rfl]
          conv => whnf
          rw [lstAt_of r0]
          conv => whnf
          rw [rowI_at (j := q + 1) (by omega) (by omega), stT_in (by omega)]
          conv => whnf
          rw [lstAt_of t3.2.1]
          conv => whnf
          rw [refs_at (i := p) (by omega) rfl]
          conv => whnf
          rw [r0]
          conv => whnf
          rw [ixN_nat (j := q) rfl (by rw [rowI_len]; omega)]
          conv => whnf
          rw [Tl_val' hpl hql e]
          exact fin
      · rintro ρ M3 ⟨⟨x5, x6, rfl⟩, t3, f3⟩
        rw [rngD_len, show b.length - (b.length : Int).toNat = 0 by omega] at t3
        exact hK _ _ ⟨⟨_, _, _, _, rfl⟩, by rw [show a.length - (i + 1) = p by omega]; exact t3, f3⟩
    · rintro ρ M2 ⟨⟨x3, x4, x5, x6, rfl⟩, t2, f2⟩
      rw [rngD_len, show a.length - (a.length : Int).toNat = 0 by omega] at t2
      exact k _ _ (Nat.le_refl _) (t2.congr fun _ _ _ _ => stT_all) f2
/-- the cells that are filled, from the beginning -/
def stH (a b : List Str) (p q i j : Nat) : Int := if i ≤ p ∨ (i = p + 1 ∧ j ≤ q) then (Hd a b i j : Int) else 0
theorem stH_in {a b : List Str} {p q i j : Nat} (h : i ≤ p ∨ (i = p + 1 ∧ j ≤ q)) : stH a b p q i j = Hd a b i j := if_pos h
theorem stH_set {a b : List Str} {p q : Nat} : (fun i' j' => if i' = p + 1 ∧ j' = q + 1 then (Hd a b (p + 1) (q + 1) : Int) else stH a b p q i' j') = stH a b p (q + 1) := by
  funext i' j'
  by_cases e : i' = p + 1 ∧ j' = q + 1
  · rw [if_pos e, stH_in (by omega), e.1, e.2]
  · rw [if_neg e]
    unfold stH
    by_cases c : i' ≤ p ∨ (i' = p + 1 ∧ j' ≤ q)
    · rw [if_pos c, if_pos (by omega)]
    · rw [if_neg c, if_neg (by omega)]
theorem stH_row {a b : List Str} {p i j : Nat} (hj : j < b.length + 1) : stH a b p b.length i j = stH a b (p + 1) 0 i j := by
  unfold stH
  by_cases c : i ≤ p ∨ (i = p + 1 ∧ j ≤ b.length)
  · rw [if_pos c, if_pos (by omega)]
  · rw [if_neg c]
    by_cases d : i ≤ p + 1 ∨ (i = p + 1 + 1 ∧ j ≤ 0)
    · rw [if_pos d, show j = 0 by omega, Hd_0j]; rfl
    · rw [if_neg d]
theorem stH_init {a b : List Str} {i j : Nat} : stH a b 0 0 i j = 0 := by
  unfold stH
  split
  · rename_i h
    rcases h with h | ⟨_, h⟩
    · rw [show i = 0 by omega, Hd_0i]; rfl
    · rw [show j = 0 by omega, Hd_0j]; rfl
  · rfl
theorem Hd_val {a b : List Str} {i j : Nat} (hi : i < a.length) (hj : j < b.length) (e : a[i] = b[j]) : (Hd a b i j : Int) + 1 = Hd a b (i + 1) (j + 1) := by rw [Hd_step hi hj, if_pos e]; rfl
theorem Hd_val' {a b : List Str} {i j : Nat} (hi : i < a.length) (hj : j < b.length) (e : a[i] ≠ b[j]) : (if (Hd a b (i + 1) j : Int) > (Hd a b i (j + 1) : Int) then (Hd a b (i + 1) j : Int) else (Hd a b i (j + 1) : Int)) = Hd a b (i + 1) (j + 1) := by
  rw [Hd_step hi hj, if_neg e]
  split <;> omega
theorem w_head_table {a b : List Str} {M R Ex} (la : a.length ≤ 90) (lb : b.length ≤ 90) (k : ∀ M' n, M.length ≤ n → Tb M' n 1 (a.length + 1) (b.length + 1) (fun i j => (Hd a b i j : Int)) → Fr [] M M' → R (.ref n) M') : F_head_table [.tup (a.map D.str), .tup (b.map D.str)] M R Ex := by
  have la' : (a.map D.str).length = a.length := by simp
  have lb' : (b.map D.str).length = b.length := by simp
  unfold F_head_table bodyF t_head_table sSeq sAsg
  refine mk_table (xs := a.map D.str) (ys := b.map D.str) (by omega) (by omega) fun M1 t1 f1 => ?_
  rw [la', lb'] at t1
  conv => whnf
  rw [la']
  refine ⟨by omega, by omega, ?_⟩
  refine forL_ix (fun i ρ M' => (∃ x4 x5, ρ = [some (.tup (a.map D.str)), some (.tup (b.map D.str)), some (.ref M.length), none, x4, x5]) ∧ Tb M' M.length 1 (a.length + 1) (b.length + 1) (stH a b i 0) ∧ Fr [] M M') _ (fun _ _ _ _ => trivial) ?_ ?_ _ _ ⟨⟨_, _, rfl⟩, t1.congr fun i j _ _ => stH_init.symm, f1⟩
  · rintro p d ρ M2 Kn hd ⟨⟨x4, x5, rfl⟩, t2, f2⟩ hK
    obtain ⟨hi, rfl⟩ := rngD_get hd
    have hpl : p < a.length := by omega
    rw [show (0 : Int) + (p : Nat) = (p : Int) by omega]
    refine ⟨_, rfl, ?_⟩
    conv => whnf
    rw [lb']
    refine ⟨by omega, by omega, ?_⟩
    refine forL_ix (fun j ρ M' => (∃ x5, ρ = [some (.tup (a.map D.str)), some (.tup (b.map D.str)), some (.ref M.length), none, some (.int p), x5]) ∧ Tb M' M.length 1 (a.length + 1) (b.length + 1) (stH a b p j) ∧ Fr [] M M') _ (fun _ _ _ _ => trivial) ?_ ?_ _ _ ⟨⟨_, rfl⟩, t2, f2⟩
    · rintro q d ρ M3 Kn3 hd3 ⟨⟨x5, rfl⟩, t3, f3⟩ hK3
      obtain ⟨hj, rfl⟩ := rngD_get hd3
      have hql : q < b.length := by omega
      rw [show (0 : Int) + (q : Nat) = (q : Int) by omega]
      have hset := t3.set (i := p + 1) (j := q + 1) (v := (Hd a b (p + 1) (q + 1) : Int)) (by omega)
      rw [stH_set] at hset
      have r1 := t3.row (i := p + 1) (by omega)
      have r0 := t3.row (i := p) (by omega)
      have fin : Kn3 [some (.tup (a.map D.str)), some (.tup (b.map D.str)), some (.ref M.length), none, some (.int p), some (.int q)] (M3.set (M.length + 1 * (p + 1 + 1)) (.lst ((rowI (b.length + 1) (stH a b p q (p + 1))).set (q + 1) (.int (Hd a b (p + 1) (q + 1)))))) := hK3 _ _ ⟨⟨_, rfl⟩, hset, f3.set (.inr (by omega))⟩
      refine ⟨_, rfl, ?_⟩
      conv => whnf
      rw [str_at rfl hpl]
      conv => whnf
      rw [str_at rfl hql]
      conv => whnf
      rw [eqS]
      refine bm (fun e => ?_) (fun e => ?_)
      · have e : a[p] = b[q] := of_decide_eq_true e
        conv => whnf
        rw [lstAt_of t3.2.1]
        conv => whnf
        rw [refs_at (i := p) (by omega) rfl]
        conv => whnf
        rw [lstAt_of r0]
        conv => whnf
        rw [rowI_at (j := q) (by omega) rfl, stH_in (by omega)]
        conv => whnf
        rw [lstAt_of t3.2.1]
        conv => whnf
        rw [refs_at (i := p + 1) (by omega) (by omega)]
        conv => whnf
        rw [r1]
        conv => whnf
        rw [ixN_nat (j := q + 1) (by omega) (by rw [rowI_len]; omega)]
        conv => whnf
        rw [Hd_val hpl hql e]
        exact fin
      · have e : a[p] ≠ b[q] := of_decide_eq_false e
        conv => whnf
        rw [lstAt_of t3.2.1]
        conv => whnf
        rw [refs_at (i := p) (by omega) rfl]
        conv => whnf
        rw [lstAt_of r0]
        conv => whnf
        rw [rowI_at (j := q + 1) (by omega) (by omega), stH_in (by omega)]
        conv => whnf
        rw [lstAt_of t3.2.1]
        conv => whnf
        rw [refs_at (i := p + 1) (by omega) (by omega)]
        conv => whnf
        rw [lstAt_of r1]
        conv => whnf
        rw [rowI_at (j := q) (by omega) rfl, stH_in (by omega)]
        conv => whnf
        rw [lstAt_of t3.2.1]
        conv => whnf
        rw [refs_at (i := p + 1) (by omega) (by omega)]
        conv => whnf
        rw [r1]
        conv => whnf
        rw [ixN_nat (j := q + 1) (by omega) (by rw [rowI_len]; omega)]
        conv => whnf
        rw [Hd_val' hpl hql e]
        exact fin
    · rintro ρ M3 ⟨⟨x5, rfl⟩, t3, f3⟩
      rw [rngD_len, show (b.length : Int).toNat = b.length by omega] at t3
      exact hK _ _ ⟨⟨_, _, rfl⟩, t3.congr fun i j _ hj => stH_row hj, f3⟩
  · rintro ρ M2 ⟨⟨x4, x5, rfl⟩, t2, f2⟩
    rw [rngD_len, show (a.length : Int).toNat = a.length by omega] at t2
    exact k _ _ (Nat.le_refl _) (t2.congr fun i _ hi _ => stH_in (by omega)) f2
end SG

set_option maxHeartbeats 1000000
namespace SG
open PySem PySem.Spec L2 DN
theorem w_check_sizes {xs ys : List D} {M R Ex} (k : xs.length ≤ 60 → ys.length ≤ 60 → R .non M) (kx : ¬ (xs.length ≤ 60 ∧ ys.length ≤ 60) → Ex ⟨"TooMany", ["limit"], [.int 60]⟩ M) : F_check_sizes [.tup xs, .tup ys] M R Ex := by
  unfold F_check_sizes
  conv => whnf
  refine bm (fun e1 => ?_) (fun e1 => ?_)
  · have e1 : (60 : Int) < xs.length := of_decide_eq_true e1
    exact kx (by omega)
  · have e1 : ¬ (60 : Int) < xs.length := of_decide_eq_false e1
    conv => whnf
    refine bm (fun e2 => ?_) (fun e2 => ?_)
    · have e2 : (60 : Int) < ys.length := of_decide_eq_true e2
      exact kx (by omega)
    · have e2 : ¬ (60 : Int) < ys.length := of_decide_eq_false e2
      exact k (by omega) (by omega)
theorem w_shared_lines {a b : List Str} {M R Ex} (k : a.length ≤ 60 → b.length ≤ 60 → ∀ M', Fr [] M M' → R (.int (Tl a b 0 0)) M') (kx : ¬ (a.length ≤ 60 ∧ b.length ≤ 60) → Ex ⟨"TooMany", ["limit"], [.int 60]⟩ M) : F_shared_lines [.tup (a.map D.str), .tup (b.map D.str)] M R Ex := by
  have la' : (a.map D.str).length = a.length := by simp
  have lb' : (b.map D.str).length = b.length := by simp
  unfold F_shared_lines
  have w1 := @w_check_sizes; obtain ⟨Fw1, qw1⟩ := op F_check_sizes; rw [← qw1] at w1 ⊢; clear qw1
  have w2 := @w_tail_table; obtain ⟨Fw2, qw2⟩ := op F_tail_table; rw [← qw2] at w2 ⊢; clear qw2
  refine w1 (fun h1 h2 => ?_) (fun h => kx (by rw [la', lb'] at h; exact h))
  rw [la'] at h1
  rw [lb'] at h2
  refine w2 (by omega) (by omega) fun M1 n hn t f1 => ?_
  conv => whnf
  rw [lstAt_of t.2.1]
  conv => whnf
  rw [refs_at (i := 0) (x := 0) (by omega) rfl]
  conv => whnf
  rw [lstAt_of (t.row (by omega))]
  conv => whnf
  rw [rowI_at (j := 0) (x := 0) (by omega) rfl]
  exact k h1 h2 _ f1
/-! ### the walk -/
def pD (p : Nat × Nat) : D := .tup [.int p.1, .int p.2]
def wk (a b : List Str) : Nat → Nat → Nat → List (Nat × Nat)
  | 0, _, _ => []
  | f + 1, i, j => if i < a.length ∧ j < b.length then
      if a[i]? = b[j]? then (i, j) :: wk a b f (i + 1) (j + 1) else if Tl a b i (j + 1) ≤ Tl a b (i + 1) j then wk a b f (i + 1) j else wk a b f i (j + 1)
    else []
def shp (a b : List Str) : List (Nat × Nat) := wk a b (a.length + b.length + 1) 0 0
theorem wk_end {a b : List Str} {f i j : Nat} (h : ¬ (i < a.length ∧ j < b.length)) : wk a b f i j = [] := by cases f with
  | zero => rfl
  | succ f => rw [wk, if_neg h]
theorem wk_eq {a b : List Str} {f i j : Nat} (hi : i < a.length) (hj : j < b.length) (e : a[i] = b[j]) : wk a b (f + 1) i j = (i, j) :: wk a b f (i + 1) (j + 1) := by
  rw [wk, if_pos ⟨hi, hj⟩, if_pos (by rw [List.getElem?_eq_getElem hi, List.getElem?_eq_getElem hj, e])]
theorem wk_ne {a b : List Str} {f i j : Nat} (hi : i < a.length) (hj : j < b.length) (e : a[i] ≠ b[j]) : wk a b (f + 1) i j = if Tl a b i (j + 1) ≤ Tl a b (i + 1) j then wk a b f (i + 1) j else wk a b f i (j + 1) := by
  rw [wk, if_pos ⟨hi, hj⟩, if_neg (by rw [List.getElem?_eq_getElem hi, List.getElem?_eq_getElem hj]; simpa using e)]
theorem wk_len {a b : List Str} : ∀ {f i j : Nat}, (wk a b f i j).length ≤ a.length - i
  | 0, _, _ => Nat.zero_le _
  | f + 1, i, j => by
    rw [wk]
    have h1 := wk_len (a := a) (b := b) (f := f) (i := i + 1) (j := j + 1)
    have h2 := wk_len (a := a) (b := b) (f := f) (i := i + 1) (j := j)
    have h3 := wk_len (a := a) (b := b) (f := f) (i := i) (j := j + 1)
    split
    · split
      · rw [List.length_cons]; omega
      · split <;> omega
    · exact Nat.zero_le _
theorem w_shared_pairs {a b : List Str} {M R Ex} (k : a.length ≤ 60 → b.length ≤ 60 → ∀ M', Fr [] M M' → R (.tup ((shp a b).map pD)) M') (kx : ¬ (a.length ≤ 60 ∧ b.length ≤ 60) → Ex ⟨"TooMany", ["limit"], [.int 60]⟩ M) : F_shared_pairs [.tup (a.map D.str), .tup (b.map D.str)] M R Ex := by
  have la' : (a.map D.str).length = a.length := by simp
  have lb' : (b.map D.str).length = b.length := by simp
  unfold F_shared_pairs
  have w1 := @w_check_sizes; obtain ⟨Fw1, qw1⟩ := op F_check_sizes; rw [← qw1] at w1 ⊢; clear qw1
  have w2 := @w_tail_table; obtain ⟨Fw2, qw2⟩ := op F_tail_table; rw [← qw2] at w2 ⊢; clear qw2
  refine w1 (fun h1 h2 => ?_) (fun h => kx (by rw [la', lb'] at h; exact h))
  rw [la'] at h1
  rw [lb'] at h2
  refine w2 (by omega) (by omega) fun M1 n hn t f1 => ?_
  refine ⟨sz rfl, ?_⟩
  refine ⟨a.length + b.length + 1, ?_⟩
  refine while_ok (fun f ρ M' => ∃ (i j : Nat) (acc : List (Nat × Nat)), (a.length - i) + (b.length - j) < f ∧ acc ++ wk a b f i j = shp a b ∧ mlst M' M1.length = some (acc.map pD) ∧ acc.length ≤ i ∧ i ≤ a.length ∧ Fr [] M1 M' ∧ ρ = [some (.tup (a.map D.str)), some (.tup (b.map D.str)), some (.ref n), some (.ref M1.length), some (.int i), some (.int j)]) ?_ ?_ _ _ _ ⟨0, 0, [], by omega, rfl, mlst_new, Nat.le_refl _, Nat.zero_le _, Fr.app, rfl⟩
  · rintro ρ M' ⟨i, j, acc, h, _⟩
    omega
  · rintro f ρ M2 Kn ⟨i, j, acc, hf, hw, hm, hacc, hia, f2, rfl⟩ hK
    have fin : ¬ (i < a.length ∧ j < b.length) → R (.tup ((shp a b).map pD)) M2 := fun h => k h1 h2 _ (f1.tr f2)
    have end_ : ¬ (i < a.length ∧ j < b.length) → acc = shp a b := fun h => by rw [wk_end h, List.append_nil] at hw; exact hw
    conv => whnf
    rw [la']
    refine bm (fun e1 => ?_) (fun e1 => ?_)
    · have hi : i < a.length := by have := of_decide_eq_true e1; omega
      conv => whnf
      rw [lb']
      refine bm (fun e2 => ?_) (fun e2 => ?_)
      · have hj : j < b.length := by have := of_decide_eq_true e2; omega
        have t2 := t.fr f2
        conv => whnf
        rw [str_at rfl hi]
        conv => whnf
        rw [str_at rfl hj]
        conv => whnf
        rw [eqS]
        refine bm (fun e => ?_) (fun e => ?_)
        · have e : a[i] = b[j] := of_decide_eq_true e
          rw [wk_eq hi hj e] at hw
          refine ⟨rcv_lst hm, sz rfl, ?_⟩
          conv => whnf
          rw [hm]
          refine ⟨Nat.lt_of_lt_of_le (show (acc.map pD).length < 200 by rw [List.length_map]; omega) (by decide), ?_⟩
          exact hK _ _ ⟨i + 1, j + 1, acc ++ [(i, j)], by omega, by rw [← hw]; simp, by rw [mlst_set (mlst_lt hm), List.map_append]; rfl, by simp; omega, by omega, f2.set (.inr (Nat.le_refl _)), rfl⟩
        · have e : a[i] ≠ b[j] := of_decide_eq_false e
          rw [wk_ne hi hj e] at hw
          conv => whnf
          rw [lstAt_of t2.2.1]
          conv => whnf
          rw [refs_at (i := i + 1) (by omega) (by omega)]
          conv => whnf
          rw [lstAt_of (t2.row (by omega))]
          conv => whnf
          rw [rowI_at (j := j) (by omega) rfl]
          conv => whnf
          rw [lstAt_of t2.2.1]
          conv => whnf
          rw [refs_at (i := i) (by omega) rfl]
          conv => whnf
          rw [lstAt_of (t2.row (by omega))]
          conv => whnf
          rw [rowI_at (j := j + 1) (by omega) (by omega)]
          conv => whnf
          refine bm (fun e3 => ?_) (fun e3 => ?_)
          · have e3 := of_decide_eq_true e3
            rw [if_pos (by omega)] at hw
            exact hK _ _ ⟨i + 1, j, acc, by omega, hw, hm, by omega, by omega, f2, rfl⟩
          · have e3 := of_decide_eq_false e3
            rw [if_neg (by omega)] at hw
            exact hK _ _ ⟨i, j + 1, acc, by omega, hw, hm, by omega, by omega, f2, rfl⟩
      · have hj : ¬ j < b.length := by have := of_decide_eq_false e2; omega
        conv => whnf
        rw [lstAt_of hm, end_ (by omega)]
        exact fin (by omega)
    · have hi : ¬ i < a.length := by have := of_decide_eq_false e1; omega
      conv => whnf
      rw [lstAt_of hm, end_ (by omega)]
      exact fin (by omega)
theorem w_law_pairs {a b : List Str} {n : Nat} {M R Ex} (h1 : a.length ≤ 60) (h2 : b.length ≤ 60) (t : Tb M n 2 (a.length + 1) (b.length + 1) (fun i j => (Tl a b i j : Int))) (k : ∀ M', Fr [] M M' → R (.tup ((shp a b).map pD)) M') : F_law_pairs_v2 [.tup (a.map D.str), .tup (b.map D.str), .ref n] M R Ex := by
  have la' : (a.map D.str).length = a.length := by simp
  have lb' : (b.map D.str).length = b.length := by simp
  unfold F_law_pairs_v2
  refine ⟨sz rfl, ?_⟩
  refine ⟨by omega, by omega, ?_⟩
  rw [la', lb']
  have fin : ∀ {M2 : Mem} {acc : List (Nat × Nat)}, mlst M2 M.length = some (acc.map pD) → acc = shp a b → Fr [] M M2 → R (.tup ((shp a b).map pD)) M2 := fun _ _ f => k _ f
  refine forL_ix (fun q ρ M' => ∃ (i j : Nat) (acc : List (Nat × Nat)) (x6 : Option D), (a.length - i) + (b.length - j) + q ≤ a.length + b.length ∧ acc ++ wk a b (a.length + b.length + 1 - q) i j = shp a b ∧ mlst M' M.length = some (acc.map pD) ∧ acc.length ≤ i ∧ i ≤ a.length ∧ j ≤ b.length ∧ Fr [] M M' ∧ ρ = [some (.tup (a.map D.str)), some (.tup (b.map D.str)), some (.ref n), some (.ref M.length), some (.int i), some (.int j), x6]) _ (fun _ _ _ _ => trivial) ?_ ?_ _ _ ⟨0, 0, [], _, by omega, rfl, mlst_new, Nat.le_refl _, Nat.zero_le _, Nat.zero_le _, Fr.app, rfl⟩
  · rintro q d ρ M2 Kn hd ⟨i, j, acc, x6, hf, hw, hm, hacc, hia, hjb, f2, rfl⟩ hK
    obtain ⟨hq, rfl⟩ := rngD_get hd
    have end_ : ¬ (i < a.length ∧ j < b.length) → acc = shp a b := fun h => by rw [wk_end h, List.append_nil] at hw; exact hw
    refine ⟨_, rfl, ?_⟩
    conv => whnf
    rw [la', eqI]
    refine bm (fun e1 => ?_) (fun e1 => ?_)
    · have e1 := of_decide_eq_true e1
      conv => whnf
      rw [lstAt_of hm, end_ (by omega)]
      exact k _ f2
    · have hi : i < a.length := by have := of_decide_eq_false e1; omega
      conv => whnf
      rw [lb', eqI]
      refine bm (fun e2 => ?_) (fun e2 => ?_)
      · have e2 := of_decide_eq_true e2
        conv => whnf
        rw [lstAt_of hm, end_ (by omega)]
        exact k _ f2
      · have hj : j < b.length := by have := of_decide_eq_false e2; omega
        have t2 := t.fr f2
        rw [show a.length + b.length + 1 - q = (a.length + b.length + 1 - (q + 1)) + 1 by omega] at hw
        conv => whnf
        rw [str_at rfl hi]
        conv => whnf
        rw [str_at rfl hj]
        conv => whnf
        rw [eqS]
        refine bm (fun e => ?_) (fun e => ?_)
        · have e : a[i] = b[j] := of_decide_eq_true e
          rw [wk_eq hi hj e] at hw
          refine ⟨rcv_lst hm, sz rfl, ?_⟩
          conv => whnf
          rw [hm]
          refine ⟨Nat.lt_of_lt_of_le (show (acc.map pD).length < 200 by rw [List.length_map]; omega) (by decide), ?_⟩
          exact hK _ _ ⟨i + 1, j + 1, acc ++ [(i, j)], _, by omega, by rw [← hw]; simp, by rw [mlst_set (mlst_lt hm), List.map_append]; rfl, by simp; omega, by omega, by omega, f2.set (.inr (Nat.le_refl _)), rfl⟩
        · have e : a[i] ≠ b[j] := of_decide_eq_false e
          rw [wk_ne hi hj e] at hw
          conv => whnf
          rw [lstAt_of t2.2.1]
          conv => whnf
          rw [refs_at (i := i + 1) (by omega) (by omega)]
          conv => whnf
          rw [lstAt_of (t2.row (by omega))]
          conv => whnf
          rw [rowI_at (j := j) (by omega) rfl]
          conv => whnf
          rw [lstAt_of t2.2.1]
          conv => whnf
          rw [refs_at (i := i) (by omega) rfl]
          conv => whnf
          rw [lstAt_of (t2.row (by omega))]
          conv => whnf
          rw [rowI_at (j := j + 1) (by omega) (by omega)]
          conv => whnf
          refine bm (fun e3 => ?_) (fun e3 => ?_)
          · have e3 := of_decide_eq_true e3
            rw [if_pos (by omega)] at hw
            exact hK _ _ ⟨i + 1, j, acc, _, by omega, hw, hm, by omega, by omega, by omega, f2, rfl⟩
          · have e3 := of_decide_eq_false e3
            rw [if_neg (by omega)] at hw
            exact hK _ _ ⟨i, j + 1, acc, _, by omega, hw, hm, by omega, by omega, by omega, f2, rfl⟩
  · rintro ρ M2 ⟨i, j, acc, x6, hf, hw, hm, hacc, hia, hjb, f2, rfl⟩
    rw [rngD_len] at hf hw
    rw [wk_end (by omega), List.append_nil] at hw
    conv => whnf
    rw [lstAt_of hm, hw]
    exact k _ f2
/-! ### the edit that keeps the pairs -/
def kp (xs ys : List D) : List (Nat × Nat) → Nat → Nat → List D
  | [], _, _ => []
  | p :: r, i, j => (if i < p.1 ∨ j < p.2 then [.tup [.int i, .tup (cutL xs (some i) (some p.1)), .tup (cutL ys (some j) (some p.2))]] else []) ++ kp xs ys r (p.1 + 1) (p.2 + 1)
def dfD (a b : List Str) : List D := kp (a.map D.str) (b.map D.str) (shp a b ++ [(a.length, b.length)]) 0 0
theorem w_diff {a b : List Str} {M R Ex} (k : a.length ≤ 60 → b.length ≤ 60 → ∀ M', Fr [] M M' → R (.tup (dfD a b)) M') (kx : ¬ (a.length ≤ 60 ∧ b.length ≤ 60) → ∀ M', Fr [] M M' → Ex ⟨"TooMany", ["limit"], [.int 60]⟩ M') : F_diff [.tup (a.map D.str), .tup (b.map D.str)] M R Ex := by
  have la' : (a.map D.str).length = a.length := by simp
  have lb' : (b.map D.str).length = b.length := by simp
  unfold F_diff
  have w1 := @w_shared_pairs; obtain ⟨Fw1, qw1⟩ := op F_shared_pairs; rw [← qw1] at w1 ⊢; clear qw1
  refine ⟨sz rfl, ?_⟩
  refine w1 (fun h1 h2 M1 f1 => ?_) (fun h => kx h _ Fr.app)
  have lw := wk_len (a := a) (b := b) (f := a.length + b.length + 1) (i := 0) (j := 0)
  have lw : (shp a b).length ≤ a.length := lw
  have rr := sizeLine_eq
  refine ⟨sz rfl, sz rfl, ?_⟩
  conv => whnf
  rw [la', lb']
  refine ⟨by simp; omega, ?_⟩
  rw [show (shp a b).map pD ++ [D.tup [.int a.length, .int b.length]] = (shp a b ++ [(a.length, b.length)]).map pD by simp [pD]]
  have m1 : mlst M1 M.length = some [] := f1.lst mlst_new
  refine forL_map pD (fun r ρ M' => ∃ (i j : Nat) (acc : List D) (x5 x6 : Option D), acc ++ kp (a.map D.str) (b.map D.str) r i j = dfD a b ∧ acc.length + r.length ≤ 61 ∧ mlst M' M.length = some acc ∧ Fr [] M M' ∧ ρ = [some (.tup (a.map D.str)), some (.tup (b.map D.str)), some (.ref M.length), some (.int i), some (.int j), x5, x6]) (fun _ _ _ _ => trivial) ?_ ?_ _ _ _ ⟨0, 0, [], _, _, rfl, by simp; omega, m1, (Fr.app (S := [])).tr f1, rfl⟩
  · rintro ⟨p, q⟩ r ρ M2 Kn ⟨i, j, acc, x5, x6, ha, hl, hm, f2, rfl⟩ hK
    rw [kp] at ha
    rw [List.length_cons] at hl
    refine ⟨_, rfl, ?_⟩
    have no : ¬ (i < p ∨ j < q) → Kn [some (.tup (a.map D.str)), some (.tup (b.map D.str)), some (.ref M.length), some (.int ((p + 1 : Nat) : Int)), some (.int ((q + 1 : Nat) : Int)), some (.int p), some (.int q)] M2 := fun h => by
      rw [if_neg h, List.nil_append] at ha
      exact hK _ _ ⟨p + 1, q + 1, acc, _, _, ha, by omega, hm, f2, rfl⟩
    have yes : (i < p ∨ j < q) → Kn [some (.tup (a.map D.str)), some (.tup (b.map D.str)), some (.ref M.length), some (.int ((p + 1 : Nat) : Int)), some (.int ((q + 1 : Nat) : Int)), some (.int p), some (.int q)] (M2.set M.length (.lst (acc ++ [.tup [.int i, .tup (cutL (a.map D.str) (some (i : Int)) (some (p : Int))), .tup (cutL (b.map D.str) (some (j : Int)) (some (q : Int)))]]))) := fun h => by
      rw [if_pos h] at ha
      exact hK _ _ ⟨p + 1, q + 1, _, _, _, by rw [← ha]; simp, by simp; omega, mlst_set (mlst_lt hm), f2.set (.inr (Nat.le_refl _)), rfl⟩
    have lim : acc.length < sizeLine := Nat.lt_of_lt_of_le (show acc.length < 200 by omega) (by decide)
    conv => whnf
    refine bm (fun e1 => ?_) (fun e1 => ?_)
    · have e1 := of_decide_eq_true e1
      refine ⟨rcv_lst hm, sz rfl, ?_⟩
      conv => whnf
      rw [hm]
      exact ⟨lim, yes (by omega)⟩
    · have e1 := of_decide_eq_false e1
      conv => whnf
      refine bm (fun e2 => ?_) (fun e2 => ?_)
      · have e2 := of_decide_eq_true e2
        refine ⟨rcv_lst hm, sz rfl, ?_⟩
        conv => whnf
        rw [hm]
        exact ⟨lim, yes (by omega)⟩
      · have e2 := of_decide_eq_false e2
        exact no (by omega)
  · rintro ρ M2 ⟨i, j, acc, x5, x6, ha, hl, hm, f2, rfl⟩
    rw [kp, List.append_nil] at ha
    conv => whnf
    rw [lstAt_of hm, ha]
    exact k h1 h2 _ f2
theorem w_law_kept {a b : List Str} {M R Ex} (h1 : a.length ≤ 60) (h2 : b.length ≤ 60) (k : ∀ M', Fr [] M M' → R (.tup (dfD a b)) M') : F_law_kept_v1 [.tup (a.map D.str), .tup (b.map D.str), .tup ((shp a b).map pD)] M R Ex := by
  have la' : (a.map D.str).length = a.length := by simp
  have lb' : (b.map D.str).length = b.length := by simp
  unfold F_law_kept_v1
  have lw := wk_len (a := a) (b := b) (f := a.length + b.length + 1) (i := 0) (j := 0)
  have lw : (shp a b).length ≤ a.length := lw
  have rr := sizeLine_eq
  refine ⟨sz rfl, ?_⟩
  refine ⟨sz rfl, sz rfl, ?_⟩
  conv => whnf
  rw [la', lb']
  refine ⟨by simp; omega, ?_⟩
  rw [show (shp a b).map pD ++ [D.tup [.int a.length, .int b.length]] = (shp a b ++ [(a.length, b.length)]).map pD by simp [pD]]
  refine forL_map pD (fun r ρ M' => ∃ (i j : Nat) (acc : List D) (x6 : Option D), acc ++ kp (a.map D.str) (b.map D.str) r i j = dfD a b ∧ acc.length + r.length ≤ 61 ∧ mlst M' M.length = some acc ∧ Fr [] M M' ∧ ρ = [some (.tup (a.map D.str)), some (.tup (b.map D.str)), some (.tup ((shp a b).map pD)), some (.ref M.length), some (.int i), some (.int j), x6]) (fun _ _ _ _ => trivial) ?_ ?_ _ _ _ ⟨0, 0, [], _, rfl, by simp; omega, mlst_new, Fr.app, rfl⟩
  · rintro ⟨p, q⟩ r ρ M2 Kn ⟨i, j, acc, x6, ha, hl, hm, f2, rfl⟩ hK
    rw [kp] at ha
    rw [List.length_cons] at hl
    refine ⟨_, rfl, ?_⟩
    have no : ¬ (i < p ∨ j < q) → Kn [some (.tup (a.map D.str)), some (.tup (b.map D.str)), some (.tup ((shp a b).map pD)), some (.ref M.length), some (.int ((p + 1 : Nat) : Int)), some (.int ((q + 1 : Nat) : Int)), some (pD (p, q))] M2 := fun h => by
      rw [if_neg h, List.nil_append] at ha
      exact hK _ _ ⟨p + 1, q + 1, acc, _, ha, by omega, hm, f2, rfl⟩
    have yes : (i < p ∨ j < q) → Kn [some (.tup (a.map D.str)), some (.tup (b.map D.str)), some (.tup ((shp a b).map pD)), some (.ref M.length), some (.int ((p + 1 : Nat) : Int)), some (.int ((q + 1 : Nat) : Int)), some (pD (p, q))] (M2.set M.length (.lst (acc ++ [.tup [.int i, .tup (cutL (a.map D.str) (some (i : Int)) (some (p : Int))), .tup (cutL (b.map D.str) (some (j : Int)) (some (q : Int)))]]))) := fun h => by
      rw [if_pos h] at ha
      exact hK _ _ ⟨p + 1, q + 1, _, _, by rw [← ha]; simp, by simp; omega, mlst_set (mlst_lt hm), f2.set (.inr (Nat.le_refl _)), rfl⟩
    have lim : acc.length < sizeLine := Nat.lt_of_lt_of_le (show acc.length < 200 by omega) (by decide)
    conv => whnf
    refine bm (fun e1 => ?_) (fun e1 => ?_)
    · have e1 := of_decide_eq_true e1
      refine ⟨rcv_lst hm, sz rfl, ?_⟩
      conv => whnf
      rw [hm]
      exact ⟨lim, yes (by omega)⟩
    · have e1 := of_decide_eq_false e1
      conv => whnf
      refine bm (fun e2 => ?_) (fun e2 => ?_)
      · have e2 := of_decide_eq_true e2
        refine ⟨rcv_lst hm, sz rfl, ?_⟩
        conv => whnf
        rw [hm]
        exact ⟨lim, yes (by omega)⟩
      · have e2 := of_decide_eq_false e2
        exact no (by omega)
  · rintro ρ M2 ⟨i, j, acc, x6, ha, hl, hm, f2, rfl⟩
    rw [kp, List.append_nil] at ha
    conv => whnf
    rw [lstAt_of hm, ha]
    exact k _ f2
end SG

set_option maxHeartbeats 1000000
namespace SG
open PySem PySem.Spec L2 DN
/-! ### layers -/
/-- h lists at n, one behind the other -/
def Rb (M : Mem) (n h : Nat) (f : Nat → List D) : Prop := mlst M n = some (refs n 1 h) ∧ ∀ i, i < h → mlst M (n + 1 * (i + 1)) = some (f i)
theorem Rb.fr {M M' : Mem} {n h : Nat} {f : Nat → List D} (t : Rb M n h f) (fr : Fr [] M M') : Rb M' n h f := ⟨fr.lst t.1, fun i hi => fr.lst (t.2 i hi)⟩
theorem Rb.set {M : Mem} {n h : Nat} {f : Nat → List D} (t : Rb M n h f) {i : Nat} {v : List D} (hi : i < h) : Rb (M.set (n + 1 * (i + 1)) (.lst v)) n h (fun k => if k = i then v else f k) := by
  refine ⟨mlst_setne t.1 (by omega), fun k hk => ?_⟩
  by_cases e : k = i
  · subst e
    rw [mlst_set (mlst_lt (t.2 k hi))]
    show some v = some (if k = k then v else f k)
    rw [if_pos rfl]
  · rw [mlst_setne (t.2 k hk) (by omega)]
    show some (f k) = some (if k = i then v else f k)
    rw [if_neg e]
theorem Rb.congr {M : Mem} {n h : Nat} {f g : Nat → List D} (t : Rb M n h f) (e : ∀ i, i < h → f i = g i) : Rb M n h g := ⟨t.1, fun i hi => by rw [t.2 i hi, e i hi]⟩
/-- [[] for _ in range(..)] -/
theorem mk_rows {v c : Nat} {ρ : DN.Env} {M : Mem} {Kn : Mem → Prop} (hc : c ≤ 100) (k : ∀ M', Rb M' M.length c (fun _ => []) → Fr [] M M' → Kn M') :
    lcL (fun _ => True) (.nm v) cYes (eLst aNil) M.length ρ (rngD 0 c) (M ++ [.lst []]) Kn := by
  refine lcL_inv (fun i M' => Rb M' M.length i (fun _ => []) ∧ Fr [] M M' ∧ M'.length = M.length + 1 + i) _ (fun _ _ _ => trivial) ?_ ?_ _ ⟨⟨mlst_new, fun i hi => absurd hi (by omega)⟩, Fr.app, by simp⟩
  · rintro i d M1 Kc hd ⟨t, f1, l1⟩ hK
    obtain ⟨hi, rfl⟩ := rngD_get hd
    refine ⟨_, rfl, ?_⟩
    refine ⟨sz rfl, ?_⟩
    have t2 := t.fr (Fr.app (L := [O.lst []]))
    have m2 : mlst (M1 ++ [O.lst []]) M1.length = some [] := mlst_new
    have f2 : Fr [] M (M1 ++ [O.lst []]) := f1.tr Fr.app
    have l2 : (M1 ++ [O.lst []]).length = M1.length + 1 := by simp
    revert t2 m2 f2 l2
    generalize M1 ++ [O.lst []] = M2
    intro t2 m2 f2 l2
    conv => whnf
    rw [t2.1]
    refine ⟨Nat.lt_of_lt_of_le (show (refs M.length 1 i).length < 200 by rw [refs_len]; omega) (by decide), hK _ ⟨⟨?_, fun i' hi' => ?_⟩, f2.set (.inr (Nat.le_refl _)), by simp; omega⟩⟩
    · rw [mlst_set (mlst_lt t2.1), refs_snoc, show M.length + 1 * (i + 1) = M1.length by omega]
    · by_cases e : i' = i
      · subst e
        rw [show M.length + 1 * (i' + 1) = M1.length by omega]
        rw [mlst_setne m2 (by omega)]
      · exact mlst_setne (t2.2 i' (by omega)) (by omega)
  · rintro M1 ⟨t, f1, l1⟩
    rw [rngD_len] at t
    exact k M1 t f1
theorem slot_of : ∀ {ρ : DN.Env} {v : Nat} {d : D}, ρ[v]? = some (some d) → slot ρ v = some d
  | [], v, d, h => by simp at h
  | x :: r, 0, d, h => by simpa [slot] using h
  | x :: r, v + 1, d, h => by rw [slot]; exact slot_of (by simpa using h)
/-- tuple([tuple(row) for row in rows]): the comprehension -/
theorem tk_rows {v c n : Nat} {N : Nat} {ρ : DN.Env} {M : Mem} {Kn : Mem → Prop} {f : Nat → List D} (hρ : v < ρ.length) (hc : c ≤ 100) (t : Rb M n c f) (k : ∀ M', Fr [] M M' → mlst M' M.length = some ((List.range c).map fun i => .tup (f i)) → Kn M') :
    lcL (fun M => lstAt M n = some (refs n 1 c)) (.nm v) cYes (eCallB cnTuple (aCons (eVar v) aNil)) M.length ρ (refs n 1 c) (M ++ [.lst []]) Kn := by
  have f0 : Fr [] M (M ++ [O.lst []]) := Fr.app
  have hn := mlst_lt t.1
  refine lcL_inv (fun i M' => mlst M' M.length = some ((List.range i).map fun i => .tup (f i)) ∧ Fr [] M M') _ (fun i M' h => lstAt_of (h.2.lst t.1)) ?_ ?_ _ ⟨mlst_new, f0⟩
  · rintro i d M1 Kc hd ⟨m1, f1⟩ hK
    have hi : i < c := by have := (List.getElem?_eq_some_iff.mp hd).1; rwa [refs_len] at this
    have ed : d = .ref (n + 1 * (i + 1)) := by
      have := hd
      unfold refs at this
      rw [List.getElem?_map, List.getElem?_range hi] at this
      cases this; rfl
    subst ed
    refine ⟨ρ.set v (some (.ref (n + 1 * (i + 1)))), rfl, ?_⟩
    have tv : (ρ.set v (some (D.ref (n + 1 * (i + 1)))))[v]? = some (some (.ref (n + 1 * (i + 1)))) := by rw [List.getElem?_set_self hρ]
    revert tv
    generalize ρ.set v (some (D.ref (n + 1 * (i + 1)))) = ρ1
    intro tv
    have step : ∀ R : KD, cnTuple [.ref (n + 1 * (i + 1))] M1 R → eCallB cnTuple (aCons (eVar v) aNil) noX ρ1 M1 R := fun R h => by
      have sl : slot ρ1 v = some (.ref (n + 1 * (i + 1))) := slot_of tv
      unfold eCallB aCons aNil eVar
      simp only [sl]
      exact h
    refine step _ ?_
    refine cnTuple_ok ((f1.lst (t.2 i hi))) ?_
    show (match mlst M1 M.length with | some acc => _ | none => False)
    rw [m1]
    refine ⟨Nat.lt_of_lt_of_le (show ((List.range i).map fun i => D.tup (f i)).length < 200 by simp; omega) (by decide), hK _ ⟨?_, f1.set (.inr (Nat.le_refl _))⟩⟩
    rw [mlst_set (mlst_lt m1), List.range_succ, List.map_append]
    rfl
  · rintro M1 ⟨m1, f1⟩
    rw [refs_len] at m1
    exact k M1 f1 m1
/-- the cells before row i, and the first q of row i from its end -/
def cells (lb i q : Nat) : List (Nat × Nat) := ((List.range i).flatMap fun i' => (List.range lb).map fun q' => (i', lb - 1 - q')) ++ (List.range q).map fun q' => (i, lb - 1 - q')
theorem cells_snoc {lb i q : Nat} : cells lb i (q + 1) = cells lb i q ++ [(i, lb - 1 - q)] := by unfold cells; rw [List.range_succ, List.map_append, ← List.append_assoc]; rfl
theorem cells_row {lb i : Nat} : cells lb i lb = cells lb (i + 1) 0 := by
  unfold cells
  rw [List.range_succ, List.flatMap_append]
  simp
theorem cells_len {lb : Nat} : ∀ {i q : Nat}, (cells lb i q).length = i * lb + q
  | 0, q => by unfold cells; simp
  | i + 1, q => by
    have := cells_len (lb := lb) (i := i) (q := lb)
    have e : (cells lb (i + 1) q).length = (cells lb (i + 1) 0).length + q := by unfold cells; simp
    rw [e, ← cells_row, this, Nat.succ_mul]
def lyr (a b : List Str) (L : List (Nat × Nat)) (k : Nat) : List D := (L.filter fun p => decide (a[p.1]? = b[p.2]?) && decide (Hd a b p.1 p.2 = k)).map pD
theorem lyr_app {a b : List Str} {L : List (Nat × Nat)} {p : Nat × Nat} {k : Nat} : lyr a b (L ++ [p]) k = if a[p.1]? = b[p.2]? ∧ Hd a b p.1 p.2 = k then lyr a b L k ++ [pD p] else lyr a b L k := by
  unfold lyr
  rw [List.filter_append, List.map_append, List.filter_cons]
  by_cases e : a[p.1]? = b[p.2]? ∧ Hd a b p.1 p.2 = k
  · rw [if_pos e, if_pos (by simp [e.1, e.2])]; rfl
  · rw [if_neg e, if_neg (by simpa using e)]; simp
theorem lyr_le {a b : List Str} {L : List (Nat × Nat)} {k : Nat} : (lyr a b L k).length ≤ L.length := by unfold lyr; rw [List.length_map]; exact List.length_filter_le _ _
def LYR (a b : List Str) : D := .tup ((List.range (Hd a b a.length b.length)).map fun k => .tup (lyr a b (cells b.length a.length 0) k))
theorem Hd_le {a b : List Str} {i j : Nat} : Hd a b i j ≤ a.length := by
  unfold Hd
  have := lc_le _ (a.take i).reverse (b.take j).reverse (Nat.le_refl _)
  simp only [List.length_reverse, List.length_take] at this
  omega
theorem w_layers {a b : List Str} {M R Ex} (k : a.length ≤ 60 → b.length ≤ 60 → ∀ M', Fr [] M M' → R (LYR a b) M') (kx : ¬ (a.length ≤ 60 ∧ b.length ≤ 60) → Ex ⟨"TooMany", ["limit"], [.int 60]⟩ M) : F_layers [.tup (a.map D.str), .tup (b.map D.str)] M R Ex := by
  have la' : (a.map D.str).length = a.length := by simp
  have lb' : (b.map D.str).length = b.length := by simp
  unfold F_layers
  have w1 := @w_check_sizes; obtain ⟨Fw1, qw1⟩ := op F_check_sizes; rw [← qw1] at w1 ⊢; clear qw1
  have w2 := @w_head_table; obtain ⟨Fw2, qw2⟩ := op F_head_table; rw [← qw2] at w2 ⊢; clear qw2
  refine w1 (fun h1 h2 => ?_) (fun h => kx (by rw [la', lb'] at h; exact h))
  rw [la'] at h1
  rw [lb'] at h2
  refine w2 (by omega) (by omega) fun M1 n hn t f1 => ?_
  have hH : Hd a b a.length b.length ≤ a.length := Hd_le
  conv => whnf
  rw [la', lstAt_of t.2.1]
  conv => whnf
  rw [refs_at (i := a.length) (x := (a.length : Int)) (by omega) rfl]
  conv => whnf
  rw [lb', lstAt_of (t.row (by omega))]
  conv => whnf
  rw [rowI_at (j := b.length) (x := (b.length : Int)) (by omega) rfl]
  refine ⟨by omega, by omega, ?_⟩
  rw [show ((Hd a b a.length b.length : Nat) : Int).toNat = Hd a b a.length b.length by omega]
  refine mk_rows (c := Hd a b a.length b.length) (by omega) fun M2 rb f2 => ?_
  conv => whnf
  rw [la']
  refine ⟨by omega, by omega, ?_⟩
  refine forL_ix (fun i ρ M' => (∃ x5 x6, ρ = [some (.tup (a.map D.str)), some (.tup (b.map D.str)), some (.ref n), some (.ref M1.length), none, x5, x6, none]) ∧ Rb M' M1.length (Hd a b a.length b.length) (lyr a b (cells b.length i 0)) ∧ Fr [] M1 M') _ (fun _ _ _ _ => trivial) ?_ ?_ _ _ ⟨⟨_, _, rfl⟩, rb.congr fun i _ => rfl, f2⟩
  · rintro i d ρ M3 Kn hd ⟨⟨x5, x6, rfl⟩, rb3, f3⟩ hK
    obtain ⟨hi, rfl⟩ := rngD_get hd
    have hil : i < a.length := by omega
    rw [show (0 : Int) + (i : Nat) = (i : Int) by omega]
    refine ⟨_, rfl, ?_⟩
    conv => whnf
    rw [lb']
    refine ⟨⟨by omega, by omega⟩, ?_⟩
    refine forL_ix (fun q ρ M' => (∃ x6, ρ = [some (.tup (a.map D.str)), some (.tup (b.map D.str)), some (.ref n), some (.ref M1.length), none, some (.int i), x6, none]) ∧ Rb M' M1.length (Hd a b a.length b.length) (lyr a b (cells b.length i q)) ∧ Fr [] M1 M') _ (fun _ _ _ _ => trivial) ?_ ?_ _ _ ⟨⟨_, rfl⟩, rb3, f3⟩
    · rintro q d ρ M4 Kn4 hd4 ⟨⟨x6, rfl⟩, rb4, f4⟩ hK4
      obtain ⟨hq, rfl⟩ := revD_get hd4
      have hql : q < b.length := by omega
      obtain ⟨j, hj⟩ : ∃ j : Nat, j = b.length - 1 - q := ⟨_, rfl⟩
      have hjl : j < b.length := by omega
      rw [show ((b.length : Int).toNat : Int) - 1 - (q : Nat) = (j : Int) by omega]
      have t4 := t.fr f4
      refine ⟨_, rfl, ?_⟩
      conv => whnf
      rw [str_at rfl hil]
      conv => whnf
      rw [str_at rfl hjl]
      conv => whnf
      rw [eqS]
      refine bm (fun e => ?_) (fun e => ?_)
      · have e : a[i] = b[j] := of_decide_eq_true e
        have hlt := Hd_lt hil hjl e
        have ll := lyr_le (a := a) (b := b) (L := cells b.length i q) (k := Hd a b i j)
        rw [cells_len] at ll
        have mm : i * b.length ≤ 60 * 60 := Nat.mul_le_mul (by omega) h2
        conv => whnf
        rw [lstAt_of t4.2.1]
        conv => whnf
        rw [refs_at (i := i) (by omega) rfl]
        conv => whnf
        rw [lstAt_of (t4.row (by omega))]
        conv => whnf
        rw [rowI_at (j := j) (by omega) rfl]
        conv => whnf
        rw [lstAt_of rb4.1]
        conv => whnf
        rw [refs_at (i := Hd a b i j) hlt rfl]
        refine ⟨rcv_lst (rb4.2 _ hlt), sz rfl, ?_⟩
        conv => whnf
        rw [rb4.2 _ hlt]
        refine ⟨Nat.lt_of_lt_of_le (show (lyr a b (cells b.length i q) (Hd a b i j)).length < 10000 by omega) (by decide), ?_⟩
        refine hK4 _ _ ⟨⟨_, rfl⟩, (rb4.set hlt).congr fun k hk => ?_, f4.set (.inr (by omega))⟩
        rw [cells_snoc, ← hj, lyr_app]
        have e2 : a[i]? = b[j]? := by rw [List.getElem?_eq_getElem hil, List.getElem?_eq_getElem hjl, e]
        by_cases ek : k = Hd a b i j
        · subst ek
          rw [if_pos rfl, if_pos ⟨e2, rfl⟩]
          rfl
        · rw [if_neg ek, if_neg fun z => ek z.2.symm]
      · have e : a[i] ≠ b[j] := of_decide_eq_false e
        refine hK4 _ _ ⟨⟨_, rfl⟩, rb4.congr fun k hk => ?_, f4⟩
        rw [cells_snoc, ← hj, lyr_app, if_neg]
        rintro ⟨z, _⟩
        have z : a[i]? = b[j]? := z
        rw [List.getElem?_eq_getElem hil, List.getElem?_eq_getElem hjl] at z
        exact e (by simpa using z)
    · rintro ρ M4 ⟨⟨x6, rfl⟩, rb4, f4⟩
      rw [revD_len, show (b.length : Int).toNat = b.length by omega, cells_row] at rb4
      exact hK _ _ ⟨⟨_, _, rfl⟩, rb4, f4⟩
  · rintro ρ M3 ⟨⟨x5, x6, rfl⟩, rb3, f3⟩
    rw [rngD_len, show (a.length : Int).toNat = a.length by omega] at rb3
    conv => whnf
    rw [lstAt_of rb3.1]
    refine tk_rows (N := 8) (by show 7 < 8; decide) (by omega) rb3 fun M4 f4 m4 => ?_
    conv => whnf
    rw [lstAt_of m4]
    exact k h1 h2 _ ((f1.tr f3).tr f4)
theorem w_law_layers {a b : List Str} {M R Ex} (h1 : a.length ≤ 60) (h2 : b.length ≤ 60) (k : ∀ M', Fr [] M M' → R (LYR a b) M') : F_law_layers [.tup (a.map D.str), .tup (b.map D.str)] M R Ex := by
  have la' : (a.map D.str).length = a.length := by simp
  have lb' : (b.map D.str).length = b.length := by simp
  unfold F_law_layers
  have w2 := @w_law_tails; obtain ⟨Fw2, qw2⟩ := op F_law_tails; rw [← qw2] at w2 ⊢; clear qw2
  have w2 := @w2 a.reverse b.reverse
  rw [List.map_reverse, List.map_reverse, List.length_reverse, List.length_reverse] at w2
  refine w2 (by omega) (by omega) fun M1 n hn t f1 => ?_
  have hH : Hd a b a.length b.length ≤ a.length := Hd_le
  have e0 : Tl a.reverse b.reverse 0 0 = Hd a b a.length b.length := by
    have := Tl_rev (a := a) (b := b) (Nat.le_refl a.length) (Nat.le_refl b.length)
    rwa [Nat.sub_self, Nat.sub_self] at this
  conv => whnf
  rw [lstAt_of t.2.1]
  conv => whnf
  rw [refs_at (i := 0) (x := 0) (by omega) rfl]
  conv => whnf
  rw [lstAt_of (t.row (by omega))]
  conv => whnf
  rw [rowI_at (j := 0) (x := 0) (by omega) rfl, e0]
  refine ⟨by omega, by omega, ?_⟩
  rw [show ((Hd a b a.length b.length : Nat) : Int).toNat = Hd a b a.length b.length by omega]
  refine mk_rows (c := Hd a b a.length b.length) (by omega) fun M2 rb f2 => ?_
  conv => whnf
  rw [la']
  refine ⟨by omega, by omega, ?_⟩
  refine forL_ix (fun i ρ M' => (∃ x5 x6 x7, ρ = [some (.tup (a.map D.str)), some (.tup (b.map D.str)), some (.ref n), some (.ref M1.length), none, x5, x6, x7, none]) ∧ Rb M' M1.length (Hd a b a.length b.length) (lyr a b (cells b.length i 0)) ∧ Fr [] M1 M') _ (fun _ _ _ _ => trivial) ?_ ?_ _ _ ⟨⟨_, _, _, rfl⟩, rb.congr fun i _ => rfl, f2⟩
  · rintro i d ρ M3 Kn hd ⟨⟨x5, x6, x7, rfl⟩, rb3, f3⟩ hK
    obtain ⟨hi, rfl⟩ := rngD_get hd
    have hil : i < a.length := by omega
    rw [show (0 : Int) + (i : Nat) = (i : Int) by omega]
    refine ⟨_, rfl, ?_⟩
    conv => whnf
    rw [lb']
    refine ⟨by omega, by omega, ?_⟩
    refine forL_ix (fun q ρ M' => (∃ x6 x7, ρ = [some (.tup (a.map D.str)), some (.tup (b.map D.str)), some (.ref n), some (.ref M1.length), none, some (.int i), x6, x7, none]) ∧ Rb M' M1.length (Hd a b a.length b.length) (lyr a b (cells b.length i q)) ∧ Fr [] M1 M') _ (fun _ _ _ _ => trivial) ?_ ?_ _ _ ⟨⟨_, _, rfl⟩, rb3, f3⟩
    · rintro q d ρ M4 Kn4 hd4 ⟨⟨x6, x7, rfl⟩, rb4, f4⟩ hK4
      obtain ⟨hq, rfl⟩ := rngD_get hd4
      have hql : q < b.length := by omega
      obtain ⟨j, hj⟩ : ∃ j : Nat, j = b.length - 1 - q := ⟨_, rfl⟩
      have hjl : j < b.length := by omega
      have t4 := t.fr f4
      refine ⟨_, rfl, ?_⟩
      conv => whnf
      rw [lb', show (b.length : Int) - 1 - (0 + (q : Nat)) = (j : Int) by omega]
      conv => whnf
      rw [str_at rfl hil]
      conv => whnf
      rw [str_at rfl hjl]
      conv => whnf
      rw [eqS]
      refine bm (fun e => ?_) (fun e => ?_)
      · have e : a[i] = b[j] := of_decide_eq_true e
        have hlt := Hd_lt hil hjl e
        have ll := lyr_le (a := a) (b := b) (L := cells b.length i q) (k := Hd a b i j)
        rw [cells_len] at ll
        have mm : i * b.length ≤ 60 * 60 := Nat.mul_le_mul (by omega) h2
        conv => whnf
        rw [lstAt_of t4.2.1, la']
        conv => whnf
        rw [refs_at (i := a.length - i) (by omega) (by omega)]
        conv => whnf
        rw [lstAt_of (t4.row (by omega)), lb']
        conv => whnf
        rw [rowI_at (j := b.length - j) (by omega) (by omega), Tl_rev (by omega) (by omega)]
        conv => whnf
        rw [lstAt_of rb4.1]
        conv => whnf
        rw [refs_at (i := Hd a b i j) hlt rfl]
        refine ⟨rcv_lst (rb4.2 _ hlt), sz rfl, ?_⟩
        conv => whnf
        rw [rb4.2 _ hlt]
        refine ⟨Nat.lt_of_lt_of_le (show (lyr a b (cells b.length i q) (Hd a b i j)).length < 10000 by omega) (by decide), ?_⟩
        refine hK4 _ _ ⟨⟨_, _, rfl⟩, (rb4.set hlt).congr fun k hk => ?_, f4.set (.inr (by omega))⟩
        rw [cells_snoc, ← hj, lyr_app]
        have e2 : a[i]? = b[j]? := by rw [List.getElem?_eq_getElem hil, List.getElem?_eq_getElem hjl, e]
        by_cases ek : k = Hd a b i j
        · subst ek
          rw [if_pos rfl, if_pos ⟨e2, rfl⟩]
          rfl
        · rw [if_neg ek, if_neg fun z => ek z.2.symm]
      · have e : a[i] ≠ b[j] := of_decide_eq_false e
        refine hK4 _ _ ⟨⟨_, _, rfl⟩, rb4.congr fun k hk => ?_, f4⟩
        rw [cells_snoc, ← hj, lyr_app, if_neg]
        rintro ⟨z, _⟩
        have z : a[i]? = b[j]? := z
        rw [List.getElem?_eq_getElem hil, List.getElem?_eq_getElem hjl] at z
        exact e (by simpa using z)
    · rintro ρ M4 ⟨⟨x6, x7, rfl⟩, rb4, f4⟩
      rw [rngD_len, show (b.length : Int).toNat = b.length by omega, cells_row] at rb4
      exact hK _ _ ⟨⟨_, _, _, rfl⟩, rb4, f4⟩
  · rintro ρ M3 ⟨⟨x5, x6, x7, rfl⟩, rb3, f3⟩
    rw [rngD_len, show (a.length : Int).toNat = a.length by omega] at rb3
    conv => whnf
    rw [lstAt_of rb3.1]
    refine tk_rows (N := 9) (by show 8 < 9; decide) (by omega) rb3 fun M4 f4 m4 => ?_
    conv => whnf
    rw [lstAt_of m4]
    exact k _ ((f1.tr f3).tr f4)
end SG

set_option maxHeartbeats 1000000
namespace SG
open PySem PySem.Spec L2 DN
theorem okt_strs : ∀ {t : List D}, okt t = true → ∃ a : List Str, t = a.map D.str
  | [], _ => ⟨[], rfl⟩
  | d :: r, h => by
    obtain ⟨x, rfl, _⟩ := okt_iff.mp h d (by simp)
    obtain ⟨a, rfl⟩ := okt_strs (t := r) (okt_iff.mpr fun y hy => okt_iff.mp h y (by simp [hy]))
    exact ⟨x :: a, rfl⟩
def ansD (a b : List Str) : Nat → D
  | 0 => .int (Tl a b 0 0)
  | 1 => .tup ((shp a b).map pD)
  | 2 => .tup (dfD a b)
  | _ => LYR a b
theorem w_answer_ok {a b : List Str} {i : Nat} {M R Ex} (hi : i < 4) (h1 : a.length ≤ 60) (h2 : b.length ≤ 60) (k : ∀ M', Fr [] M M' → R (.tup [.str "fine", ansD a b i]) M') : F_law_answer [.int i, .tup (a.map D.str), .tup (b.map D.str)] M R Ex := by
  unfold F_law_answer
  have w1 := @w_shared_lines; obtain ⟨Fw1, qw1⟩ := op F_shared_lines; rw [← qw1] at w1 ⊢; clear qw1
  have w2 := @w_shared_pairs; obtain ⟨Fw2, qw2⟩ := op F_shared_pairs; rw [← qw2] at w2 ⊢; clear qw2
  have w3 := @w_diff; obtain ⟨Fw3, qw3⟩ := op F_diff; rw [← qw3] at w3 ⊢; clear qw3
  have w4 := @w_layers; obtain ⟨Fw4, qw4⟩ := op F_layers; rw [← qw4] at w4 ⊢; clear qw4
  have hh : i = 0 ∨ i = 1 ∨ i = 2 ∨ i = 3 := by omega
  rcases hh with rfl | rfl | rfl | rfl
  · refine w1 (fun _ _ M1 f1 => ?_) (fun h => absurd ⟨h1, h2⟩ h)
    exact ⟨sz rfl, k _ f1⟩
  · refine w2 (fun _ _ M1 f1 => ?_) (fun h => absurd ⟨h1, h2⟩ h)
    exact ⟨sz rfl, k _ f1⟩
  · refine w3 (fun _ _ M1 f1 => ?_) (fun h => absurd ⟨h1, h2⟩ h)
    exact ⟨sz rfl, k _ f1⟩
  · refine w4 (fun _ _ M1 f1 => ?_) (fun h => absurd ⟨h1, h2⟩ h)
    exact ⟨sz rfl, k _ f1⟩
theorem w_answer_no {a b : List Str} {i : Nat} {M R Ex} (hi : i < 4) (hn : ¬ (a.length ≤ 60 ∧ b.length ≤ 60)) (k : ∀ M', Fr [] M M' → R (.tup [.str "many", .int 60]) M') : F_law_answer [.int i, .tup (a.map D.str), .tup (b.map D.str)] M R Ex := by
  unfold F_law_answer
  have w1 := @w_shared_lines; obtain ⟨Fw1, qw1⟩ := op F_shared_lines; rw [← qw1] at w1 ⊢; clear qw1
  have w2 := @w_shared_pairs; obtain ⟨Fw2, qw2⟩ := op F_shared_pairs; rw [← qw2] at w2 ⊢; clear qw2
  have w3 := @w_diff; obtain ⟨Fw3, qw3⟩ := op F_diff; rw [← qw3] at w3 ⊢; clear qw3
  have w4 := @w_layers; obtain ⟨Fw4, qw4⟩ := op F_layers; rw [← qw4] at w4 ⊢; clear qw4
  have hh : i = 0 ∨ i = 1 ∨ i = 2 ∨ i = 3 := by omega
  rcases hh with rfl | rfl | rfl | rfl
  · refine w1 (fun h1 h2 => absurd ⟨h1, h2⟩ hn) (fun h => ?_)
    exact ⟨by show (3 : Nat) < 4; decide, sz rfl, k _ Fr.refl⟩
  · refine w2 (fun h1 h2 => absurd ⟨h1, h2⟩ hn) (fun h => ?_)
    exact ⟨by show (3 : Nat) < 4; decide, sz rfl, k _ Fr.refl⟩
  · refine w3 (fun h1 h2 => absurd ⟨h1, h2⟩ hn) (fun h M1 f1 => ?_)
    exact ⟨by show (3 : Nat) < 4; decide, sz rfl, k _ f1⟩
  · refine w4 (fun h1 h2 => absurd ⟨h1, h2⟩ hn) (fun h => ?_)
    exact ⟨by show (3 : Nat) < 4; decide, sz rfl, k _ Fr.refl⟩
/-! ### the answers are small -/
theorem fit_pD {r : Nat} {p : Nat × Nat} : fit (r + 2) (pD p) := ⟨show 2 ≤ 16777216 by decide, fun y hy => by
  simp only [List.mem_cons, List.not_mem_nil, or_false] at hy
  rcases hy with rfl | rfl <;> trivial⟩
theorem cutL_mem {xs : List D} {a b : Option Int} {d : D} (h : d ∈ cutL xs a b) : d ∈ xs := by
  unfold cutL at h
  exact List.mem_of_mem_drop (List.mem_of_mem_take h)
theorem cutL_le {xs : List D} {a b : Option Int} : (cutL xs a b).length ≤ xs.length := by
  unfold cutL
  simp only [List.length_take, List.length_drop]
  omega
theorem fit_cut {a : List Str} {x y : Option Int} {r : Nat} (h : a.length ≤ 1000) : fit (r + 2) (.tup (cutL (a.map D.str) x y)) := ⟨by
  have := cutL_le (xs := a.map D.str) (a := x) (b := y)
  rw [List.length_map] at this
  omega, fun d hd => by
  obtain ⟨s, _, rfl⟩ := List.mem_map.mp (cutL_mem hd)
  trivial⟩
theorem kp_fit {a b : List Str} (h1 : a.length ≤ 60) (h2 : b.length ≤ 60) : ∀ {l : List (Nat × Nat)} {i j : Nat}, (kp (a.map D.str) (b.map D.str) l i j).length ≤ l.length ∧ ∀ d ∈ kp (a.map D.str) (b.map D.str) l i j, fit 4 d
  | [], _, _ => ⟨Nat.le_refl _, fun d hd => by cases hd⟩
  | p :: r, i, j => by
    obtain ⟨q1, q2⟩ := kp_fit (a := a) (b := b) h1 h2 (l := r) (i := p.1 + 1) (j := p.2 + 1)
    rw [kp]
    split
    · refine ⟨by simp only [List.cons_append, List.nil_append, List.length_cons]; omega, fun d hd => ?_⟩
      rcases List.mem_append.mp hd with hd | hd
      · simp only [List.mem_cons, List.not_mem_nil, or_false] at hd
        subst hd
        refine ⟨show 3 ≤ 16777216 by decide, fun y hy => ?_⟩
        simp only [List.mem_cons, List.not_mem_nil, or_false] at hy
        rcases hy with rfl | rfl | rfl
        · trivial
        · exact fit_cut (by omega)
        · exact fit_cut (by omega)
      · exact q2 d hd
    · exact ⟨by rw [List.nil_append, List.length_cons]; omega, fun d hd => q2 d hd⟩
theorem fit_ans {a b : List Str} {i : Nat} (h1 : a.length ≤ 60) (h2 : b.length ≤ 60) : fit 6 (.tup [.str "fine", ansD a b i]) := by
  refine ⟨show 2 ≤ 16777216 by decide, fun y hy => ?_⟩
  simp only [List.mem_cons, List.not_mem_nil, or_false] at hy
  rcases hy with rfl | rfl
  · trivial
  have lw : (shp a b).length ≤ a.length - 0 := wk_len
  match i with
  | 0 => trivial
  | 1 =>
    refine ⟨by rw [List.length_map]; omega, fun d hd => ?_⟩
    obtain ⟨p, _, rfl⟩ := List.mem_map.mp hd
    exact fit_pD
  | 2 =>
    obtain ⟨q1, q2⟩ := kp_fit h1 h2 (l := shp a b ++ [(a.length, b.length)]) (i := 0) (j := 0)
    refine ⟨?_, q2⟩
    simp only [List.length_append, List.length_cons, List.length_nil] at q1
    show (kp _ _ _ _ _).length ≤ _
    omega
  | n + 3 =>
    have hH : Hd a b a.length b.length ≤ a.length := Hd_le
    refine ⟨by rw [List.length_map, List.length_range]; omega, fun d hd => ?_⟩
    obtain ⟨k, _, rfl⟩ := List.mem_map.mp hd
    have ll := lyr_le (a := a) (b := b) (L := cells b.length a.length 0) (k := k)
    rw [cells_len] at ll
    have mm : a.length * b.length ≤ 60 * 60 := Nat.mul_le_mul h1 h2
    refine ⟨by omega, fun y hy => ?_⟩
    unfold lyr at hy
    obtain ⟨p, _, rfl⟩ := List.mem_map.mp hy
    exact fit_pD
theorem w_law_3 {a b : List Str} {s0 s1 s2 s3 s4 : Option D} {M : Mem} {R : KD} {Ex : XC} (la : a.length ≤ 1000) (lb : b.length ≤ 1000) (k : ∀ M', R (.bl true) M') :
    r_law_3 F_law_pool_v1 F_law_draw_v1 F_law_text_v1 F_law_applied F_law_edit_v2 F_law_same_v2 F_law_answer F_law_tails F_law_pairs_v2 F_law_layers F_law_kept_v1 (SD.top R Ex) [s0, s1, s2, s3, s4, some (.tup (a.map D.str)), some (.tup (b.map D.str)), none, none, none, none] M := by
  have la' : (a.map D.str).length = a.length := by simp
  have lb' : (b.map D.str).length = b.length := by simp
  have v2 := @w_answer_no
  unfold r_law_3
  have v1 := @w_same; obtain ⟨Fv1, qv1⟩ := op F_law_same_v2; rw [← qv1] at v1 ⊢; clear qv1
  have v3 := @w_law_tails; obtain ⟨Fv3, qv3⟩ := op F_law_tails; rw [← qv3] at v3 ⊢; clear qv3
  have v4 := @w_law_pairs; obtain ⟨Fv4, qv4⟩ := op F_law_pairs_v2; rw [← qv4] at v4 ⊢; clear qv4
  have v5 := @w_law_layers; obtain ⟨Fv5, qv5⟩ := op F_law_layers; rw [← qv5] at v5 ⊢; clear qv5
  have v6 := @w_law_kept; obtain ⟨Fv6, qv6⟩ := op F_law_kept_v1; rw [← qv6] at v6 ⊢; clear qv6
  have v7 := @w_answer_ok
  obtain ⟨FA, qA⟩ : ∃ F, F = F_law_answer := ⟨_, rfl⟩
  rw [← qA] at v2 v7 ⊢
  clear qA
  generalize F_law_pool_v1 = G1
  generalize F_law_draw_v1 = G2
  generalize F_law_text_v1 = G3
  generalize F_law_edit_v2 = G4
  generalize F_law_applied = G5
  have bad : ¬ (a.length ≤ 60 ∧ b.length ≤ 60) → forL (fun _ => True) (.nm 7) (b_law_1 G1 G2 G3 G5 G4 Fv1 FA Fv3 Fv4 Fv5 Fv6) ((SD.top R Ex).sq (sRet (eC (.bl true)))) (rngD 0 4) [s0, s1, s2, s3, s4, some (.tup (a.map D.str)), some (.tup (b.map D.str)), none, none, none, none] M := by
    intro hn
    refine forL_ix (fun i ρ M' => ∃ x7, ρ = [s0, s1, s2, s3, s4, some (.tup (a.map D.str)), some (.tup (b.map D.str)), x7, none, none, none]) _ (fun _ _ _ _ => trivial) ?_ ?_ _ _ ⟨_, rfl⟩
    · rintro i d ρ M1 Kn hd ⟨x7, rfl⟩ hK
      obtain ⟨hi, rfl⟩ := rngD_get hd
      rw [show (0 : Int) + (i : Nat) = (i : Int) by omega]
      refine ⟨_, rfl, ?_⟩
      refine v2 (by omega) hn fun M2 f2 => ?_
      refine ⟨sz rfl, ?_⟩
      refine v1 rfl (d := .tup [.str "many", .int 60]) ⟨show 2 ≤ 16777216 by decide, fun y hy => by
        simp only [List.mem_cons, List.not_mem_nil, or_false] at hy
        rcases hy with rfl | rfl <;> trivial⟩ ?_
      exact hK _ _ ⟨_, rfl⟩
    · rintro ρ M1 ⟨x7, rfl⟩
      exact k _
  have good : a.length ≤ 60 → b.length ≤ 60 → sSeq (sAsg (eCall Fv3 (aCons (eVar 5) (aCons (eVar 6) aNil))) (.nm 8))
      (sSeq (sAsg (eCall Fv4 (aCons (eVar 5) (aCons (eVar 6) (aCons (eVar 8) aNil)))) (.nm 9))
      (sSeq (sAsg (eLst (aCons (eBin opIx (eBin opIx (eVar 8) (eC (.int 0))) (eC (.int 0))) (aCons (eVar 9) (aCons (eCall Fv6 (aCons (eVar 5) (aCons (eVar 6) (aCons (eVar 9) aNil)))) (aCons (eCall Fv5 (aCons (eVar 5) (aCons (eVar 6) aNil))) aNil))))) (.nm 10))
      (sSeq (sFor (iRange1 (aCons (eC (.int 4)) aNil)) (.nm 7) (b_law_2 G1 G2 G3 G5 G4 Fv1 FA Fv3 Fv4 Fv5 Fv6))
      (sRet (eC (.bl true)))))) (SD.top R Ex) [s0, s1, s2, s3, s4, some (.tup (a.map D.str)), some (.tup (b.map D.str)), none, none, none, none] M := by
    intro h1 h2
    refine v3 (by omega) (by omega) fun M1 n hn t f1 => ?_
    refine v4 h1 h2 t fun M2 f2 => ?_
    have t2 := t.fr f2
    conv => whnf
    rw [lstAt_of t2.2.1]
    conv => whnf
    rw [refs_at (i := 0) (x := 0) (by omega) rfl]
    conv => whnf
    rw [lstAt_of (t2.row (by omega))]
    conv => whnf
    rw [rowI_at (j := 0) (x := 0) (by omega) rfl]
    refine v6 h1 h2 fun M3 f3 => ?_
    refine v5 h1 h2 fun M4 f4 => ?_
    refine ⟨sz rfl, ?_⟩
    refine ⟨by decide, by decide, ?_⟩
    refine forL_ix (fun i ρ M' => (∃ x7, ρ = [s0, s1, s2, s3, s4, some (.tup (a.map D.str)), some (.tup (b.map D.str)), x7, some (.ref n), some (.tup ((shp a b).map pD)), some (.ref M4.length)]) ∧ mlst M' M4.length = some [ansD a b 0, ansD a b 1, ansD a b 2, ansD a b 3]) _ (fun _ _ _ _ => trivial) ?_ ?_ _ _ ⟨⟨_, rfl⟩, mlst_new⟩
    · rintro i d ρ M5 Kn hd ⟨⟨x7, rfl⟩, m5⟩ hK
      obtain ⟨hi, rfl⟩ := rngD_get hd
      have hi : i < 4 := hi
      rw [show (0 : Int) + (i : Nat) = (i : Int) by omega]
      refine ⟨_, rfl, ?_⟩
      refine v7 (by omega) h1 h2 fun M6 f6 => ?_
      have m6 := f6.lst m5
      conv => whnf
      rw [lstAt_of m6]
      have g : atI [ansD a b 0, ansD a b 1, ansD a b 2, ansD a b 3] (i : Int) = some (ansD a b i) := atI_get (j := i) rfl (by
        have hh : i = 0 ∨ i = 1 ∨ i = 2 ∨ i = 3 := by omega
        rcases hh with rfl | rfl | rfl | rfl <;> rfl)
      conv => whnf
      rw [g]
      refine ⟨sz rfl, ?_⟩
      refine v1 rfl (fit_ans h1 h2) ?_
      exact hK _ _ ⟨⟨_, rfl⟩, m6⟩
    · rintro ρ M5 ⟨⟨x7, rfl⟩, m5⟩
      exact k _
  conv => whnf
  rw [la']
  refine bm (fun e1 => ?_) (fun e1 => ?_)
  · have e1 := of_decide_eq_true e1
    refine ⟨by decide, by decide, ?_⟩
    exact bad (by omega)
  · have e1 := of_decide_eq_false e1
    conv => whnf
    rw [lb']
    refine bm (fun e2 => ?_) (fun e2 => ?_)
    · have e2 := of_decide_eq_true e2
      refine ⟨by decide, by decide, ?_⟩
      exact bad (by omega)
    · have e2 := of_decide_eq_false e2
      exact good (by omega) (by omega)
theorem law_true : ∀ ns : List Int, ns.length ≤ 63 → F_law [.con (ns.map D.int)] [] (fun d _ => d = .bl true) fun _ _ => False := by
  intro ns hl
  have r3 := @w_law_3
  unfold F_law t_law r_law_5 r_law_4
  obtain ⟨RR, qR⟩ : ∃ RR, RR = r_law_3 F_law_pool_v1 F_law_draw_v1 F_law_text_v1 F_law_applied F_law_edit_v2 F_law_same_v2 F_law_answer F_law_tails F_law_pairs_v2 F_law_layers F_law_kept_v1 := ⟨_, rfl⟩
  rw [← qR] at r3 ⊢
  clear qR
  have v0 := @w_law_pool; obtain ⟨Fv0, qv0⟩ := op F_law_pool_v1; rw [← qv0] at v0 ⊢; clear qv0
  have v2 := @w_draw; obtain ⟨Fv2, qv2⟩ := op F_law_draw_v1; rw [← qv2] at v2 ⊢; clear qv2
  have v3 := @w_law_text; obtain ⟨Fv3, qv3⟩ := op F_law_text_v1; rw [← qv3] at v3 ⊢; clear qv3
  have v4 := @w_law_edit; obtain ⟨Fv4, qv4⟩ := op F_law_edit_v2; rw [← qv4] at v4 ⊢; clear qv4
  have v5 := @w_law_applied; obtain ⟨Fv5, qv5⟩ := op F_law_applied; rw [← qv5] at v5 ⊢; clear qv5
  refine v0 hl fun M1 n m hn hm p1 f1 => ?_
  refine v2 p1 (by decide) fun c M2 c0 c1 p2 f2 => ?_
  refine v2 p2 (by decide) fun c2 M3 c20 c21 p3 f3 => ?_
  refine v2 p3 (by decide) fun lg M4 lg0 lg1 p4 f4 => ?_
  have fin : ∀ {size other : Int} {t u : List D} {M : Mem}, okt t = true → t.length ≤ 1000 → okt u = true → u.length ≤ 1000 → RR (SD.top (fun d _ => d = .bl true) fun _ _ => False) [some (.con (ns.map D.int)), some (.ref n), some (.int size), some (.int other), some (.int lg), some (.tup t), some (.tup u), none, none, none, none] M := by
    intro size other t u M ht lt hu lu
    obtain ⟨a, rfl⟩ := okt_strs ht
    obtain ⟨b, rfl⟩ := okt_strs hu
    rw [List.length_map] at lt lu
    exact r3 lt lu fun _ => rfl
  have rest : ∀ {size other : Int} {M : Mem}, 0 ≤ size → size ≤ 62 → 0 ≤ other → other ≤ 62 → Pl M n m → sSeq (sAsg (eCall Fv3 (aCons (eVar 1) (aCons (eVar 2) aNil))) (.nm 5))
      (sSeq (sAsg (eCall Fv3 (aCons (eVar 1) (aCons (eVar 3) aNil))) (.nm 6))
      (sSeq (sIf (cOr (cB (eBin opEq (eVar 4) (eC (.int 5)))) (cAnd (cB (eBin opLt (eVar 2) (eC (.int 9)))) (cAnd (cB (eBin opNe (eVar 4) (eC (.int 4)))) (cB (eBin opEq (eCall Fv2 (aCons (eVar 1) (aCons (eC (.int 2)) aNil))) (eC (.int 0))))))) (sAsg (eCall Fv5 (aCons (eCall Fv4 (aCons (eVar 1) (aCons (eVar 5) (aCons (eC (.int 4)) aNil)))) (aCons (eVar 5) aNil))) (.nm 6)) sNop)
      RR)) (SD.top (fun d _ => d = .bl true) fun _ _ => False) [some (.con (ns.map D.int)), some (.ref n), some (.int size), some (.int other), some (.int lg), none, none, none, none, none, none] M := by
    intro size other M s0 s1 o0 o1 p
    refine v3 p s0 (by omega) fun t M5 ht lt p5 f5 => ?_
    refine v3 p5 o0 (by omega) fun u M6 hu lu p6 f6 => ?_
    have ed : ∀ {M : Mem}, Pl M n m → sSeq (sAsg (eCall Fv5 (aCons (eCall Fv4 (aCons (eVar 1) (aCons (eVar 5) (aCons (eC (.int 4)) aNil)))) (aCons (eVar 5) aNil))) (.nm 6)) RR (SD.top (fun d _ => d = .bl true) fun _ _ => False) [some (.con (ns.map D.int)), some (.ref n), some (.int size), some (.int other), some (.int lg), some (.tup t), some (.tup u), none, none, none, none] M := by
      intro M p
      refine v4 p ht (by omega) (by decide) (by decide) fun hs M7 v hgood lhs p7 f7 => ?_
      have lhs : hs.length ≤ 4 := lhs
      have lm : (ap t 0 hs).length ≤ 1000 := by
        have := ap_len (t := t) (B := 5) (hs := hs) (d := 0) fun h hh => (hgood h hh).2.2.1
        have a1 : (hs.length + 1) * t.length ≤ 5 * t.length := Nat.mul_le_mul_right _ (by omega)
        omega
      have tm := ap_okt ht (hs := hs) (d := 0) fun h hh => (hgood h hh).2.1
      refine v5 (fun h hh => by
        obtain ⟨u1, u2, _⟩ := v.mem h hh
        have := h.se
        exact ⟨u1, by omega⟩) (by omega) ?_
      exact fin ht (by omega) tm lm
    conv => whnf
    rw [eqI]
    refine bm (fun e1 => ?_) (fun e1 => ?_)
    · exact ed p6
    · conv => whnf
      refine bm (fun e2 => ?_) (fun e2 => ?_)
      · conv => whnf
        rw [eqI]
        refine bm (fun e3 => ?_) (fun e3 => ?_)
        · refine v2 p6 (by decide) fun c3 M7 c30 c31 p7 f7 => ?_
          conv => whnf
          rw [eqI]
          refine bm (fun e4 => ?_) (fun e4 => ?_)
          · exact ed p7
          · exact fin ht (by omega) hu (by omega)
        · exact fin ht (by omega) hu (by omega)
      · exact fin ht (by omega) hu (by omega)
  have mid : ∀ {size : Int} {M : Mem}, 0 ≤ size → size ≤ 62 → Pl M n m → sSeq (sIf (cB (eBin opEq (eVar 4) (eC (.int 4)))) (sAsg (eBin opAdd (eC (.int 59)) (eCall Fv2 (aCons (eVar 1) (aCons (eC (.int 4)) aNil)))) (.nm 3)) sNop)
      (sSeq (sAsg (eCall Fv3 (aCons (eVar 1) (aCons (eVar 2) aNil))) (.nm 5))
      (sSeq (sAsg (eCall Fv3 (aCons (eVar 1) (aCons (eVar 3) aNil))) (.nm 6))
      (sSeq (sIf (cOr (cB (eBin opEq (eVar 4) (eC (.int 5)))) (cAnd (cB (eBin opLt (eVar 2) (eC (.int 9)))) (cAnd (cB (eBin opNe (eVar 4) (eC (.int 4)))) (cB (eBin opEq (eCall Fv2 (aCons (eVar 1) (aCons (eC (.int 2)) aNil))) (eC (.int 0))))))) (sAsg (eCall Fv5 (aCons (eCall Fv4 (aCons (eVar 1) (aCons (eVar 5) (aCons (eC (.int 4)) aNil)))) (aCons (eVar 5) aNil))) (.nm 6)) sNop)
      RR))) (SD.top (fun d _ => d = .bl true) fun _ _ => False) [some (.con (ns.map D.int)), some (.ref n), some (.int size), some (.int c2), some (.int lg), none, none, none, none, none, none] M := by
    intro size M s0 s1 p
    conv => whnf
    rw [eqI]
    refine bm (fun e1 => ?_) (fun e1 => ?_)
    · refine v2 p (by decide) fun x M5 x0 x1 p5 f5 => ?_
      exact rest s0 s1 (by omega) (by omega) p5
    · exact rest s0 s1 (by omega) (by omega) p
  have big : ∀ {M : Mem}, Pl M n m → sSeq (sAsg (eBin opAdd (eC (.int 59)) (eCall Fv2 (aCons (eVar 1) (aCons (eC (.int 4)) aNil)))) (.nm 2)) (sSeq (sIf (cB (eBin opEq (eVar 4) (eC (.int 4)))) (sAsg (eBin opAdd (eC (.int 59)) (eCall Fv2 (aCons (eVar 1) (aCons (eC (.int 4)) aNil)))) (.nm 3)) sNop)
      (sSeq (sAsg (eCall Fv3 (aCons (eVar 1) (aCons (eVar 2) aNil))) (.nm 5))
      (sSeq (sAsg (eCall Fv3 (aCons (eVar 1) (aCons (eVar 3) aNil))) (.nm 6))
      (sSeq (sIf (cOr (cB (eBin opEq (eVar 4) (eC (.int 5)))) (cAnd (cB (eBin opLt (eVar 2) (eC (.int 9)))) (cAnd (cB (eBin opNe (eVar 4) (eC (.int 4)))) (cB (eBin opEq (eCall Fv2 (aCons (eVar 1) (aCons (eC (.int 2)) aNil))) (eC (.int 0))))))) (sAsg (eCall Fv5 (aCons (eCall Fv4 (aCons (eVar 1) (aCons (eVar 5) (aCons (eC (.int 4)) aNil)))) (aCons (eVar 5) aNil))) (.nm 6)) sNop)
      RR)))) (SD.top (fun d _ => d = .bl true) fun _ _ => False) [some (.con (ns.map D.int)), some (.ref n), some (.int c), some (.int c2), some (.int lg), none, none, none, none, none, none] M := by
    intro M p
    refine v2 p (by decide) fun x M5 x0 x1 p5 f5 => ?_
    exact mid (by omega) (by omega) p5
  conv => whnf
  rw [eqI]
  refine bm (fun e1 => ?_) (fun e1 => ?_)
  · exact big p4
  · conv => whnf
    rw [eqI]
    refine bm (fun e2 => ?_) (fun e2 => ?_)
    · exact big p4
    · exact mid c0 (by omega) p4
end SG

set_option maxHeartbeats 0
namespace SG
open PySem PySem.Spec L2 DN
def topS (i : Nat) : Stmt := PySem.Challenge.pw_signoff_k06_shared_and_diff.main.body.getD i (.Pass ⟨0, 0, 0, 0⟩)
theorem sc_law_draw_v1 : FnScope ["pool", "many", "k"] ["pool", "many"] (defScope (topS 15)) := ⟨rfl, rfl, rfl, by decide +kernel, rfl, by decide +kernel, by decide +kernel⟩
theorem c_law_draw_v1 : cDef [("len", .blt), ("int", .blt)] 0 ["pool", "many", "k"] (topS 15) FL = some (t_law_draw_v1) := by rfl
theorem ge_law_draw_v1 {G : GC} (hx : G.xn = none) (hxf : ∀ n C, G.cm n = some C → XfK G.K C FL) {f : Addr} {fd : FuncData} (F : Fun G.K "_law_draw" "_law_draw" (topS 15) f fd) (hm : G.mg "_law_draw" = some (.ref f)) (b_len : GEok G "len" .blt) (b_int : GEok G "int" .blt) : GEok G "_law_draw" (.fn 1 2 (bodyF 3 (t_law_draw_v1))) :=
  ⟨f, fd, ["pool", "many"], rfl, hm, F.kp, cDef_ok hx hxf (gok_cons b_len (gok_cons b_int gok_nil)) F sc_law_draw_v1 c_law_draw_v1, F.binds fun _ _ _ _ _ _ us hl => match us, hl with | [_, _], _ => rfl⟩
theorem sc_law_pool_v1 : FnScope ["script", "numbers", "seed", "cell", "number", "k", "pool"] ["script"] (defScope (topS 14)) := ⟨rfl, rfl, rfl, by decide +kernel, rfl, by decide +kernel, by decide +kernel⟩
theorem c_law_pool_v1 {F_law_draw_v1 : Fn} : cDef [("_law_draw", .fn 1 2 F_law_draw_v1), ("int", .blt), ("range", .blt)] 1 ["script", "numbers", "seed", "cell", "number", "k", "pool"] (topS 14) FL = some (t_law_pool_v1 F_law_draw_v1) := by rfl
theorem ge_law_pool_v1 {G : GC} (hx : G.xn = none) (hxf : ∀ n C, G.cm n = some C → XfK G.K C FL) {f : Addr} {fd : FuncData} (F : Fun G.K "_law_pool" "_law_pool" (topS 14) f fd) (hm : G.mg "_law_pool" = some (.ref f)) {F_law_draw_v1 : Fn} (g_law_draw_v1 : GEok G "_law_draw" (.fn 1 2 F_law_draw_v1)) (b_int : GEok G "int" .blt) (b_range : GEok G "range" .blt) : GEok G "_law_pool" (.fn 2 1 (bodyF 7 (t_law_pool_v1 F_law_draw_v1))) :=
  ⟨f, fd, ["script"], rfl, hm, F.kp, cDef_ok hx hxf (gok_cons g_law_draw_v1 (gok_cons b_int (gok_cons b_range gok_nil))) F sc_law_pool_v1 c_law_pool_v1, F.binds fun _ _ _ _ _ _ us hl => match us, hl with | [_], _ => rfl⟩
theorem sc_law_signs : FnScope ["signs"] [] (defScope (topS 16)) := ⟨rfl, rfl, rfl, by decide +kernel, rfl, by decide +kernel, by decide +kernel⟩
theorem c_law_signs : cDef [] 0 ["signs"] (topS 16) FL = some (t_law_signs) := by rfl
theorem ge_law_signs {G : GC} (hx : G.xn = none) (hxf : ∀ n C, G.cm n = some C → XfK G.K C FL) {f : Addr} {fd : FuncData} (F : Fun G.K "_law_signs" "_law_signs" (topS 16) f fd) (hm : G.mg "_law_signs" = some (.ref f)) : GEok G "_law_signs" (.fn 1 0 (bodyF 1 (t_law_signs))) :=
  ⟨f, fd, [], rfl, hm, F.kp, cDef_ok hx hxf gok_nil F sc_law_signs c_law_signs, F.binds fun _ _ _ _ _ _ us hl => match us, hl with | [], _ => rfl⟩
theorem sc_law_line_v1 : FnScope ["pool", "signs", "size", "k"] ["pool"] (defScope (topS 17)) := ⟨rfl, rfl, rfl, by decide +kernel, rfl, by decide +kernel, by decide +kernel⟩
theorem c_law_line_v1 {F_law_draw_v1 F_law_signs : Fn} : cDef [("_law_draw", .fn 1 2 F_law_draw_v1), ("_law_signs", .fn 1 0 F_law_signs), ("range", .blt), ("len", .blt)] 1 ["pool", "signs", "size", "k"] (topS 17) FL = some (t_law_line_v1 F_law_draw_v1 F_law_signs) := by rfl
theorem ge_law_line_v1 {G : GC} (hx : G.xn = none) (hxf : ∀ n C, G.cm n = some C → XfK G.K C FL) {f : Addr} {fd : FuncData} (F : Fun G.K "_law_line" "_law_line" (topS 17) f fd) (hm : G.mg "_law_line" = some (.ref f)) {F_law_draw_v1 F_law_signs : Fn} (g_law_draw_v1 : GEok G "_law_draw" (.fn 1 2 F_law_draw_v1)) (g_law_signs : GEok G "_law_signs" (.fn 1 0 F_law_signs)) (b_range : GEok G "range" .blt) (b_len : GEok G "len" .blt) : GEok G "_law_line" (.fn 2 1 (bodyF 4 (t_law_line_v1 F_law_draw_v1 F_law_signs))) :=
  ⟨f, fd, ["pool"], rfl, hm, F.kp, cDef_ok hx hxf (gok_cons g_law_draw_v1 (gok_cons g_law_signs (gok_cons b_range (gok_cons b_len gok_nil)))) F sc_law_line_v1 c_law_line_v1, F.binds fun _ _ _ _ _ _ us hl => match us, hl with | [_], _ => rfl⟩
theorem sc_law_text_v1 : FnScope ["pool", "size", "k"] ["pool", "size"] (defScope (topS 18)) := ⟨rfl, rfl, rfl, by decide +kernel, rfl, by decide +kernel, by decide +kernel⟩
theorem c_law_text_v1 {F_law_line_v1 : Fn} : cDef [("_law_line", .fn 2 1 F_law_line_v1), ("tuple", .blt), ("range", .blt)] 2 ["pool", "size", "k"] (topS 18) FL = some (t_law_text_v1 F_law_line_v1) := by rfl
theorem ge_law_text_v1 {G : GC} (hx : G.xn = none) (hxf : ∀ n C, G.cm n = some C → XfK G.K C FL) {f : Addr} {fd : FuncData} (F : Fun G.K "_law_text" "_law_text" (topS 18) f fd) (hm : G.mg "_law_text" = some (.ref f)) {F_law_line_v1 : Fn} (g_law_line_v1 : GEok G "_law_line" (.fn 2 1 F_law_line_v1)) (b_tuple : GEok G "tuple" .blt) (b_range : GEok G "range" .blt) : GEok G "_law_text" (.fn 3 2 (bodyF 3 (t_law_text_v1 F_law_line_v1))) :=
  ⟨f, fd, ["pool", "size"], rfl, hm, F.kp, cDef_ok hx hxf (gok_cons g_law_line_v1 (gok_cons b_tuple (gok_cons b_range gok_nil))) F sc_law_text_v1 c_law_text_v1, F.binds fun _ _ _ _ _ _ us hl => match us, hl with | [_, _], _ => rfl⟩
theorem sc_law_applied : FnScope ["edit", "text", "new", "done", "hunk"] ["edit", "text"] (defScope (topS 20)) := ⟨rfl, rfl, rfl, by decide +kernel, rfl, by decide +kernel, by decide +kernel⟩
theorem c_law_applied : cDef [("len", .blt)] 0 ["edit", "text", "new", "done", "hunk"] (topS 20) FL = some (t_law_applied) := by rfl
theorem ge_law_applied {G : GC} (hx : G.xn = none) (hxf : ∀ n C, G.cm n = some C → XfK G.K C FL) {f : Addr} {fd : FuncData} (F : Fun G.K "_law_applied" "_law_applied" (topS 20) f fd) (hm : G.mg "_law_applied" = some (.ref f)) (b_len : GEok G "len" .blt) : GEok G "_law_applied" (.fn 1 2 (bodyF 5 (t_law_applied))) :=
  ⟨f, fd, ["edit", "text"], rfl, hm, F.kp, cDef_ok hx hxf (gok_cons b_len gok_nil) F sc_law_applied c_law_applied, F.binds fun _ _ _ _ _ _ us hl => match us, hl with | [_, _], _ => rfl⟩
theorem sc_law_edit_v2 : FnScope ["pool", "text", "most", "hunks", "low", "k", "room", "at", "many", "old", "new"] ["pool", "text", "most"] (defScope (topS 19)) := ⟨rfl, rfl, rfl, by decide +kernel, rfl, by decide +kernel, by decide +kernel⟩
theorem c_law_edit_v2 {F_law_draw_v1 F_law_text_v1 F_law_line_v1 : Fn} : cDef [("_law_draw", .fn 1 2 F_law_draw_v1), ("_law_text", .fn 3 2 F_law_text_v1), ("_law_line", .fn 2 1 F_law_line_v1), ("range", .blt), ("len", .blt), ("min", .blt), ("tuple", .blt)] 3 ["pool", "text", "most", "hunks", "low", "k", "room", "at", "many", "old", "new"] (topS 19) FL = some (t_law_edit_v2 F_law_draw_v1 F_law_text_v1 F_law_line_v1) := by rfl
theorem ge_law_edit_v2 {G : GC} (hx : G.xn = none) (hxf : ∀ n C, G.cm n = some C → XfK G.K C FL) {f : Addr} {fd : FuncData} (F : Fun G.K "_law_edit" "_law_edit" (topS 19) f fd) (hm : G.mg "_law_edit" = some (.ref f)) {F_law_draw_v1 F_law_text_v1 F_law_line_v1 : Fn} (g_law_draw_v1 : GEok G "_law_draw" (.fn 1 2 F_law_draw_v1)) (g_law_text_v1 : GEok G "_law_text" (.fn 3 2 F_law_text_v1)) (g_law_line_v1 : GEok G "_law_line" (.fn 2 1 F_law_line_v1)) (b_range : GEok G "range" .blt) (b_len : GEok G "len" .blt) (b_min : GEok G "min" .blt) (b_tuple : GEok G "tuple" .blt) : GEok G "_law_edit" (.fn 4 3 (bodyF 11 (t_law_edit_v2 F_law_draw_v1 F_law_text_v1 F_law_line_v1))) :=
  ⟨f, fd, ["pool", "text", "most"], rfl, hm, F.kp, cDef_ok hx hxf (gok_cons g_law_draw_v1 (gok_cons g_law_text_v1 (gok_cons g_law_line_v1 (gok_cons b_range (gok_cons b_len (gok_cons b_min (gok_cons b_tuple gok_nil))))))) F sc_law_edit_v2 c_law_edit_v2, F.binds fun _ _ _ _ _ _ us hl => match us, hl with | [_, _, _], _ => rfl⟩
theorem sc_law_same_v2 : FnScope ["told", "due", "k"] ["told", "due"] (defScope (topS 21)) := ⟨rfl, rfl, rfl, by decide +kernel, rfl, by decide +kernel, by decide +kernel⟩
theorem ge_law_same_v2_0 {G : GC} {f : Addr} {fd : FuncData} (F : Fun G.K "_law_same" "_law_same" (topS 21) f fd) (hm : G.mg "_law_same" = some (.ref f)) : GEok G "_law_same" (.fn 0 2 (R_law_same_v2 0)) :=
  ⟨f, fd, ["told", "due"], rfl, hm, F.kp, fn_bot, F.binds fun _ _ _ _ _ _ us hl => match us, hl with | [_, _], _ => rfl⟩
theorem c_law_same_v2_0 {F_law_same_v2 : Fn} : cDef [("_law_same", .fn 0 2 F_law_same_v2), ("isinstance", .blt), ("tuple", .blt), ("len", .blt), ("range", .blt), ("bool", .blt), ("int", .blt), ("str", .blt)] 0 ["told", "due", "k"] (topS 21) FL = some (t_law_same_v2 F_law_same_v2) := by rfl
theorem ge_law_same_v2_1 {G : GC} (hx : G.xn = none) (hxf : ∀ n C, G.cm n = some C → XfK G.K C FL) {f : Addr} {fd : FuncData} (F : Fun G.K "_law_same" "_law_same" (topS 21) f fd) (hm : G.mg "_law_same" = some (.ref f)) (b_isinstance : GEok G "isinstance" .blt) (b_tuple : GEok G "tuple" .blt) (b_len : GEok G "len" .blt) (b_range : GEok G "range" .blt) (b_bool : GEok G "bool" .blt) (b_int : GEok G "int" .blt) (b_str : GEok G "str" .blt) : GEok G "_law_same" (.fn 1 2 (R_law_same_v2 1)) :=
  ⟨f, fd, ["told", "due"], rfl, hm, F.kp, cDef_ok hx hxf (gok_cons (ge_law_same_v2_0 F hm) (gok_cons b_isinstance (gok_cons b_tuple (gok_cons b_len (gok_cons b_range (gok_cons b_bool (gok_cons b_int (gok_cons b_str gok_nil)))))))) F sc_law_same_v2 c_law_same_v2_0, F.binds fun _ _ _ _ _ _ us hl => match us, hl with | [_, _], _ => rfl⟩
theorem c_law_same_v2_1 {F_law_same_v2 : Fn} : cDef [("_law_same", .fn 1 2 F_law_same_v2), ("isinstance", .blt), ("tuple", .blt), ("len", .blt), ("range", .blt), ("bool", .blt), ("int", .blt), ("str", .blt)] 1 ["told", "due", "k"] (topS 21) FL = some (t_law_same_v2 F_law_same_v2) := by rfl
theorem ge_law_same_v2_2 {G : GC} (hx : G.xn = none) (hxf : ∀ n C, G.cm n = some C → XfK G.K C FL) {f : Addr} {fd : FuncData} (F : Fun G.K "_law_same" "_law_same" (topS 21) f fd) (hm : G.mg "_law_same" = some (.ref f)) (b_isinstance : GEok G "isinstance" .blt) (b_tuple : GEok G "tuple" .blt) (b_len : GEok G "len" .blt) (b_range : GEok G "range" .blt) (b_bool : GEok G "bool" .blt) (b_int : GEok G "int" .blt) (b_str : GEok G "str" .blt) : GEok G "_law_same" (.fn 2 2 (R_law_same_v2 2)) :=
  ⟨f, fd, ["told", "due"], rfl, hm, F.kp, cDef_ok hx hxf (gok_cons (ge_law_same_v2_1 hx hxf F hm b_isinstance b_tuple b_len b_range b_bool b_int b_str) (gok_cons b_isinstance (gok_cons b_tuple (gok_cons b_len (gok_cons b_range (gok_cons b_bool (gok_cons b_int (gok_cons b_str gok_nil)))))))) F sc_law_same_v2 c_law_same_v2_1, F.binds fun _ _ _ _ _ _ us hl => match us, hl with | [_, _], _ => rfl⟩
theorem c_law_same_v2_2 {F_law_same_v2 : Fn} : cDef [("_law_same", .fn 2 2 F_law_same_v2), ("isinstance", .blt), ("tuple", .blt), ("len", .blt), ("range", .blt), ("bool", .blt), ("int", .blt), ("str", .blt)] 2 ["told", "due", "k"] (topS 21) FL = some (t_law_same_v2 F_law_same_v2) := by rfl
theorem ge_law_same_v2_3 {G : GC} (hx : G.xn = none) (hxf : ∀ n C, G.cm n = some C → XfK G.K C FL) {f : Addr} {fd : FuncData} (F : Fun G.K "_law_same" "_law_same" (topS 21) f fd) (hm : G.mg "_law_same" = some (.ref f)) (b_isinstance : GEok G "isinstance" .blt) (b_tuple : GEok G "tuple" .blt) (b_len : GEok G "len" .blt) (b_range : GEok G "range" .blt) (b_bool : GEok G "bool" .blt) (b_int : GEok G "int" .blt) (b_str : GEok G "str" .blt) : GEok G "_law_same" (.fn 3 2 (R_law_same_v2 3)) :=
  ⟨f, fd, ["told", "due"], rfl, hm, F.kp, cDef_ok hx hxf (gok_cons (ge_law_same_v2_2 hx hxf F hm b_isinstance b_tuple b_len b_range b_bool b_int b_str) (gok_cons b_isinstance (gok_cons b_tuple (gok_cons b_len (gok_cons b_range (gok_cons b_bool (gok_cons b_int (gok_cons b_str gok_nil)))))))) F sc_law_same_v2 c_law_same_v2_2, F.binds fun _ _ _ _ _ _ us hl => match us, hl with | [_, _], _ => rfl⟩
theorem c_law_same_v2_3 {F_law_same_v2 : Fn} : cDef [("_law_same", .fn 3 2 F_law_same_v2), ("isinstance", .blt), ("tuple", .blt), ("len", .blt), ("range", .blt), ("bool", .blt), ("int", .blt), ("str", .blt)] 3 ["told", "due", "k"] (topS 21) FL = some (t_law_same_v2 F_law_same_v2) := by rfl
theorem ge_law_same_v2_4 {G : GC} (hx : G.xn = none) (hxf : ∀ n C, G.cm n = some C → XfK G.K C FL) {f : Addr} {fd : FuncData} (F : Fun G.K "_law_same" "_law_same" (topS 21) f fd) (hm : G.mg "_law_same" = some (.ref f)) (b_isinstance : GEok G "isinstance" .blt) (b_tuple : GEok G "tuple" .blt) (b_len : GEok G "len" .blt) (b_range : GEok G "range" .blt) (b_bool : GEok G "bool" .blt) (b_int : GEok G "int" .blt) (b_str : GEok G "str" .blt) : GEok G "_law_same" (.fn 4 2 (R_law_same_v2 4)) :=
  ⟨f, fd, ["told", "due"], rfl, hm, F.kp, cDef_ok hx hxf (gok_cons (ge_law_same_v2_3 hx hxf F hm b_isinstance b_tuple b_len b_range b_bool b_int b_str) (gok_cons b_isinstance (gok_cons b_tuple (gok_cons b_len (gok_cons b_range (gok_cons b_bool (gok_cons b_int (gok_cons b_str gok_nil)))))))) F sc_law_same_v2 c_law_same_v2_3, F.binds fun _ _ _ _ _ _ us hl => match us, hl with | [_, _], _ => rfl⟩
theorem c_law_same_v2_4 {F_law_same_v2 : Fn} : cDef [("_law_same", .fn 4 2 F_law_same_v2), ("isinstance", .blt), ("tuple", .blt), ("len", .blt), ("range", .blt), ("bool", .blt), ("int", .blt), ("str", .blt)] 4 ["told", "due", "k"] (topS 21) FL = some (t_law_same_v2 F_law_same_v2) := by rfl
theorem ge_law_same_v2_5 {G : GC} (hx : G.xn = none) (hxf : ∀ n C, G.cm n = some C → XfK G.K C FL) {f : Addr} {fd : FuncData} (F : Fun G.K "_law_same" "_law_same" (topS 21) f fd) (hm : G.mg "_law_same" = some (.ref f)) (b_isinstance : GEok G "isinstance" .blt) (b_tuple : GEok G "tuple" .blt) (b_len : GEok G "len" .blt) (b_range : GEok G "range" .blt) (b_bool : GEok G "bool" .blt) (b_int : GEok G "int" .blt) (b_str : GEok G "str" .blt) : GEok G "_law_same" (.fn 5 2 (R_law_same_v2 5)) :=
  ⟨f, fd, ["told", "due"], rfl, hm, F.kp, cDef_ok hx hxf (gok_cons (ge_law_same_v2_4 hx hxf F hm b_isinstance b_tuple b_len b_range b_bool b_int b_str) (gok_cons b_isinstance (gok_cons b_tuple (gok_cons b_len (gok_cons b_range (gok_cons b_bool (gok_cons b_int (gok_cons b_str gok_nil)))))))) F sc_law_same_v2 c_law_same_v2_4, F.binds fun _ _ _ _ _ _ us hl => match us, hl with | [_, _], _ => rfl⟩
theorem c_law_same_v2_5 {F_law_same_v2 : Fn} : cDef [("_law_same", .fn 5 2 F_law_same_v2), ("isinstance", .blt), ("tuple", .blt), ("len", .blt), ("range", .blt), ("bool", .blt), ("int", .blt), ("str", .blt)] 5 ["told", "due", "k"] (topS 21) FL = some (t_law_same_v2 F_law_same_v2) := by rfl
theorem ge_law_same_v2_6 {G : GC} (hx : G.xn = none) (hxf : ∀ n C, G.cm n = some C → XfK G.K C FL) {f : Addr} {fd : FuncData} (F : Fun G.K "_law_same" "_law_same" (topS 21) f fd) (hm : G.mg "_law_same" = some (.ref f)) (b_isinstance : GEok G "isinstance" .blt) (b_tuple : GEok G "tuple" .blt) (b_len : GEok G "len" .blt) (b_range : GEok G "range" .blt) (b_bool : GEok G "bool" .blt) (b_int : GEok G "int" .blt) (b_str : GEok G "str" .blt) : GEok G "_law_same" (.fn 6 2 (R_law_same_v2 6)) :=
  ⟨f, fd, ["told", "due"], rfl, hm, F.kp, cDef_ok hx hxf (gok_cons (ge_law_same_v2_5 hx hxf F hm b_isinstance b_tuple b_len b_range b_bool b_int b_str) (gok_cons b_isinstance (gok_cons b_tuple (gok_cons b_len (gok_cons b_range (gok_cons b_bool (gok_cons b_int (gok_cons b_str gok_nil)))))))) F sc_law_same_v2 c_law_same_v2_5, F.binds fun _ _ _ _ _ _ us hl => match us, hl with | [_, _], _ => rfl⟩
theorem sc_check_sizes : FnScope ["first", "second"] ["first", "second"] (defScope (topS 6)) := ⟨rfl, rfl, rfl, by decide +kernel, rfl, by decide +kernel, by decide +kernel⟩
theorem c_check_sizes : cDef [("len", .blt), ("TooMany", .exc ["limit"] 1 Tb_TooMany), ("TEXT_MOST", .const C_TEXT_MOST)] 2 ["first", "second"] (topS 6) FL = some (t_check_sizes C_TEXT_MOST) := by rfl
theorem ge_check_sizes {G : GC} (hx : G.xn = none) (hxf : ∀ n C, G.cm n = some C → XfK G.K C FL) {f : Addr} {fd : FuncData} (F : Fun G.K "check_sizes" "check_sizes" (topS 6) f fd) (hm : G.mg "check_sizes" = some (.ref f)) (b_len : GEok G "len" .blt) (x_TooMany : GEok G "TooMany" (.exc ["limit"] 1 Tb_TooMany)) (k_TEXT_MOST : GEok G "TEXT_MOST" (.const C_TEXT_MOST)) : GEok G "check_sizes" (.fn 3 2 (bodyF 2 (t_check_sizes C_TEXT_MOST))) :=
  ⟨f, fd, ["first", "second"], rfl, hm, F.kp, cDef_ok hx hxf (gok_cons b_len (gok_cons x_TooMany (gok_cons k_TEXT_MOST gok_nil))) F sc_check_sizes c_check_sizes, F.binds fun _ _ _ _ _ _ us hl => match us, hl with | [_, _], _ => rfl⟩
theorem sc_tail_table : FnScope ["first", "second", "table", "_", "i", "j"] ["first", "second"] (defScope (topS 7)) := ⟨rfl, rfl, rfl, by decide +kernel, rfl, by decide +kernel, by decide +kernel⟩
theorem c_tail_table : cDef [("range", .blt), ("len", .blt), ("reversed", .blt), ("max", .blt)] 0 ["first", "second", "table", "_", "i", "j"] (topS 7) FL = some (t_tail_table) := by rfl
theorem ge_tail_table {G : GC} (hx : G.xn = none) (hxf : ∀ n C, G.cm n = some C → XfK G.K C FL) {f : Addr} {fd : FuncData} (F : Fun G.K "tail_table" "tail_table" (topS 7) f fd) (hm : G.mg "tail_table" = some (.ref f)) (b_range : GEok G "range" .blt) (b_len : GEok G "len" .blt) (b_reversed : GEok G "reversed" .blt) (b_max : GEok G "max" .blt) : GEok G "tail_table" (.fn 1 2 (bodyF 6 (t_tail_table))) :=
  ⟨f, fd, ["first", "second"], rfl, hm, F.kp, cDef_ok hx hxf (gok_cons b_range (gok_cons b_len (gok_cons b_reversed (gok_cons b_max gok_nil)))) F sc_tail_table c_tail_table, F.binds fun _ _ _ _ _ _ us hl => match us, hl with | [_, _], _ => rfl⟩
theorem sc_shared_lines : FnScope ["first", "second"] ["first", "second"] (defScope (topS 9)) := ⟨rfl, rfl, rfl, by decide +kernel, rfl, by decide +kernel, by decide +kernel⟩
theorem c_shared_lines {F_check_sizes F_tail_table : Fn} : cDef [("check_sizes", .fn 3 2 F_check_sizes), ("tail_table", .fn 1 2 F_tail_table)] 3 ["first", "second"] (topS 9) FL = some (t_shared_lines F_check_sizes F_tail_table) := by rfl
theorem ge_shared_lines {G : GC} (hx : G.xn = none) (hxf : ∀ n C, G.cm n = some C → XfK G.K C FL) {f : Addr} {fd : FuncData} (F : Fun G.K "shared_lines" "shared_lines" (topS 9) f fd) (hm : G.mg "shared_lines" = some (.ref f)) {F_check_sizes F_tail_table : Fn} (g_check_sizes : GEok G "check_sizes" (.fn 3 2 F_check_sizes)) (g_tail_table : GEok G "tail_table" (.fn 1 2 F_tail_table)) : GEok G "shared_lines" (.fn 4 2 (bodyF 2 (t_shared_lines F_check_sizes F_tail_table))) :=
  ⟨f, fd, ["first", "second"], rfl, hm, F.kp, cDef_ok hx hxf (gok_cons g_check_sizes (gok_cons g_tail_table gok_nil)) F sc_shared_lines c_shared_lines, F.binds fun _ _ _ _ _ _ us hl => match us, hl with | [_, _], _ => rfl⟩
theorem sc_shared_pairs : FnScope ["first", "second", "table", "pairs", "i", "j"] ["first", "second"] (defScope (topS 10)) := ⟨rfl, rfl, rfl, by decide +kernel, rfl, by decide +kernel, by decide +kernel⟩
theorem c_shared_pairs {F_check_sizes F_tail_table : Fn} : cDef [("check_sizes", .fn 3 2 F_check_sizes), ("tail_table", .fn 1 2 F_tail_table), ("len", .blt), ("tuple", .blt)] 3 ["first", "second", "table", "pairs", "i", "j"] (topS 10) FL = some (t_shared_pairs F_check_sizes F_tail_table) := by rfl
theorem ge_shared_pairs {G : GC} (hx : G.xn = none) (hxf : ∀ n C, G.cm n = some C → XfK G.K C FL) {f : Addr} {fd : FuncData} (F : Fun G.K "shared_pairs" "shared_pairs" (topS 10) f fd) (hm : G.mg "shared_pairs" = some (.ref f)) {F_check_sizes F_tail_table : Fn} (g_check_sizes : GEok G "check_sizes" (.fn 3 2 F_check_sizes)) (g_tail_table : GEok G "tail_table" (.fn 1 2 F_tail_table)) (b_len : GEok G "len" .blt) (b_tuple : GEok G "tuple" .blt) : GEok G "shared_pairs" (.fn 4 2 (bodyF 6 (t_shared_pairs F_check_sizes F_tail_table))) :=
  ⟨f, fd, ["first", "second"], rfl, hm, F.kp, cDef_ok hx hxf (gok_cons g_check_sizes (gok_cons g_tail_table (gok_cons b_len (gok_cons b_tuple gok_nil)))) F sc_shared_pairs c_shared_pairs, F.binds fun _ _ _ _ _ _ us hl => match us, hl with | [_, _], _ => rfl⟩
theorem sc_diff : FnScope ["first", "second", "hunks", "i", "j", "p", "q"] ["first", "second"] (defScope (topS 11)) := ⟨rfl, rfl, rfl, by decide +kernel, rfl, by decide +kernel, by decide +kernel⟩
theorem c_diff {F_shared_pairs : Fn} : cDef [("shared_pairs", .fn 4 2 F_shared_pairs), ("len", .blt), ("tuple", .blt)] 4 ["first", "second", "hunks", "i", "j", "p", "q"] (topS 11) FL = some (t_diff F_shared_pairs) := by rfl
theorem ge_diff {G : GC} (hx : G.xn = none) (hxf : ∀ n C, G.cm n = some C → XfK G.K C FL) {f : Addr} {fd : FuncData} (F : Fun G.K "diff" "diff" (topS 11) f fd) (hm : G.mg "diff" = some (.ref f)) {F_shared_pairs : Fn} (g_shared_pairs : GEok G "shared_pairs" (.fn 4 2 F_shared_pairs)) (b_len : GEok G "len" .blt) (b_tuple : GEok G "tuple" .blt) : GEok G "diff" (.fn 5 2 (bodyF 7 (t_diff F_shared_pairs))) :=
  ⟨f, fd, ["first", "second"], rfl, hm, F.kp, cDef_ok hx hxf (gok_cons g_shared_pairs (gok_cons b_len (gok_cons b_tuple gok_nil))) F sc_diff c_diff, F.binds fun _ _ _ _ _ _ us hl => match us, hl with | [_, _], _ => rfl⟩
theorem sc_head_table : FnScope ["first", "second", "table", "_", "i", "j"] ["first", "second"] (defScope (topS 8)) := ⟨rfl, rfl, rfl, by decide +kernel, rfl, by decide +kernel, by decide +kernel⟩
theorem c_head_table : cDef [("range", .blt), ("len", .blt), ("max", .blt)] 0 ["first", "second", "table", "_", "i", "j"] (topS 8) FL = some (t_head_table) := by rfl
theorem ge_head_table {G : GC} (hx : G.xn = none) (hxf : ∀ n C, G.cm n = some C → XfK G.K C FL) {f : Addr} {fd : FuncData} (F : Fun G.K "head_table" "head_table" (topS 8) f fd) (hm : G.mg "head_table" = some (.ref f)) (b_range : GEok G "range" .blt) (b_len : GEok G "len" .blt) (b_max : GEok G "max" .blt) : GEok G "head_table" (.fn 1 2 (bodyF 6 (t_head_table))) :=
  ⟨f, fd, ["first", "second"], rfl, hm, F.kp, cDef_ok hx hxf (gok_cons b_range (gok_cons b_len (gok_cons b_max gok_nil))) F sc_head_table c_head_table, F.binds fun _ _ _ _ _ _ us hl => match us, hl with | [_, _], _ => rfl⟩
theorem sc_layers : FnScope ["first", "second", "table", "rows", "_", "i", "j", "row"] ["first", "second"] (defScope (topS 12)) := ⟨rfl, rfl, rfl, by decide +kernel, rfl, by decide +kernel, by decide +kernel⟩
theorem c_layers {F_check_sizes F_head_table : Fn} : cDef [("check_sizes", .fn 3 2 F_check_sizes), ("head_table", .fn 1 2 F_head_table), ("range", .blt), ("len", .blt), ("reversed", .blt), ("tuple", .blt)] 3 ["first", "second", "table", "rows", "_", "i", "j", "row"] (topS 12) FL = some (t_layers F_check_sizes F_head_table) := by rfl
theorem ge_layers {G : GC} (hx : G.xn = none) (hxf : ∀ n C, G.cm n = some C → XfK G.K C FL) {f : Addr} {fd : FuncData} (F : Fun G.K "layers" "layers" (topS 12) f fd) (hm : G.mg "layers" = some (.ref f)) {F_check_sizes F_head_table : Fn} (g_check_sizes : GEok G "check_sizes" (.fn 3 2 F_check_sizes)) (g_head_table : GEok G "head_table" (.fn 1 2 F_head_table)) (b_range : GEok G "range" .blt) (b_len : GEok G "len" .blt) (b_reversed : GEok G "reversed" .blt) (b_tuple : GEok G "tuple" .blt) : GEok G "layers" (.fn 4 2 (bodyF 8 (t_layers F_check_sizes F_head_table))) :=
  ⟨f, fd, ["first", "second"], rfl, hm, F.kp, cDef_ok hx hxf (gok_cons g_check_sizes (gok_cons g_head_table (gok_cons b_range (gok_cons b_len (gok_cons b_reversed (gok_cons b_tuple gok_nil)))))) F sc_layers c_layers, F.binds fun _ _ _ _ _ _ us hl => match us, hl with | [_, _], _ => rfl⟩
theorem sc_law_answer : FnScope ["kind", "a", "b", "e"] ["kind", "a", "b"] (defScope (topS 26)) := ⟨rfl, rfl, rfl, by decide +kernel, rfl, by decide +kernel, by decide +kernel⟩
theorem c_law_answer {F_shared_lines F_shared_pairs F_diff F_layers : Fn} : cDef [("shared_lines", .fn 4 2 F_shared_lines), ("shared_pairs", .fn 4 2 F_shared_pairs), ("diff", .fn 5 2 F_diff), ("layers", .fn 4 2 F_layers), ("isinstance", .blt), ("BadText", .cls Tb_BadText), ("ReviewError", .cls Tb_ReviewError), ("TooMany", .exc ["limit"] 1 Tb_TooMany), ("ValueError", .clsB "ValueError" Tb_ValueError)] 5 ["kind", "a", "b", "e"] (topS 26) FL = some (t_law_answer F_shared_lines F_shared_pairs F_diff F_layers) := by rfl
theorem ge_law_answer {G : GC} (hx : G.xn = none) (hxf : ∀ n C, G.cm n = some C → XfK G.K C FL) {f : Addr} {fd : FuncData} (F : Fun G.K "_law_answer" "_law_answer" (topS 26) f fd) (hm : G.mg "_law_answer" = some (.ref f)) {F_shared_lines F_shared_pairs F_diff F_layers : Fn} (g_shared_lines : GEok G "shared_lines" (.fn 4 2 F_shared_lines)) (g_shared_pairs : GEok G "shared_pairs" (.fn 4 2 F_shared_pairs)) (g_diff : GEok G "diff" (.fn 5 2 F_diff)) (g_layers : GEok G "layers" (.fn 4 2 F_layers)) (b_isinstance : GEok G "isinstance" .blt) (x_BadText : GEok G "BadText" (.cls Tb_BadText)) (x_ReviewError : GEok G "ReviewError" (.cls Tb_ReviewError)) (x_TooMany : GEok G "TooMany" (.exc ["limit"] 1 Tb_TooMany)) (x_ValueError : GEok G "ValueError" (.clsB "ValueError" Tb_ValueError)) : GEok G "_law_answer" (.fn 6 3 (bodyF 4 (t_law_answer F_shared_lines F_shared_pairs F_diff F_layers))) :=
  ⟨f, fd, ["kind", "a", "b"], rfl, hm, F.kp, cDef_ok hx hxf (gok_cons g_shared_lines (gok_cons g_shared_pairs (gok_cons g_diff (gok_cons g_layers (gok_cons b_isinstance (gok_cons x_BadText (gok_cons x_ReviewError (gok_cons x_TooMany (gok_cons x_ValueError gok_nil))))))))) F sc_law_answer c_law_answer, F.binds fun _ _ _ _ _ _ us hl => match us, hl with | [_, _, _], _ => rfl⟩
theorem sc_law_tails : FnScope ["a", "b", "table", "k", "i", "q", "j"] ["a", "b"] (defScope (topS 22)) := ⟨rfl, rfl, rfl, by decide +kernel, rfl, by decide +kernel, by decide +kernel⟩
theorem c_law_tails : cDef [("range", .blt), ("len", .blt), ("max", .blt)] 0 ["a", "b", "table", "k", "i", "q", "j"] (topS 22) FL = some (t_law_tails) := by rfl
theorem ge_law_tails {G : GC} (hx : G.xn = none) (hxf : ∀ n C, G.cm n = some C → XfK G.K C FL) {f : Addr} {fd : FuncData} (F : Fun G.K "_law_tails" "_law_tails" (topS 22) f fd) (hm : G.mg "_law_tails" = some (.ref f)) (b_range : GEok G "range" .blt) (b_len : GEok G "len" .blt) (b_max : GEok G "max" .blt) : GEok G "_law_tails" (.fn 1 2 (bodyF 7 (t_law_tails))) :=
  ⟨f, fd, ["a", "b"], rfl, hm, F.kp, cDef_ok hx hxf (gok_cons b_range (gok_cons b_len (gok_cons b_max gok_nil))) F sc_law_tails c_law_tails, F.binds fun _ _ _ _ _ _ us hl => match us, hl with | [_, _], _ => rfl⟩
theorem sc_law_pairs_v2 : FnScope ["a", "b", "table", "found", "i", "j", "k"] ["a", "b", "table"] (defScope (topS 23)) := ⟨rfl, rfl, rfl, by decide +kernel, rfl, by decide +kernel, by decide +kernel⟩
theorem c_law_pairs_v2 : cDef [("range", .blt), ("len", .blt), ("tuple", .blt)] 0 ["a", "b", "table", "found", "i", "j", "k"] (topS 23) FL = some (t_law_pairs_v2) := by rfl
theorem ge_law_pairs_v2 {G : GC} (hx : G.xn = none) (hxf : ∀ n C, G.cm n = some C → XfK G.K C FL) {f : Addr} {fd : FuncData} (F : Fun G.K "_law_pairs" "_law_pairs" (topS 23) f fd) (hm : G.mg "_law_pairs" = some (.ref f)) (b_range : GEok G "range" .blt) (b_len : GEok G "len" .blt) (b_tuple : GEok G "tuple" .blt) : GEok G "_law_pairs" (.fn 1 3 (bodyF 7 (t_law_pairs_v2))) :=
  ⟨f, fd, ["a", "b", "table"], rfl, hm, F.kp, cDef_ok hx hxf (gok_cons b_range (gok_cons b_len (gok_cons b_tuple gok_nil))) F sc_law_pairs_v2 c_law_pairs_v2, F.binds fun _ _ _ _ _ _ us hl => match us, hl with | [_, _, _], _ => rfl⟩
theorem sc_law_layers : FnScope ["a", "b", "back", "found", "k", "i", "q", "j", "row"] ["a", "b"] (defScope (topS 25)) := ⟨rfl, rfl, rfl, by decide +kernel, rfl, by decide +kernel, by decide +kernel⟩
theorem c_law_layers {F_law_tails : Fn} : cDef [("_law_tails", .fn 1 2 F_law_tails), ("range", .blt), ("len", .blt), ("tuple", .blt)] 1 ["a", "b", "back", "found", "k", "i", "q", "j", "row"] (topS 25) FL = some (t_law_layers F_law_tails) := by rfl
theorem ge_law_layers {G : GC} (hx : G.xn = none) (hxf : ∀ n C, G.cm n = some C → XfK G.K C FL) {f : Addr} {fd : FuncData} (F : Fun G.K "_law_layers" "_law_layers" (topS 25) f fd) (hm : G.mg "_law_layers" = some (.ref f)) {F_law_tails : Fn} (g_law_tails : GEok G "_law_tails" (.fn 1 2 F_law_tails)) (b_range : GEok G "range" .blt) (b_len : GEok G "len" .blt) (b_tuple : GEok G "tuple" .blt) : GEok G "_law_layers" (.fn 2 2 (bodyF 9 (t_law_layers F_law_tails))) :=
  ⟨f, fd, ["a", "b"], rfl, hm, F.kp, cDef_ok hx hxf (gok_cons g_law_tails (gok_cons b_range (gok_cons b_len (gok_cons b_tuple gok_nil)))) F sc_law_layers c_law_layers, F.binds fun _ _ _ _ _ _ us hl => match us, hl with | [_, _], _ => rfl⟩
theorem sc_law_kept_v1 : FnScope ["a", "b", "kept", "hunks", "i", "j", "pair"] ["a", "b", "kept"] (defScope (topS 24)) := ⟨rfl, rfl, rfl, by decide +kernel, rfl, by decide +kernel, by decide +kernel⟩
theorem c_law_kept_v1 : cDef [("len", .blt), ("tuple", .blt)] 0 ["a", "b", "kept", "hunks", "i", "j", "pair"] (topS 24) FL = some (t_law_kept_v1) := by rfl
theorem ge_law_kept_v1 {G : GC} (hx : G.xn = none) (hxf : ∀ n C, G.cm n = some C → XfK G.K C FL) {f : Addr} {fd : FuncData} (F : Fun G.K "_law_kept" "_law_kept" (topS 24) f fd) (hm : G.mg "_law_kept" = some (.ref f)) (b_len : GEok G "len" .blt) (b_tuple : GEok G "tuple" .blt) : GEok G "_law_kept" (.fn 1 3 (bodyF 7 (t_law_kept_v1))) :=
  ⟨f, fd, ["a", "b", "kept"], rfl, hm, F.kp, cDef_ok hx hxf (gok_cons b_len (gok_cons b_tuple gok_nil)) F sc_law_kept_v1 c_law_kept_v1, F.binds fun _ _ _ _ _ _ us hl => match us, hl with | [_, _, _], _ => rfl⟩
theorem sc_law : FnScope ["script", "pool", "size", "other", "large", "a", "b", "kind", "table", "kept", "due"] ["script"] (defScope (topS 27)) := ⟨rfl, rfl, rfl, by decide +kernel, rfl, by decide +kernel, by decide +kernel⟩
theorem c_law {F_law_pool_v1 F_law_draw_v1 F_law_text_v1 F_law_applied F_law_edit_v2 F_law_same_v2 F_law_answer F_law_tails F_law_pairs_v2 F_law_layers F_law_kept_v1 : Fn} : cDef [("_law_pool", .fn 2 1 F_law_pool_v1), ("_law_draw", .fn 1 2 F_law_draw_v1), ("_law_text", .fn 3 2 F_law_text_v1), ("_law_applied", .fn 1 2 F_law_applied), ("_law_edit", .fn 4 3 F_law_edit_v2), ("_law_same", .fn 6 2 F_law_same_v2), ("_law_answer", .fn 6 3 F_law_answer), ("_law_tails", .fn 1 2 F_law_tails), ("_law_pairs", .fn 1 3 F_law_pairs_v2), ("_law_layers", .fn 2 2 F_law_layers), ("_law_kept", .fn 1 3 F_law_kept_v1), ("len", .blt), ("range", .blt)] 6 ["script", "pool", "size", "other", "large", "a", "b", "kind", "table", "kept", "due"] (topS 27) FL = some (t_law F_law_pool_v1 F_law_draw_v1 F_law_text_v1 F_law_applied F_law_edit_v2 F_law_same_v2 F_law_answer F_law_tails F_law_pairs_v2 F_law_layers F_law_kept_v1) := by rfl
theorem ge_law {G : GC} (hx : G.xn = none) (hxf : ∀ n C, G.cm n = some C → XfK G.K C FL) {f : Addr} {fd : FuncData} (F : Fun G.K "law" "law" (topS 27) f fd) (hm : G.mg "law" = some (.ref f)) {F_law_pool_v1 F_law_draw_v1 F_law_text_v1 F_law_applied F_law_edit_v2 F_law_same_v2 F_law_answer F_law_tails F_law_pairs_v2 F_law_layers F_law_kept_v1 : Fn} (g_law_pool_v1 : GEok G "_law_pool" (.fn 2 1 F_law_pool_v1)) (g_law_draw_v1 : GEok G "_law_draw" (.fn 1 2 F_law_draw_v1)) (g_law_text_v1 : GEok G "_law_text" (.fn 3 2 F_law_text_v1)) (g_law_applied : GEok G "_law_applied" (.fn 1 2 F_law_applied)) (g_law_edit_v2 : GEok G "_law_edit" (.fn 4 3 F_law_edit_v2)) (g_law_same_v2 : GEok G "_law_same" (.fn 6 2 F_law_same_v2)) (g_law_answer : GEok G "_law_answer" (.fn 6 3 F_law_answer)) (g_law_tails : GEok G "_law_tails" (.fn 1 2 F_law_tails)) (g_law_pairs_v2 : GEok G "_law_pairs" (.fn 1 3 F_law_pairs_v2)) (g_law_layers : GEok G "_law_layers" (.fn 2 2 F_law_layers)) (g_law_kept_v1 : GEok G "_law_kept" (.fn 1 3 F_law_kept_v1)) (b_len : GEok G "len" .blt) (b_range : GEok G "range" .blt) : GEok G "law" (.fn 7 1 (bodyF 11 (t_law F_law_pool_v1 F_law_draw_v1 F_law_text_v1 F_law_applied F_law_edit_v2 F_law_same_v2 F_law_answer F_law_tails F_law_pairs_v2 F_law_layers F_law_kept_v1))) :=
  ⟨f, fd, ["script"], rfl, hm, F.kp, cDef_ok hx hxf (gok_cons g_law_pool_v1 (gok_cons g_law_draw_v1 (gok_cons g_law_text_v1 (gok_cons g_law_applied (gok_cons g_law_edit_v2 (gok_cons g_law_same_v2 (gok_cons g_law_answer (gok_cons g_law_tails (gok_cons g_law_pairs_v2 (gok_cons g_law_layers (gok_cons g_law_kept_v1 (gok_cons b_len (gok_cons b_range gok_nil))))))))))))) F sc_law c_law, F.binds fun _ _ _ _ _ _ us hl => match us, hl with | [_], _ => rfl⟩
theorem it_TooMany : InitT (topS 3) "self" ["limit"] :=
  ⟨by rfl, by rfl, by rfl, by rfl, by rfl, by decide +kernel, by decide +kernel, by decide +kernel, by decide +kernel, by simp, by decide,
    ⟨_, _, _, _, _, _, _, _, _, _, (.cons .nil), rfl, fun qual cc c f L => rfl⟩, fun qual doc pm ctv cc c us hl => match us, hl with | [_, _], _ => rfl⟩
end SG

set_option maxHeartbeats 0
namespace SG
open PySem PySem.Spec L2 DN
theorem all_mk {w : World} {K : PySem.W.Frag} {h : Heap} {mg : Str → Option Value} {fa : Addr} (X : K.In h) (G : h.Ns mainGlobals mg) (hfa : mg "law" = some (.ref fa))
    {p_law_draw_v1 : Addr} {od_law_draw_v1 an_law_draw_v1 : Option Addr} {sl_law_draw_v1 : Array (Option Value)} {oc_law_draw_v1 kV_law_draw_v1 dc_law_draw_v1 pm_law_draw_v1 cd_law_draw_v1 ct_law_draw_v1 : Value}
    (a_law_draw_v1 : PySem.W.nsIn K mainGlobals "_law_draw" = some (some (.ref p_law_draw_v1))) (l_law_draw_v1 : K.lookup p_law_draw_v1 = some ⟨oc_law_draw_v1, od_law_draw_v1, .func (PySem.W.fnOf "_law_draw" "_law_draw" (defArgs (topS 15)) (defBody (topS 15)) (defScope (topS 15)) .none kV_law_draw_v1 dc_law_draw_v1 pm_law_draw_v1 an_law_draw_v1 cd_law_draw_v1 ct_law_draw_v1), sl_law_draw_v1⟩) (d_law_draw_v1 : PySem.W.codeIn K cd_law_draw_v1 "_law_draw" = true) (k_law_draw_v1 : PySem.W.keepIn K (.ref p_law_draw_v1) = true)
    {p_law_pool_v1 : Addr} {od_law_pool_v1 an_law_pool_v1 : Option Addr} {sl_law_pool_v1 : Array (Option Value)} {oc_law_pool_v1 kV_law_pool_v1 dc_law_pool_v1 pm_law_pool_v1 cd_law_pool_v1 ct_law_pool_v1 : Value}
    (a_law_pool_v1 : PySem.W.nsIn K mainGlobals "_law_pool" = some (some (.ref p_law_pool_v1))) (l_law_pool_v1 : K.lookup p_law_pool_v1 = some ⟨oc_law_pool_v1, od_law_pool_v1, .func (PySem.W.fnOf "_law_pool" "_law_pool" (defArgs (topS 14)) (defBody (topS 14)) (defScope (topS 14)) .none kV_law_pool_v1 dc_law_pool_v1 pm_law_pool_v1 an_law_pool_v1 cd_law_pool_v1 ct_law_pool_v1), sl_law_pool_v1⟩) (d_law_pool_v1 : PySem.W.codeIn K cd_law_pool_v1 "_law_pool" = true) (k_law_pool_v1 : PySem.W.keepIn K (.ref p_law_pool_v1) = true)
    {p_law_signs : Addr} {od_law_signs an_law_signs : Option Addr} {sl_law_signs : Array (Option Value)} {oc_law_signs kV_law_signs dc_law_signs pm_law_signs cd_law_signs ct_law_signs : Value}
    (a_law_signs : PySem.W.nsIn K mainGlobals "_law_signs" = some (some (.ref p_law_signs))) (l_law_signs : K.lookup p_law_signs = some ⟨oc_law_signs, od_law_signs, .func (PySem.W.fnOf "_law_signs" "_law_signs" (defArgs (topS 16)) (defBody (topS 16)) (defScope (topS 16)) .none kV_law_signs dc_law_signs pm_law_signs an_law_signs cd_law_signs ct_law_signs), sl_law_signs⟩) (d_law_signs : PySem.W.codeIn K cd_law_signs "_law_signs" = true) (k_law_signs : PySem.W.keepIn K (.ref p_law_signs) = true)
    {p_law_line_v1 : Addr} {od_law_line_v1 an_law_line_v1 : Option Addr} {sl_law_line_v1 : Array (Option Value)} {oc_law_line_v1 kV_law_line_v1 dc_law_line_v1 pm_law_line_v1 cd_law_line_v1 ct_law_line_v1 : Value}
    (a_law_line_v1 : PySem.W.nsIn K mainGlobals "_law_line" = some (some (.ref p_law_line_v1))) (l_law_line_v1 : K.lookup p_law_line_v1 = some ⟨oc_law_line_v1, od_law_line_v1, .func (PySem.W.fnOf "_law_line" "_law_line" (defArgs (topS 17)) (defBody (topS 17)) (defScope (topS 17)) .none kV_law_line_v1 dc_law_line_v1 pm_law_line_v1 an_law_line_v1 cd_law_line_v1 ct_law_line_v1), sl_law_line_v1⟩) (d_law_line_v1 : PySem.W.codeIn K cd_law_line_v1 "_law_line" = true) (k_law_line_v1 : PySem.W.keepIn K (.ref p_law_line_v1) = true)
    {p_law_text_v1 : Addr} {od_law_text_v1 an_law_text_v1 : Option Addr} {sl_law_text_v1 : Array (Option Value)} {oc_law_text_v1 kV_law_text_v1 dc_law_text_v1 pm_law_text_v1 cd_law_text_v1 ct_law_text_v1 : Value}
    (a_law_text_v1 : PySem.W.nsIn K mainGlobals "_law_text" = some (some (.ref p_law_text_v1))) (l_law_text_v1 : K.lookup p_law_text_v1 = some ⟨oc_law_text_v1, od_law_text_v1, .func (PySem.W.fnOf "_law_text" "_law_text" (defArgs (topS 18)) (defBody (topS 18)) (defScope (topS 18)) .none kV_law_text_v1 dc_law_text_v1 pm_law_text_v1 an_law_text_v1 cd_law_text_v1 ct_law_text_v1), sl_law_text_v1⟩) (d_law_text_v1 : PySem.W.codeIn K cd_law_text_v1 "_law_text" = true) (k_law_text_v1 : PySem.W.keepIn K (.ref p_law_text_v1) = true)
    {p_law_applied : Addr} {od_law_applied an_law_applied : Option Addr} {sl_law_applied : Array (Option Value)} {oc_law_applied kV_law_applied dc_law_applied pm_law_applied cd_law_applied ct_law_applied : Value}
    (a_law_applied : PySem.W.nsIn K mainGlobals "_law_applied" = some (some (.ref p_law_applied))) (l_law_applied : K.lookup p_law_applied = some ⟨oc_law_applied, od_law_applied, .func (PySem.W.fnOf "_law_applied" "_law_applied" (defArgs (topS 20)) (defBody (topS 20)) (defScope (topS 20)) .none kV_law_applied dc_law_applied pm_law_applied an_law_applied cd_law_applied ct_law_applied), sl_law_applied⟩) (d_law_applied : PySem.W.codeIn K cd_law_applied "_law_applied" = true) (k_law_applied : PySem.W.keepIn K (.ref p_law_applied) = true)
    {p_law_edit_v2 : Addr} {od_law_edit_v2 an_law_edit_v2 : Option Addr} {sl_law_edit_v2 : Array (Option Value)} {oc_law_edit_v2 kV_law_edit_v2 dc_law_edit_v2 pm_law_edit_v2 cd_law_edit_v2 ct_law_edit_v2 : Value}
    (a_law_edit_v2 : PySem.W.nsIn K mainGlobals "_law_edit" = some (some (.ref p_law_edit_v2))) (l_law_edit_v2 : K.lookup p_law_edit_v2 = some ⟨oc_law_edit_v2, od_law_edit_v2, .func (PySem.W.fnOf "_law_edit" "_law_edit" (defArgs (topS 19)) (defBody (topS 19)) (defScope (topS 19)) .none kV_law_edit_v2 dc_law_edit_v2 pm_law_edit_v2 an_law_edit_v2 cd_law_edit_v2 ct_law_edit_v2), sl_law_edit_v2⟩) (d_law_edit_v2 : PySem.W.codeIn K cd_law_edit_v2 "_law_edit" = true) (k_law_edit_v2 : PySem.W.keepIn K (.ref p_law_edit_v2) = true)
    {p_law_same_v2 : Addr} {od_law_same_v2 an_law_same_v2 : Option Addr} {sl_law_same_v2 : Array (Option Value)} {oc_law_same_v2 kV_law_same_v2 dc_law_same_v2 pm_law_same_v2 cd_law_same_v2 ct_law_same_v2 : Value}
    (a_law_same_v2 : PySem.W.nsIn K mainGlobals "_law_same" = some (some (.ref p_law_same_v2))) (l_law_same_v2 : K.lookup p_law_same_v2 = some ⟨oc_law_same_v2, od_law_same_v2, .func (PySem.W.fnOf "_law_same" "_law_same" (defArgs (topS 21)) (defBody (topS 21)) (defScope (topS 21)) .none kV_law_same_v2 dc_law_same_v2 pm_law_same_v2 an_law_same_v2 cd_law_same_v2 ct_law_same_v2), sl_law_same_v2⟩) (d_law_same_v2 : PySem.W.codeIn K cd_law_same_v2 "_law_same" = true) (k_law_same_v2 : PySem.W.keepIn K (.ref p_law_same_v2) = true)
    {p_check_sizes : Addr} {od_check_sizes an_check_sizes : Option Addr} {sl_check_sizes : Array (Option Value)} {oc_check_sizes kV_check_sizes dc_check_sizes pm_check_sizes cd_check_sizes ct_check_sizes : Value}
    (a_check_sizes : PySem.W.nsIn K mainGlobals "check_sizes" = some (some (.ref p_check_sizes))) (l_check_sizes : K.lookup p_check_sizes = some ⟨oc_check_sizes, od_check_sizes, .func (PySem.W.fnOf "check_sizes" "check_sizes" (defArgs (topS 6)) (defBody (topS 6)) (defScope (topS 6)) .none kV_check_sizes dc_check_sizes pm_check_sizes an_check_sizes cd_check_sizes ct_check_sizes), sl_check_sizes⟩) (d_check_sizes : PySem.W.codeIn K cd_check_sizes "check_sizes" = true) (k_check_sizes : PySem.W.keepIn K (.ref p_check_sizes) = true)
    {p_tail_table : Addr} {od_tail_table an_tail_table : Option Addr} {sl_tail_table : Array (Option Value)} {oc_tail_table kV_tail_table dc_tail_table pm_tail_table cd_tail_table ct_tail_table : Value}
    (a_tail_table : PySem.W.nsIn K mainGlobals "tail_table" = some (some (.ref p_tail_table))) (l_tail_table : K.lookup p_tail_table = some ⟨oc_tail_table, od_tail_table, .func (PySem.W.fnOf "tail_table" "tail_table" (defArgs (topS 7)) (defBody (topS 7)) (defScope (topS 7)) .none kV_tail_table dc_tail_table pm_tail_table an_tail_table cd_tail_table ct_tail_table), sl_tail_table⟩) (d_tail_table : PySem.W.codeIn K cd_tail_table "tail_table" = true) (k_tail_table : PySem.W.keepIn K (.ref p_tail_table) = true)
    {p_shared_lines : Addr} {od_shared_lines an_shared_lines : Option Addr} {sl_shared_lines : Array (Option Value)} {oc_shared_lines kV_shared_lines dc_shared_lines pm_shared_lines cd_shared_lines ct_shared_lines : Value}
    (a_shared_lines : PySem.W.nsIn K mainGlobals "shared_lines" = some (some (.ref p_shared_lines))) (l_shared_lines : K.lookup p_shared_lines = some ⟨oc_shared_lines, od_shared_lines, .func (PySem.W.fnOf "shared_lines" "shared_lines" (defArgs (topS 9)) (defBody (topS 9)) (defScope (topS 9)) .none kV_shared_lines dc_shared_lines pm_shared_lines an_shared_lines cd_shared_lines ct_shared_lines), sl_shared_lines⟩) (d_shared_lines : PySem.W.codeIn K cd_shared_lines "shared_lines" = true) (k_shared_lines : PySem.W.keepIn K (.ref p_shared_lines) = true)
    {p_shared_pairs : Addr} {od_shared_pairs an_shared_pairs : Option Addr} {sl_shared_pairs : Array (Option Value)} {oc_shared_pairs kV_shared_pairs dc_shared_pairs pm_shared_pairs cd_shared_pairs ct_shared_pairs : Value}
    (a_shared_pairs : PySem.W.nsIn K mainGlobals "shared_pairs" = some (some (.ref p_shared_pairs))) (l_shared_pairs : K.lookup p_shared_pairs = some ⟨oc_shared_pairs, od_shared_pairs, .func (PySem.W.fnOf "shared_pairs" "shared_pairs" (defArgs (topS 10)) (defBody (topS 10)) (defScope (topS 10)) .none kV_shared_pairs dc_shared_pairs pm_shared_pairs an_shared_pairs cd_shared_pairs ct_shared_pairs), sl_shared_pairs⟩) (d_shared_pairs : PySem.W.codeIn K cd_shared_pairs "shared_pairs" = true) (k_shared_pairs : PySem.W.keepIn K (.ref p_shared_pairs) = true)
    {p_diff : Addr} {od_diff an_diff : Option Addr} {sl_diff : Array (Option Value)} {oc_diff kV_diff dc_diff pm_diff cd_diff ct_diff : Value}
    (a_diff : PySem.W.nsIn K mainGlobals "diff" = some (some (.ref p_diff))) (l_diff : K.lookup p_diff = some ⟨oc_diff, od_diff, .func (PySem.W.fnOf "diff" "diff" (defArgs (topS 11)) (defBody (topS 11)) (defScope (topS 11)) .none kV_diff dc_diff pm_diff an_diff cd_diff ct_diff), sl_diff⟩) (d_diff : PySem.W.codeIn K cd_diff "diff" = true) (k_diff : PySem.W.keepIn K (.ref p_diff) = true)
    {p_head_table : Addr} {od_head_table an_head_table : Option Addr} {sl_head_table : Array (Option Value)} {oc_head_table kV_head_table dc_head_table pm_head_table cd_head_table ct_head_table : Value}
    (a_head_table : PySem.W.nsIn K mainGlobals "head_table" = some (some (.ref p_head_table))) (l_head_table : K.lookup p_head_table = some ⟨oc_head_table, od_head_table, .func (PySem.W.fnOf "head_table" "head_table" (defArgs (topS 8)) (defBody (topS 8)) (defScope (topS 8)) .none kV_head_table dc_head_table pm_head_table an_head_table cd_head_table ct_head_table), sl_head_table⟩) (d_head_table : PySem.W.codeIn K cd_head_table "head_table" = true) (k_head_table : PySem.W.keepIn K (.ref p_head_table) = true)
    {p_layers : Addr} {od_layers an_layers : Option Addr} {sl_layers : Array (Option Value)} {oc_layers kV_layers dc_layers pm_layers cd_layers ct_layers : Value}
    (a_layers : PySem.W.nsIn K mainGlobals "layers" = some (some (.ref p_layers))) (l_layers : K.lookup p_layers = some ⟨oc_layers, od_layers, .func (PySem.W.fnOf "layers" "layers" (defArgs (topS 12)) (defBody (topS 12)) (defScope (topS 12)) .none kV_layers dc_layers pm_layers an_layers cd_layers ct_layers), sl_layers⟩) (d_layers : PySem.W.codeIn K cd_layers "layers" = true) (k_layers : PySem.W.keepIn K (.ref p_layers) = true)
    {p_law_answer : Addr} {od_law_answer an_law_answer : Option Addr} {sl_law_answer : Array (Option Value)} {oc_law_answer kV_law_answer dc_law_answer pm_law_answer cd_law_answer ct_law_answer : Value}
    (a_law_answer : PySem.W.nsIn K mainGlobals "_law_answer" = some (some (.ref p_law_answer))) (l_law_answer : K.lookup p_law_answer = some ⟨oc_law_answer, od_law_answer, .func (PySem.W.fnOf "_law_answer" "_law_answer" (defArgs (topS 26)) (defBody (topS 26)) (defScope (topS 26)) .none kV_law_answer dc_law_answer pm_law_answer an_law_answer cd_law_answer ct_law_answer), sl_law_answer⟩) (d_law_answer : PySem.W.codeIn K cd_law_answer "_law_answer" = true) (k_law_answer : PySem.W.keepIn K (.ref p_law_answer) = true)
    {p_law_tails : Addr} {od_law_tails an_law_tails : Option Addr} {sl_law_tails : Array (Option Value)} {oc_law_tails kV_law_tails dc_law_tails pm_law_tails cd_law_tails ct_law_tails : Value}
    (a_law_tails : PySem.W.nsIn K mainGlobals "_law_tails" = some (some (.ref p_law_tails))) (l_law_tails : K.lookup p_law_tails = some ⟨oc_law_tails, od_law_tails, .func (PySem.W.fnOf "_law_tails" "_law_tails" (defArgs (topS 22)) (defBody (topS 22)) (defScope (topS 22)) .none kV_law_tails dc_law_tails pm_law_tails an_law_tails cd_law_tails ct_law_tails), sl_law_tails⟩) (d_law_tails : PySem.W.codeIn K cd_law_tails "_law_tails" = true) (k_law_tails : PySem.W.keepIn K (.ref p_law_tails) = true)
    {p_law_pairs_v2 : Addr} {od_law_pairs_v2 an_law_pairs_v2 : Option Addr} {sl_law_pairs_v2 : Array (Option Value)} {oc_law_pairs_v2 kV_law_pairs_v2 dc_law_pairs_v2 pm_law_pairs_v2 cd_law_pairs_v2 ct_law_pairs_v2 : Value}
    (a_law_pairs_v2 : PySem.W.nsIn K mainGlobals "_law_pairs" = some (some (.ref p_law_pairs_v2))) (l_law_pairs_v2 : K.lookup p_law_pairs_v2 = some ⟨oc_law_pairs_v2, od_law_pairs_v2, .func (PySem.W.fnOf "_law_pairs" "_law_pairs" (defArgs (topS 23)) (defBody (topS 23)) (defScope (topS 23)) .none kV_law_pairs_v2 dc_law_pairs_v2 pm_law_pairs_v2 an_law_pairs_v2 cd_law_pairs_v2 ct_law_pairs_v2), sl_law_pairs_v2⟩) (d_law_pairs_v2 : PySem.W.codeIn K cd_law_pairs_v2 "_law_pairs" = true) (k_law_pairs_v2 : PySem.W.keepIn K (.ref p_law_pairs_v2) = true)
    {p_law_layers : Addr} {od_law_layers an_law_layers : Option Addr} {sl_law_layers : Array (Option Value)} {oc_law_layers kV_law_layers dc_law_layers pm_law_layers cd_law_layers ct_law_layers : Value}
    (a_law_layers : PySem.W.nsIn K mainGlobals "_law_layers" = some (some (.ref p_law_layers))) (l_law_layers : K.lookup p_law_layers = some ⟨oc_law_layers, od_law_layers, .func (PySem.W.fnOf "_law_layers" "_law_layers" (defArgs (topS 25)) (defBody (topS 25)) (defScope (topS 25)) .none kV_law_layers dc_law_layers pm_law_layers an_law_layers cd_law_layers ct_law_layers), sl_law_layers⟩) (d_law_layers : PySem.W.codeIn K cd_law_layers "_law_layers" = true) (k_law_layers : PySem.W.keepIn K (.ref p_law_layers) = true)
    {p_law_kept_v1 : Addr} {od_law_kept_v1 an_law_kept_v1 : Option Addr} {sl_law_kept_v1 : Array (Option Value)} {oc_law_kept_v1 kV_law_kept_v1 dc_law_kept_v1 pm_law_kept_v1 cd_law_kept_v1 ct_law_kept_v1 : Value}
    (a_law_kept_v1 : PySem.W.nsIn K mainGlobals "_law_kept" = some (some (.ref p_law_kept_v1))) (l_law_kept_v1 : K.lookup p_law_kept_v1 = some ⟨oc_law_kept_v1, od_law_kept_v1, .func (PySem.W.fnOf "_law_kept" "_law_kept" (defArgs (topS 24)) (defBody (topS 24)) (defScope (topS 24)) .none kV_law_kept_v1 dc_law_kept_v1 pm_law_kept_v1 an_law_kept_v1 cd_law_kept_v1 ct_law_kept_v1), sl_law_kept_v1⟩) (d_law_kept_v1 : PySem.W.codeIn K cd_law_kept_v1 "_law_kept" = true) (k_law_kept_v1 : PySem.W.keepIn K (.ref p_law_kept_v1) = true)
    {p_law : Addr} {od_law an_law : Option Addr} {sl_law : Array (Option Value)} {oc_law kV_law dc_law pm_law cd_law ct_law : Value}
    (a_law : PySem.W.nsIn K mainGlobals "law" = some (some (.ref p_law))) (l_law : K.lookup p_law = some ⟨oc_law, od_law, .func (PySem.W.fnOf "law" "law" (defArgs (topS 27)) (defBody (topS 27)) (defScope (topS 27)) .none kV_law dc_law pm_law an_law cd_law ct_law), sl_law⟩) (d_law : PySem.W.codeIn K cd_law "law" = true) (k_law : PySem.W.keepIn K (.ref p_law) = true)
    (z_len : PySem.W.nsIn K mainGlobals "len" = some none)
    (z_int : PySem.W.nsIn K mainGlobals "int" = some none)
    (z_range : PySem.W.nsIn K mainGlobals "range" = some none)
    (z_tuple : PySem.W.nsIn K mainGlobals "tuple" = some none)
    (z_min : PySem.W.nsIn K mainGlobals "min" = some none)
    (z_isinstance : PySem.W.nsIn K mainGlobals "isinstance" = some none)
    (z_bool : PySem.W.nsIn K mainGlobals "bool" = some none)
    (z_str : PySem.W.nsIn K mainGlobals "str" = some none)
    (z_reversed : PySem.W.nsIn K mainGlobals "reversed" = some none)
    (z_max : PySem.W.nsIn K mainGlobals "max" = some none)
    (z_ValueError : PySem.W.nsIn K mainGlobals "ValueError" = some none)
    (z_super : PySem.W.nsIn K mainGlobals "super" = some none)
    {tk_TEXT_MOST : Tok} (v_TEXT_MOST : PySem.W.nsIn K mainGlobals "TEXT_MOST" = some (some (.int 60 tk_TEXT_MOST)))
    {p_BadText : Addr} (a_BadText : PySem.W.nsIn K mainGlobals "BadText" = some (some (.ref p_BadText)))
    {p_ReviewError : Addr} (a_ReviewError : PySem.W.nsIn K mainGlobals "ReviewError" = some (some (.ref p_ReviewError)))
    {p_TooMany : Addr} (a_TooMany : PySem.W.nsIn K mainGlobals "TooMany" = some (some (.ref p_TooMany)))
    {nm_TooMany q_TooMany : Str} {N_TooMany : Addr} {bs_TooMany bm_TooMany : List Value} {sn_TooMany : List Str} {su_TooMany : List Value} {ab_TooMany : Bool} {co_TooMany : Option Bool} {dd_TooMany : Option Addr} {k0_TooMany k1_TooMany k2_TooMany k3_TooMany k5_TooMany : Option Value}
    (l_TooMany : K.lookup p_TooMany = some (excClassObj nm_TooMany q_TooMany p_TooMany N_TooMany bs_TooMany bm_TooMany true sn_TooMany su_TooMany ab_TooMany co_TooMany dd_TooMany k0_TooMany k1_TooMany k2_TooMany k3_TooMany k5_TooMany "ValueError.__new__")) (r_TooMany : PySem.HandSPX.refsVE bm_TooMany = true)
    {i_TooMany cc_TooMany c_TooMany : Addr} {oc_TooMany doc_TooMany pm_TooMany ct_TooMany : Value} {od_TooMany : Option Addr} {sl_TooMany : Array (Option Value)}
    (n_TooMany : PySem.W.findIn K (.ref p_TooMany) "__init__" = some (some (.ref i_TooMany))) (j_TooMany : K.lookup i_TooMany = some ⟨oc_TooMany, od_TooMany, .func ((initF (topS 3) "TooMany.__init__" cc_TooMany c_TooMany).fd doc_TooMany pm_TooMany ct_TooMany), sl_TooMany⟩)
    (b_TooMany : excB K PySem.Challenge.pw_signoff_k06_shared_and_diff p_TooMany i_TooMany cc_TooMany c_TooMany "TooMany.__init__" ["limit"] = true)
    (t_BadText : tabB K ([("TooMany", p_TooMany)] : List (Str × Addr)) (.ref p_BadText) Tb_BadText = true)
    (t_ReviewError : tabB K ([("TooMany", p_TooMany)] : List (Str × Addr)) (.ref p_ReviewError) Tb_ReviewError = true)
    (t_TooMany : tabB K ([("TooMany", p_TooMany)] : List (Str × Addr)) (.ref p_TooMany) Tb_TooMany = true)
    (t_ValueError : tabB K ([("TooMany", p_TooMany)] : List (Str × Addr)) (.type "ValueError") Tb_ValueError = true)
    (xf : (([("TooMany", p_TooMany)] : List (Str × Addr)).all fun p : Str × Addr => xfkB K p.2 FL) = true) :
    ∃ fd : FuncData, (∀ (s : Shared) (v : Value), BindsTo s fd ⟨[v], []⟩ [("script", v)]) ∧ ∀ base : Heap, K.In base → base.Ns mainGlobals mg → FnOk PySem.Challenge.pw_signoff_k06_shared_and_diff w K mg base (DN.CX PySem.Challenge.pw_signoff_k06_shared_and_diff w) 7 fa fd ["script"] (spS K 63) := by
  have e := hfa.symm.trans (PySem.W.mg_of X G a_law)
  cases e
  have f_law_draw_v1 := fun_mk (st := topS 15) l_law_draw_v1 d_law_draw_v1 k_law_draw_v1
  have f_law_pool_v1 := fun_mk (st := topS 14) l_law_pool_v1 d_law_pool_v1 k_law_pool_v1
  have f_law_signs := fun_mk (st := topS 16) l_law_signs d_law_signs k_law_signs
  have f_law_line_v1 := fun_mk (st := topS 17) l_law_line_v1 d_law_line_v1 k_law_line_v1
  have f_law_text_v1 := fun_mk (st := topS 18) l_law_text_v1 d_law_text_v1 k_law_text_v1
  have f_law_applied := fun_mk (st := topS 20) l_law_applied d_law_applied k_law_applied
  have f_law_edit_v2 := fun_mk (st := topS 19) l_law_edit_v2 d_law_edit_v2 k_law_edit_v2
  have f_law_same_v2 := fun_mk (st := topS 21) l_law_same_v2 d_law_same_v2 k_law_same_v2
  have f_check_sizes := fun_mk (st := topS 6) l_check_sizes d_check_sizes k_check_sizes
  have f_tail_table := fun_mk (st := topS 7) l_tail_table d_tail_table k_tail_table
  have f_shared_lines := fun_mk (st := topS 9) l_shared_lines d_shared_lines k_shared_lines
  have f_shared_pairs := fun_mk (st := topS 10) l_shared_pairs d_shared_pairs k_shared_pairs
  have f_diff := fun_mk (st := topS 11) l_diff d_diff k_diff
  have f_head_table := fun_mk (st := topS 8) l_head_table d_head_table k_head_table
  have f_layers := fun_mk (st := topS 12) l_layers d_layers k_layers
  have f_law_answer := fun_mk (st := topS 26) l_law_answer d_law_answer k_law_answer
  have f_law_tails := fun_mk (st := topS 22) l_law_tails d_law_tails k_law_tails
  have f_law_pairs_v2 := fun_mk (st := topS 23) l_law_pairs_v2 d_law_pairs_v2 k_law_pairs_v2
  have f_law_layers := fun_mk (st := topS 25) l_law_layers d_law_layers k_law_layers
  have f_law_kept_v1 := fun_mk (st := topS 24) l_law_kept_v1 d_law_kept_v1 k_law_kept_v1
  have f_law := fun_mk (st := topS 27) l_law d_law k_law
  refine ⟨PySem.W.fnOf "law" "law" (defArgs (topS 27)) (defBody (topS 27)) (defScope (topS 27)) .none kV_law dc_law pm_law an_law cd_law ct_law, fun s v => .of_eq rfl, fun base _ _ => ?_⟩
  let g : GC := ⟨PySem.Challenge.pw_signoff_k06_shared_and_diff, w, K, mg, base, cmOf ([("TooMany", p_TooMany)] : List (Str × Addr)), none⟩
  have hx : g.xn = none := rfl
  have hxf : ∀ n C, g.cm n = some C → XfK g.K C FL := xf_mk (G := g) (l := ([("TooMany", p_TooMany)] : List (Str × Addr))) rfl xf
  have b_len : GEok g "len" .blt := PySem.W.mg_none_of X G z_len
  have b_int : GEok g "int" .blt := PySem.W.mg_none_of X G z_int
  have b_range : GEok g "range" .blt := PySem.W.mg_none_of X G z_range
  have b_tuple : GEok g "tuple" .blt := PySem.W.mg_none_of X G z_tuple
  have b_min : GEok g "min" .blt := PySem.W.mg_none_of X G z_min
  have b_isinstance : GEok g "isinstance" .blt := PySem.W.mg_none_of X G z_isinstance
  have b_bool : GEok g "bool" .blt := PySem.W.mg_none_of X G z_bool
  have b_str : GEok g "str" .blt := PySem.W.mg_none_of X G z_str
  have b_reversed : GEok g "reversed" .blt := PySem.W.mg_none_of X G z_reversed
  have b_max : GEok g "max" .blt := PySem.W.mg_none_of X G z_max
  have b_ValueError : GEok g "ValueError" .blt := PySem.W.mg_none_of X G z_ValueError
  have b_super : GEok g "super" .blt := PySem.W.mg_none_of X G z_super
  have k_TEXT_MOST : GEok g "TEXT_MOST" (.const C_TEXT_MOST) := const_int (G := g) (PySem.W.mg_of X G v_TEXT_MOST)
  have x_BadText : GEok g "BadText" (.cls Tb_BadText) := ⟨_, PySem.W.mg_of X G a_BadText, tab_mk (G := g) (l := ([("TooMany", p_TooMany)] : List (Str × Addr))) rfl t_BadText⟩
  have x_ReviewError : GEok g "ReviewError" (.cls Tb_ReviewError) := ⟨_, PySem.W.mg_of X G a_ReviewError, tab_mk (G := g) (l := ([("TooMany", p_TooMany)] : List (Str × Addr))) rfl t_ReviewError⟩
  have x_TooMany : GEok g "TooMany" (.exc ["limit"] 1 Tb_TooMany) := ⟨exc_mk (G := g) it_TooMany (PySem.W.mg_of X G a_TooMany) (by rfl) l_TooMany r_TooMany j_TooMany b_TooMany (PySem.W.mg_none_of X G z_super) (by rfl), _, PySem.W.mg_of X G a_TooMany, tab_mk (G := g) (l := ([("TooMany", p_TooMany)] : List (Str × Addr))) rfl t_TooMany⟩
  have x_ValueError : GEok g "ValueError" (.clsB "ValueError" Tb_ValueError) := ⟨PySem.W.mg_none_of X G z_ValueError, by decide +kernel, by decide +kernel, tab_mk (G := g) (l := ([("TooMany", p_TooMany)] : List (Str × Addr))) rfl t_ValueError⟩
  have g_law_draw_v1 : GEok g "_law_draw" (.fn 1 2 F_law_draw_v1) := ge_law_draw_v1 hx hxf f_law_draw_v1 (PySem.W.mg_of X G a_law_draw_v1) b_len b_int
  have g_law_pool_v1 : GEok g "_law_pool" (.fn 2 1 F_law_pool_v1) := ge_law_pool_v1 hx hxf f_law_pool_v1 (PySem.W.mg_of X G a_law_pool_v1) g_law_draw_v1 b_int b_range
  have g_law_signs : GEok g "_law_signs" (.fn 1 0 F_law_signs) := ge_law_signs hx hxf f_law_signs (PySem.W.mg_of X G a_law_signs) 
  have g_law_line_v1 : GEok g "_law_line" (.fn 2 1 F_law_line_v1) := ge_law_line_v1 hx hxf f_law_line_v1 (PySem.W.mg_of X G a_law_line_v1) g_law_draw_v1 g_law_signs b_range b_len
  have g_law_text_v1 : GEok g "_law_text" (.fn 3 2 F_law_text_v1) := ge_law_text_v1 hx hxf f_law_text_v1 (PySem.W.mg_of X G a_law_text_v1) g_law_line_v1 b_tuple b_range
  have g_law_applied : GEok g "_law_applied" (.fn 1 2 F_law_applied) := ge_law_applied hx hxf f_law_applied (PySem.W.mg_of X G a_law_applied) b_len
  have g_law_edit_v2 : GEok g "_law_edit" (.fn 4 3 F_law_edit_v2) := ge_law_edit_v2 hx hxf f_law_edit_v2 (PySem.W.mg_of X G a_law_edit_v2) g_law_draw_v1 g_law_text_v1 g_law_line_v1 b_range b_len b_min b_tuple
  have g_law_same_v2 : GEok g "_law_same" (.fn 6 2 F_law_same_v2) := ge_law_same_v2_6 hx hxf f_law_same_v2 (PySem.W.mg_of X G a_law_same_v2) b_isinstance b_tuple b_len b_range b_bool b_int b_str
  have g_check_sizes : GEok g "check_sizes" (.fn 3 2 F_check_sizes) := ge_check_sizes hx hxf f_check_sizes (PySem.W.mg_of X G a_check_sizes) b_len x_TooMany k_TEXT_MOST
  have g_tail_table : GEok g "tail_table" (.fn 1 2 F_tail_table) := ge_tail_table hx hxf f_tail_table (PySem.W.mg_of X G a_tail_table) b_range b_len b_reversed b_max
  have g_shared_lines : GEok g "shared_lines" (.fn 4 2 F_shared_lines) := ge_shared_lines hx hxf f_shared_lines (PySem.W.mg_of X G a_shared_lines) g_check_sizes g_tail_table
  have g_shared_pairs : GEok g "shared_pairs" (.fn 4 2 F_shared_pairs) := ge_shared_pairs hx hxf f_shared_pairs (PySem.W.mg_of X G a_shared_pairs) g_check_sizes g_tail_table b_len b_tuple
  have g_diff : GEok g "diff" (.fn 5 2 F_diff) := ge_diff hx hxf f_diff (PySem.W.mg_of X G a_diff) g_shared_pairs b_len b_tuple
  have g_head_table : GEok g "head_table" (.fn 1 2 F_head_table) := ge_head_table hx hxf f_head_table (PySem.W.mg_of X G a_head_table) b_range b_len b_max
  have g_layers : GEok g "layers" (.fn 4 2 F_layers) := ge_layers hx hxf f_layers (PySem.W.mg_of X G a_layers) g_check_sizes g_head_table b_range b_len b_reversed b_tuple
  have g_law_answer : GEok g "_law_answer" (.fn 6 3 F_law_answer) := ge_law_answer hx hxf f_law_answer (PySem.W.mg_of X G a_law_answer) g_shared_lines g_shared_pairs g_diff g_layers b_isinstance x_BadText x_ReviewError x_TooMany x_ValueError
  have g_law_tails : GEok g "_law_tails" (.fn 1 2 F_law_tails) := ge_law_tails hx hxf f_law_tails (PySem.W.mg_of X G a_law_tails) b_range b_len b_max
  have g_law_pairs_v2 : GEok g "_law_pairs" (.fn 1 3 F_law_pairs_v2) := ge_law_pairs_v2 hx hxf f_law_pairs_v2 (PySem.W.mg_of X G a_law_pairs_v2) b_range b_len b_tuple
  have g_law_layers : GEok g "_law_layers" (.fn 2 2 F_law_layers) := ge_law_layers hx hxf f_law_layers (PySem.W.mg_of X G a_law_layers) g_law_tails b_range b_len b_tuple
  have g_law_kept_v1 : GEok g "_law_kept" (.fn 1 3 F_law_kept_v1) := ge_law_kept_v1 hx hxf f_law_kept_v1 (PySem.W.mg_of X G a_law_kept_v1) b_len b_tuple
  exact FnOk.imp (cDef_ok (G := g) hx hxf (gok_cons g_law_pool_v1 (gok_cons g_law_draw_v1 (gok_cons g_law_text_v1 (gok_cons g_law_applied (gok_cons g_law_edit_v2 (gok_cons g_law_same_v2 (gok_cons g_law_answer (gok_cons g_law_tails (gok_cons g_law_pairs_v2 (gok_cons g_law_layers (gok_cons g_law_kept_v1 (gok_cons b_len (gok_cons b_range gok_nil))))))))))))) f_law sc_law c_law) fun vs H Q E h => (lsp_script (G := g) (F := F_law) law_true h : LSp g F_law 1 vs H Q E)
end SG
open PySem PySem.W PyProof.Rows
set_option maxHeartbeats 0 in
theorem PySem.Challenge.cw_signoff_k06_shared_and_diff_holds : PySem.Challenge.rw_signoff_k06_shared_and_diff.Holds := by
  w_on; o_law; k_head; (case hw => w_witness2)
  k_fill
  refine L2.walk_of (l := PySem.Challenge.rw_signoff_k06_shared_and_diff) (n := 63) (k := 7) (x := "script") (CX := fun w => DN.CX PySem.Challenge.pw_signoff_k06_shared_and_diff w) (sp := fun w => DN.spS _ 63) rfl (by decide) rfl ⟨by decide, by decide, by decide⟩ (fun w h Y => PySem.W.kIn_of Y) ?F (fun w H a ns hl o s => ⟨a, ns, rfl, hl, s, o, fun _ => rfl⟩) (fun _ _ _ _ _ h => DN.cx_end h)
  case F =>
    intro w mg fa h KX G hmg
    refine' SG.all_mk KX G hmg ?a_law_draw_v1 ?l_law_draw_v1 ?d_law_draw_v1 ?k_law_draw_v1 ?a_law_pool_v1 ?l_law_pool_v1 ?d_law_pool_v1 ?k_law_pool_v1 ?a_law_signs ?l_law_signs ?d_law_signs ?k_law_signs ?a_law_line_v1 ?l_law_line_v1 ?d_law_line_v1 ?k_law_line_v1 ?a_law_text_v1 ?l_law_text_v1 ?d_law_text_v1 ?k_law_text_v1 ?a_law_applied ?l_law_applied ?d_law_applied ?k_law_applied ?a_law_edit_v2 ?l_law_edit_v2 ?d_law_edit_v2 ?k_law_edit_v2 ?a_law_same_v2 ?l_law_same_v2 ?d_law_same_v2 ?k_law_same_v2 ?a_check_sizes ?l_check_sizes ?d_check_sizes ?k_check_sizes ?a_tail_table ?l_tail_table ?d_tail_table ?k_tail_table ?a_shared_lines ?l_shared_lines ?d_shared_lines ?k_shared_lines ?a_shared_pairs ?l_shared_pairs ?d_shared_pairs ?k_shared_pairs ?a_diff ?l_diff ?d_diff ?k_diff ?a_head_table ?l_head_table ?d_head_table ?k_head_table ?a_layers ?l_layers ?d_layers ?k_layers ?a_law_answer ?l_law_answer ?d_law_answer ?k_law_answer ?a_law_tails ?l_law_tails ?d_law_tails ?k_law_tails ?a_law_pairs_v2 ?l_law_pairs_v2 ?d_law_pairs_v2 ?k_law_pairs_v2 ?a_law_layers ?l_law_layers ?d_law_layers ?k_law_layers ?a_law_kept_v1 ?l_law_kept_v1 ?d_law_kept_v1 ?k_law_kept_v1 ?a_law ?l_law ?d_law ?k_law ?z_len ?z_int ?z_range ?z_tuple ?z_min ?z_isinstance ?z_bool ?z_str ?z_reversed ?z_max ?z_ValueError ?z_super ?v_TEXT_MOST ?a_BadText ?a_ReviewError ?a_TooMany ?l_TooMany ?r_TooMany ?n_TooMany ?j_TooMany ?b_TooMany ?t_BadText ?t_ReviewError ?t_TooMany ?t_ValueError ?xf
    (case a_law_draw_v1 => k_is); (case l_law_draw_v1 => k_is); (case d_law_draw_v1 => k_is); (case k_law_draw_v1 => k_is); (case a_law_pool_v1 => k_is); (case l_law_pool_v1 => k_is); (case d_law_pool_v1 => k_is); (case k_law_pool_v1 => k_is); (case a_law_signs => k_is); (case l_law_signs => k_is); (case d_law_signs => k_is); (case k_law_signs => k_is); (case a_law_line_v1 => k_is); (case l_law_line_v1 => k_is); (case d_law_line_v1 => k_is); (case k_law_line_v1 => k_is); (case a_law_text_v1 => k_is); (case l_law_text_v1 => k_is); (case d_law_text_v1 => k_is); (case k_law_text_v1 => k_is); (case a_law_applied => k_is); (case l_law_applied => k_is); (case d_law_applied => k_is); (case k_law_applied => k_is); (case a_law_edit_v2 => k_is); (case l_law_edit_v2 => k_is); (case d_law_edit_v2 => k_is); (case k_law_edit_v2 => k_is); (case a_law_same_v2 => k_is); (case l_law_same_v2 => k_is); (case d_law_same_v2 => k_is); (case k_law_same_v2 => k_is); (case a_check_sizes => k_is); (case l_check_sizes => k_is); (case d_check_sizes => k_is); (case k_check_sizes => k_is); (case a_tail_table => k_is); (case l_tail_table => k_is); (case d_tail_table => k_is); (case k_tail_table => k_is); (case a_shared_lines => k_is); (case l_shared_lines => k_is); (case d_shared_lines => k_is); (case k_shared_lines => k_is); (case a_shared_pairs => k_is); (case l_shared_pairs => k_is); (case d_shared_pairs => k_is); (case k_shared_pairs => k_is); (case a_diff => k_is); (case l_diff => k_is); (case d_diff => k_is); (case k_diff => k_is); (case a_head_table => k_is); (case l_head_table => k_is); (case d_head_table => k_is); (case k_head_table => k_is); (case a_layers => k_is); (case l_layers => k_is); (case d_layers => k_is); (case k_layers => k_is); (case a_law_answer => k_is); (case l_law_answer => k_is); (case d_law_answer => k_is); (case k_law_answer => k_is); (case a_law_tails => k_is); (case l_law_tails => k_is); (case d_law_tails => k_is); (case k_law_tails => k_is); (case a_law_pairs_v2 => k_is); (case l_law_pairs_v2 => k_is); (case d_law_pairs_v2 => k_is); (case k_law_pairs_v2 => k_is); (case a_law_layers => k_is); (case l_law_layers => k_is); (case d_law_layers => k_is); (case k_law_layers => k_is); (case a_law_kept_v1 => k_is); (case l_law_kept_v1 => k_is); (case d_law_kept_v1 => k_is); (case k_law_kept_v1 => k_is); (case a_law => k_is); (case l_law => k_is); (case d_law => k_is); (case k_law => k_is); (case z_len => k_is); (case z_int => k_is); (case z_range => k_is); (case z_tuple => k_is); (case z_min => k_is); (case z_isinstance => k_is); (case z_bool => k_is); (case z_str => k_is); (case z_reversed => k_is); (case z_max => k_is); (case z_ValueError => k_is); (case z_super => k_is); (case v_TEXT_MOST => k_is); (case a_BadText => k_is); (case a_ReviewError => k_is); (case a_TooMany => k_is); (case l_TooMany => k_is); (case r_TooMany => kernel_rfl); (case n_TooMany => k_is); (case j_TooMany => k_is); (case b_TooMany => kernel_rfl); (case t_BadText => kernel_rfl); (case t_ReviewError => kernel_rfl); (case t_TooMany => kernel_rfl); (case t_ValueError => kernel_rfl); (case xf => kernel_rfl)

