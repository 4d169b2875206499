import PyProof.Rows.All
import Wide.All
import OpenK.AllK
import Wide.FinOn
import HandS.ForMost
import HandS.ForExc
import HandS.Deep
import HandS.TupAny
import HandS.Flow
import HandS.IsInst
import HandS.CallSlots
import HandS.TryOnly
import KE.DataEq
import HandS.Text
import HandS.Wide
import KE.GoesEnum
import KE.GoesMore
import HandS.WordsExc
import PySem.Challenge.RW_signoff_k28_following_an_anchor
set_option Elab.async false
set_option linter.all false
set_option maxRecDepth 100000
set_option maxHeartbeats 4000000
/-! values as data, a memory of mutable objects, and how they lie over the layer's heap -/
namespace DN
open PySem PySem.Spec L2

inductive D where
  | non | bl (b : Bool) | int (i : Int) | str (x : Str) | tup (xs : List D) | ref (n : Nat) | con (xs : List D)
deriving Inhabited

inductive O where
  | lst (xs : List D)
  | fro (xs : List D)
  | dK (kvs : List (Key × D))
  | ins (C : Str) (fs : List (Str × D))
deriving Inhabited

structure Exn where
  cls : Str
  ks : List Str
  vs : List D

abbrev Env := List (Option D)
abbrev Mem := List O

/-- a list that never changes: frozen, or of the written part -/
def SqF (K : PySem.W.Frag) (H : Hp) (a : Addr) (xs : List V) : Prop :=
  (∃ ob, H a = some (.frz ob (.lst xs))) ∨
    ∃ (o : Obj) (its : Array Value) (n : Nat), K.lookup a = some o ∧ o.cls = .type "list" ∧ o.dict = none ∧ o.data = .seq its n ∧ its.size ≤ sizeLine ∧ Vals xs its.toList
theorem SqF.seq {K : PySem.W.Frag} {H : Hp} {a : Addr} {xs : List V} (h : SqF K H a xs) : SqL K H a xs := h.elim (fun q => .inl (.inr q)) .inr
theorem SqF.of {K : PySem.W.Frag} {H : Hp} {a : Addr} {xs : List V} (o : Only H) (h : SqL K H a xs) : SqF K H a xs := by
  rcases h with h | h
  · rcases h with h | ⟨ob, h⟩
    · rcases o a with e | ⟨ob, ys, e⟩ <;> (rw [e] at h; cases h)
    · exact .inl ⟨ob, h⟩
  · exact .inr h
section
variable (K : PySem.W.Frag) (H : Hp) (al : List Addr)
mutual
def RDat : D → V → Prop
  | .non, v => v = .non
  | .bl b, v => v = .bl b
  | .int i, v => v = .int i
  | .str x, v => v = .str x
  | .tup xs, v => ∃ a vs, v = .ref a ∧ SqT K H a vs ∧ RDats xs vs
  | .ref n, v => ∃ a, al[n]? = some a ∧ v = .ref a
  | .con xs, v => ∃ a vs, v = .ref a ∧ SqF K H a vs ∧ RDats xs vs
def RDats : List D → List V → Prop
  | [], vs => vs = []
  | x :: xs, vs => ∃ v r, vs = v :: r ∧ RDat x v ∧ RDats xs r
end
def RKv : List (Key × D) → List (Key × V) → Prop := Paired fun p q => p.1 = q.1 ∧ RDat K H al p.2 q.2
def RFld : List (Str × D) → List (Str × V) → Prop := Paired fun p q => p.1 = q.1 ∧ RDat K H al p.2 q.2
def RObj (cm : Str → Option Addr) : O → HO → Prop
  | .lst xs, o => ∃ vs, o = .lst vs ∧ RDats K H al xs vs
  | .fro xs, o => ∃ ob vs, o = .frz ob (.lst vs) ∧ RDats K H al xs vs
  | .dK kvs, o => ∃ ws, o = .dK ws ∧ RKv K H al kvs ws
  | .ins C fs, o => ∃ c dx gs, cm C = some c ∧ o = .ins c dx gs ∧ RFld K H al fs gs
end

/-- what never changes -/
def stab : HO → Bool
  | .tup _ => true | .frz _ _ => true | .xd _ => true | _ => false
def KeepH (H H' : Hp) : Prop := ∀ a o, stab o = true → H a = some o → H' a = some o
theorem KeepH.refl (H : Hp) : KeepH H H := fun _ _ _ h => h
theorem KeepH.trans {H H1 H2 : Hp} (a : KeepH H H1) (b : KeepH H1 H2) : KeepH H H2 := fun x o s h => b x o s (a x o s h)
theorem KeepH.new {H : Hp} {p : Addr} {o : HO} (h : H p = none) : KeepH H (upd H p o) := fun a u s e => by
  rw [upd_ne (ne_of_none e h)]; exact e
theorem KeepH.wr {H : Hp} {p : Addr} {o u : HO} (h : H p = some u) (s : stab u = false) : KeepH H (upd H p o) := fun a w s' e => by
  rw [upd_ne (fun z => by subst z; rw [h] at e; cases e; rw [s] at s'; cases s')]; exact e
theorem KeepH.sqF {K : PySem.W.Frag} {H H' : Hp} (k : KeepH H H') {a : Addr} {vs : List V} (h : SqF K H a vs) : SqF K H' a vs := by
  rcases h with ⟨ob, h⟩ | h
  · exact .inl ⟨ob, k a _ rfl h⟩
  · exact .inr h
theorem KeepH.sqT {K : PySem.W.Frag} {H H' : Hp} (k : KeepH H H') {a : Addr} {vs : List V} (h : SqT K H a vs) : SqT K H' a vs := by
  rcases h with (h | ⟨o, h⟩) | h
  · exact .inl (.inl (k _ _ rfl h))
  · exact .inl (.inr ⟨o, k _ _ rfl h⟩)
  · exact .inr h

theorem pfx_get {al al' : List Addr} (p : al <+: al') {n : Nat} {a : Addr} (h : al[n]? = some a) : al'[n]? = some a := by
  obtain ⟨r, rfl⟩ := p
  have hn : n < al.length := (List.getElem?_eq_some_iff.mp h).1
  rw [List.getElem?_append_left hn]; exact h

section
variable {K : PySem.W.Frag} {H H' : Hp} {al al' : List Addr}
mutual
theorem RDat.mono (k : KeepH H H') (p : al <+: al') : ∀ {d : D} {v : V}, RDat K H al d v → RDat K H' al' d v
  | .non, _, h => by simpa [RDat] using h
  | .bl _, _, h => by simpa [RDat] using h
  | .int _, _, h => by simpa [RDat] using h
  | .str _, _, h => by simpa [RDat] using h
  | .tup xs, _, h => by
    rw [RDat] at h ⊢
    obtain ⟨a, vs, e, hs, hl⟩ := h
    exact ⟨a, vs, e, k.sqT hs, RDats.mono k p hl⟩
  | .ref n, _, h => by
    rw [RDat] at h ⊢
    obtain ⟨a, e, e2⟩ := h
    exact ⟨a, pfx_get p e, e2⟩
  | .con xs, _, h => by
    rw [RDat] at h ⊢
    obtain ⟨a, vs, e, hs, hl⟩ := h
    exact ⟨a, vs, e, k.sqF hs, RDats.mono k p hl⟩
theorem RDats.mono (k : KeepH H H') (p : al <+: al') : ∀ {ds : List D} {vs : List V}, RDats K H al ds vs → RDats K H' al' ds vs
  | [], _, h => by simpa [RDats] using h
  | x :: xs, _, h => by
    rw [RDats] at h ⊢
    obtain ⟨v, r, e, h1, h2⟩ := h
    exact ⟨v, r, e, RDat.mono k p h1, RDats.mono k p h2⟩
end
theorem RDats.length : ∀ {ds : List D} {vs : List V}, RDats K H al ds vs → ds.length = vs.length
  | [], _, h => by rw [RDats] at h; subst h; rfl
  | x :: xs, _, h => by
    rw [RDats] at h
    obtain ⟨v, r, rfl, _, h2⟩ := h
    rw [List.length_cons, List.length_cons, RDats.length h2]
theorem RDats.get : ∀ {ds : List D} {vs : List V} {i : Nat} {d : D}, RDats K H al ds vs → ds[i]? = some d → ∃ v, vs[i]? = some v ∧ RDat K H al d v
  | [], _, _, _, _, e => by simp at e
  | x :: xs, _, 0, d, h, e => by
    rw [RDats] at h
    obtain ⟨v, r, rfl, h1, _⟩ := h
    simp at e; subst e
    exact ⟨v, rfl, h1⟩
  | x :: xs, _, i + 1, d, h, e => by
    rw [RDats] at h
    obtain ⟨v, r, rfl, _, h2⟩ := h
    have e' : xs[i]? = some d := by simpa using e
    obtain ⟨w, e1, e2⟩ := RDats.get h2 e'
    exact ⟨w, by simpa using e1, e2⟩
theorem RDats.getV : ∀ {ds : List D} {vs : List V} {i : Nat} {v : V}, RDats K H al ds vs → vs[i]? = some v → ∃ d, ds[i]? = some d ∧ RDat K H al d v
  | [], vs, i, v, h, e => by rw [RDats] at h; subst h; simp at e
  | x :: xs, _, 0, w, h, e => by
    rw [RDats] at h
    obtain ⟨v, r, rfl, h1, _⟩ := h
    simp at e; subst e
    exact ⟨x, rfl, h1⟩
  | x :: xs, _, i + 1, w, h, e => by
    rw [RDats] at h
    obtain ⟨v, r, rfl, _, h2⟩ := h
    have e' : r[i]? = some w := by simpa using e
    obtain ⟨d, e1, e2⟩ := RDats.getV h2 e'
    exact ⟨d, by simpa using e1, e2⟩
theorem RDats.nil : RDats K H al [] [] := by rw [RDats]
theorem RDats.cons {d : D} {v : V} {ds : List D} {vs : List V} (h : RDat K H al d v) (t : RDats K H al ds vs) : RDats K H al (d :: ds) (v :: vs) := by
  rw [RDats]; exact ⟨v, vs, rfl, h, t⟩
theorem RDats.append : ∀ {xs ys : List D} {vs ws : List V}, RDats K H al xs vs → RDats K H al ys ws → RDats K H al (xs ++ ys) (vs ++ ws)
  | [], _, _, _, h, t => by rw [RDats] at h; subst h; exact t
  | x :: xs, _, _, _, h, t => by
    rw [RDats] at h
    obtain ⟨v, r, rfl, h1, h2⟩ := h
    exact RDats.cons h1 (RDats.append h2 t)
theorem RDats.take : ∀ {xs : List D} {vs : List V} (n : Nat), RDats K H al xs vs → RDats K H al (xs.take n) (vs.take n)
  | _, _, 0, _ => by simpa using RDats.nil
  | [], _, n + 1, h => by rw [RDats] at h; subst h; exact RDats.nil
  | x :: xs, _, n + 1, h => by
    rw [RDats] at h
    obtain ⟨v, r, rfl, h1, h2⟩ := h
    exact RDats.cons h1 (RDats.take n h2)
theorem RDats.drop : ∀ {xs : List D} {vs : List V} (n : Nat), RDats K H al xs vs → RDats K H al (xs.drop n) (vs.drop n)
  | _, _, 0, h => by simpa using h
  | [], _, n + 1, h => by rw [RDats] at h; subst h; exact RDats.nil
  | x :: xs, _, n + 1, h => by
    rw [RDats] at h
    obtain ⟨v, r, rfl, h1, h2⟩ := h
    exact RDats.drop n h2
theorem RDats.set {d : D} {v : V} (q : RDat K H al d v) : ∀ {xs : List D} {vs : List V} (n : Nat), RDats K H al xs vs → RDats K H al (xs.set n d) (vs.set n v)
  | [], _, n, h => by rw [RDats] at h; subst h; exact RDats.nil
  | x :: xs, _, 0, h => by
    rw [RDats] at h
    obtain ⟨w, r, rfl, h1, h2⟩ := h
    exact RDats.cons q h2
  | x :: xs, _, n + 1, h => by
    rw [RDats] at h
    obtain ⟨w, r, rfl, h1, h2⟩ := h
    exact RDats.cons h1 (RDats.set q n h2)
theorem RDats.reverse : ∀ {xs : List D} {vs : List V}, RDats K H al xs vs → RDats K H al xs.reverse vs.reverse
  | [], _, h => by rw [RDats] at h; subst h; exact RDats.nil
  | x :: xs, _, h => by
    rw [RDats] at h
    obtain ⟨w, r, rfl, h1, h2⟩ := h
    rw [List.reverse_cons, List.reverse_cons]
    exact RDats.append (RDats.reverse h2) (RDats.cons h1 RDats.nil)
theorem RDats.eraseIdx : ∀ {xs : List D} {vs : List V} (n : Nat), RDats K H al xs vs → RDats K H al (xs.eraseIdx n) (vs.eraseIdx n)
  | [], _, n, h => by rw [RDats] at h; subst h; exact RDats.nil
  | x :: xs, _, 0, h => by
    rw [RDats] at h
    obtain ⟨w, r, rfl, h1, h2⟩ := h
    exact h2
  | x :: xs, _, n + 1, h => by
    rw [RDats] at h
    obtain ⟨w, r, rfl, h1, h2⟩ := h
    exact RDats.cons h1 (RDats.eraseIdx n h2)
theorem RDats.dropLast {xs : List D} {vs : List V} (h : RDats K H al xs vs) : RDats K H al xs.dropLast vs.dropLast := by
  rw [List.dropLast_eq_take, List.dropLast_eq_take, h.length]; exact h.take _
theorem RDat.tup_of {xs : List D} {a : Addr} {vs : List V} (h : SqT K H a vs) (r : RDats K H al xs vs) : RDat K H al (.tup xs) (.ref a) := by
  rw [RDat]; exact ⟨a, vs, rfl, h, r⟩
theorem RKv.mono (k : KeepH H H') (p : al <+: al') {a : List (Key × D)} {b : List (Key × V)} (h : RKv K H al a b) : RKv K H' al' a b :=
  Paired.mapP h fun _ _ z => ⟨z.1, z.2.mono k p⟩
theorem RFld.mono (k : KeepH H H') (p : al <+: al') {a : List (Str × D)} {b : List (Str × V)} (h : RFld K H al a b) : RFld K H' al' a b :=
  Paired.mapP h fun _ _ z => ⟨z.1, z.2.mono k p⟩
theorem RObj.mono {cm : Str → Option Addr} (k : KeepH H H') (p : al <+: al') {o : O} {u : HO} (h : RObj K H al cm o u) : RObj K H' al' cm o u := by
  cases o with
  | lst xs => obtain ⟨vs, e, r⟩ := h; exact ⟨vs, e, r.mono k p⟩
  | fro xs => obtain ⟨ob, vs, e, r⟩ := h; exact ⟨ob, vs, e, r.mono k p⟩
  | dK kvs => obtain ⟨ws, e, r⟩ := h; exact ⟨ws, e, r.mono k p⟩
  | ins C fs => obtain ⟨c, dx, gs, e0, e, r⟩ := h; exact ⟨c, dx, gs, e0, e, r.mono k p⟩
end

/-! ### the whole state -/
structure XN where
  x : Exn
  a : Addr
  cls : Value
  d : Option Addr
  i : Nat
structure GC where
  P : Program
  w : World
  K : PySem.W.Frag
  mg : Str → Option Value
  base : Heap
  cm : Str → Option Addr
  xn : Option XN := none

def RExn (K : PySem.W.Frag) (cm : Str → Option Addr) (H : Hp) (al : List Addr) (x : Exn) (cls : Value) (d : Option Addr) : Prop :=
  ∃ C, cm x.cls = some C ∧ cls = .ref C ∧ ((x.ks = [] ∧ x.vs = []) ∨ ∃ dx fs vs, d = some dx ∧ H dx = some (.xd fs) ∧ RDats K H al x.vs vs ∧ x.ks.length = x.vs.length ∧ ∀ k v, (x.ks.zip vs).lookup k = some v → fs.lookup k = some v)
theorem RExn.mono {K : PySem.W.Frag} {cm : Str → Option Addr} {H H' : Hp} {al al' : List Addr} (k : KeepH H H') (p : al <+: al') {x : Exn} {cls : Value} {d : Option Addr} (h : RExn K cm H al x cls d) : RExn K cm H' al' x cls d := by
  obtain ⟨C, e1, e2, h⟩ := h
  refine ⟨C, e1, e2, ?_⟩
  rcases h with h | ⟨dx, fs, vs, e3, e4, r, l, q⟩
  · exact .inl h
  · exact .inr ⟨dx, fs, vs, e3, k _ _ rfl e4, r.mono k p, l, q⟩

structure RMem (G : GC) (H : Hp) (al : List Addr) (M : Mem) : Prop where
  nd : al.Nodup
  len : al.length = M.length
  at_ : ∀ (n : Nat) (o : O), M[n]? = some o → ∃ a u, al[n]? = some a ∧ H a = some u ∧ RObj G.K H al G.cm o u
def REnv (G : GC) (H : Hp) (al : List Addr) (σ : L2.St) (ρ : Env) : Prop :=
  ρ.length = σ.length ∧ ∀ (i : Nat) (d : D), ρ[i]? = some (some d) → ∃ v, σ[i]? = some (some v) ∧ RDat G.K H al d v
def XOk (G : GC) (H : Hp) (al : List Addr) (σ : L2.St) : Prop := match G.xn with
  | none => True
  | some n => RExn G.K G.cm H al n.x n.cls n.d ∧ σ[n.i]? = some (some (.ref n.a))
structure RSt (G : GC) (H : Hp) (al : List Addr) (M : Mem) (σ : L2.St) (ρ : Env) : Prop where
  m : RMem G H al M
  e : REnv G H al σ ρ
  x : XOk G H al σ

/-- from a state to a later one -/
structure Nxt (G : GC) (H : Hp) (al : List Addr) (H' : Hp) (al' : List Addr) (M' : Mem) : Prop where
  p : al <+: al'
  k : KeepH H H'
  m : RMem G H' al' M'
section
variable {G : GC} {H H1 H2 : Hp} {al al1 al2 : List Addr} {M M1 M2 : Mem} {σ : L2.St} {ρ : Env}
theorem RMem.go (m : RMem G H al M) : Nxt G H al H al M := ⟨List.prefix_refl _, KeepH.refl _, m⟩
theorem Nxt.trans (a : Nxt G H al H1 al1 M1) (b : Nxt G H1 al1 H2 al2 M2) : Nxt G H al H2 al2 M2 := ⟨a.p.trans b.p, a.k.trans b.k, b.m⟩
theorem REnv.mono (k : KeepH H H1) (p : al <+: al1) (e : REnv G H al σ ρ) : REnv G H1 al1 σ ρ :=
  ⟨e.1, fun i d h => let ⟨v, a, b⟩ := e.2 i d h; ⟨v, a, b.mono k p⟩⟩
theorem XOk.mono (k : KeepH H H1) (p : al <+: al1) (e : XOk G H al σ) : XOk G H1 al1 σ := by
  unfold XOk at e ⊢
  cases h : G.xn with
  | none => trivial
  | some n => rw [h] at e; exact ⟨e.1.mono k p, e.2⟩
theorem RSt.go (r : RSt G H al M σ ρ) (g : Nxt G H al H1 al1 M1) : RSt G H1 al1 M1 σ ρ := ⟨g.m, r.e.mono g.k g.p, r.x.mono g.k g.p⟩
theorem RSt.len (r : RSt G H al M σ ρ) : ρ.length = σ.length := r.e.1

/-- a new object of the memory -/
theorem RMem.new (m : RMem G H al M) {p : Addr} {o : O} {u : HO} (h : H p = none) (r : RObj G.K H al G.cm o u) : Nxt G H al (upd H p u) (al ++ [p]) (M ++ [o]) := by
  have k : KeepH H (upd H p u) := KeepH.new h
  have px : al <+: al ++ [p] := List.prefix_append _ _
  refine ⟨px, k, ?_, ?_, fun n o' e => ?_⟩
  · refine List.nodup_append.mpr ⟨m.nd, by simp, fun a ha b hb => ?_⟩
    have e : b = p := by simpa using hb
    subst e
    obtain ⟨n, hn⟩ := List.getElem?_of_mem ha
    have hl : n < M.length := by rw [← m.len]; exact (List.getElem?_eq_some_iff.mp hn).1
    obtain ⟨a', u', e1, e2, _⟩ := m.at_ n _ (List.getElem?_eq_getElem hl)
    rw [hn] at e1; cases e1
    intro z; subst z; rw [h] at e2; cases e2
  · rw [List.length_append, List.length_append, m.len]; rfl
  · by_cases hn : n < M.length
    · rw [List.getElem?_append_left hn] at e
      obtain ⟨a, u', e1, e2, r'⟩ := m.at_ n o' e
      exact ⟨a, u', pfx_get px e1, by rw [upd_ne (ne_of_none e2 h)]; exact e2, r'.mono k px⟩
    · have hl : n < (M ++ [o]).length := (List.getElem?_eq_some_iff.mp e).1
      rw [List.length_append] at hl
      have en : n = M.length := by simp at hl; omega
      subst en
      rw [List.getElem?_append_right (Nat.le_refl _), Nat.sub_self] at e
      simp at e; subst e
      refine ⟨p, u, ?_, upd_same, r.mono k px⟩
      rw [← m.len, List.getElem?_append_right (Nat.le_refl _), Nat.sub_self]; rfl
/-- an object of the memory written -/
theorem RMem.wr (m : RMem G H al M) {n : Nat} {a : Addr} {o : O} {u w : HO} (hn : al[n]? = some a) (hw : H a = some w) (sw : stab w = false) (r : RObj G.K H al G.cm o u) : Nxt G H al (upd H a u) al (M.set n o) := by
  have k : KeepH H (upd H a u) := KeepH.wr hw sw
  refine ⟨List.prefix_refl _, k, m.nd, by rw [List.length_set]; exact m.len, fun j o' e => ?_⟩
  by_cases hj : n = j
  · subst hj
    have hl : n < M.length := by rw [← m.len]; exact (List.getElem?_eq_some_iff.mp hn).1
    rw [List.getElem?_set_self hl] at e; cases e
    exact ⟨a, u, hn, upd_same, r.mono k (List.prefix_refl _)⟩
  · rw [List.getElem?_set_ne hj] at e
    obtain ⟨b, u', e1, e2, r'⟩ := m.at_ j o' e
    have hb : b ≠ a := fun z => by
      subst z
      obtain ⟨l1, q1⟩ := List.getElem?_eq_some_iff.mp hn
      obtain ⟨l2, q2⟩ := List.getElem?_eq_some_iff.mp e1
      exact hj ((List.getElem_inj m.nd).mp (q1.trans q2.symm))
    exact ⟨b, u', e1, by rw [upd_ne hb]; exact e2, r'.mono k (List.prefix_refl _)⟩
/-- a tuple is made -/
theorem RMem.tup (m : RMem G H al M) {p : Addr} {vs : List V} (h : H p = none) : Nxt G H al (upd H p (.tup vs)) al M := by
  have k : KeepH H (upd H p (.tup vs)) := KeepH.new h
  exact ⟨List.prefix_refl _, k, m.nd, m.len, fun n o e => let ⟨a, u, e1, e2, r⟩ := m.at_ n o e; ⟨a, u, e1, by rw [upd_ne (ne_of_none e2 h)]; exact e2, r.mono k (List.prefix_refl _)⟩⟩
theorem RMem.lst (m : RMem G H al M) {n : Nat} {xs : List D} {v : V} (r : RDat G.K H al (.ref n) v) (e : M[n]? = some (.lst xs)) : ∃ a vs, v = .ref a ∧ al[n]? = some a ∧ H a = some (.lst vs) ∧ RDats G.K H al xs vs := by
  rw [RDat] at r
  obtain ⟨a, ea, ev⟩ := r
  obtain ⟨b, u, e1, e2, vs, e3, q⟩ := m.at_ n _ e
  rw [ea] at e1; cases e1; subst e3
  exact ⟨a, vs, ev, ea, e2, q⟩
theorem RMem.fro (m : RMem G H al M) {n : Nat} {xs : List D} {v : V} (r : RDat G.K H al (.ref n) v) (e : M[n]? = some (.fro xs)) : ∃ a vs, v = .ref a ∧ SqL G.K H a vs ∧ RDats G.K H al xs vs := by
  rw [RDat] at r
  obtain ⟨a, ea, ev⟩ := r
  obtain ⟨b, u, e1, e2, ob, vs, e3, q⟩ := m.at_ n _ e
  rw [ea] at e1; cases e1; subst e3
  exact ⟨a, vs, ev, .inl (.inr ⟨ob, e2⟩), q⟩
/-- the items of a list of the memory -/
def lstAt (M : Mem) (n : Nat) : Option (List D) := match M[n]? with
  | some (.lst xs) => some xs
  | some (.fro xs) => some xs
  | _ => none
theorem RMem.seq (m : RMem G H al M) {n : Nat} {xs : List D} {v : V} (r : RDat G.K H al (.ref n) v) (e : lstAt M n = some xs) : ∃ a vs, v = .ref a ∧ SqL G.K H a vs ∧ RDats G.K H al xs vs := by
  unfold lstAt at e
  cases h : M[n]? with
  | none => rw [h] at e; cases e
  | some o =>
    rw [h] at e
    cases o with
    | lst ys => cases e; obtain ⟨a, vs, ev, _, e2, q⟩ := m.lst r h; exact ⟨a, vs, ev, SqL.of e2, q⟩
    | fro ys => cases e; exact m.fro r h
    | dK _ => cases e
    | ins _ _ => cases e
end
end DN

set_option maxHeartbeats 4000000
/-! the readings over data, and the judgements -/
namespace DN
open PySem PySem.Spec L2

abbrev KD := D → Mem → Prop
abbrev XC := Exn → Mem → Prop
abbrev SE := XC → Env → Mem → KD → Prop
abbrev SC := XC → Env → Mem → (Bool → Mem → Prop) → Prop
abbrev SA := XC → Env → Mem → (List D → Mem → Prop) → Prop
abbrev Fn := List D → Mem → KD → XC → Prop

def XCl (G : GC) (W : WX) (H : Hp) (al : List Addr) (Ex : XC) (σ : L2.St) : Prop :=
  ∀ H' al' M' x cls dd, Nxt G H al H' al' M' → RExn G.K G.cm H' al' x cls dd → Ex x M' → W cls dd σ H'
theorem XCl.nxt {G : GC} {W : WX} {H H1 : Hp} {al al1 : List Addr} {M1 : Mem} {Ex : XC} {σ : L2.St} (c : XCl G W H al Ex σ) (n : Nxt G H al H1 al1 M1) : XCl G W H1 al1 Ex σ :=
  fun H' al' M' x cls dd n' r e => c H' al' M' x cls dd (n.trans n') r e
/-- what follows with a value -/
def VCl (G : GC) (H : Hp) (al : List Addr) (R : KD) (Q : VK) : Prop := ∀ H' al' M' v d, Nxt G H al H' al' M' → RDat G.K H' al' d v → R d M' → Q v H'
theorem VCl.nxt {G : GC} {H H1 : Hp} {al al1 : List Addr} {M1 : Mem} {R : KD} {Q : VK} (c : VCl G H al R Q) (n : Nxt G H al H1 al1 M1) : VCl G H1 al1 R Q :=
  fun H' al' M' v d n' r e => c H' al' M' v d (n.trans n') r e

def LE (G : GC) (W : WX) (t : SE) : TE := fun σ H Q => ∃ ρ al M Ex R, RSt G H al M σ ρ ∧ t Ex ρ M R ∧ VCl G H al R Q ∧ XCl G W H al Ex σ
def LC (G : GC) (W : WX) (t : SC) : TT := fun σ H Q => ∃ ρ al M Ex R, RSt G H al M σ ρ ∧ t Ex ρ M R ∧ (∀ H' al' M' b, Nxt G H al H' al' M' → R b M' → Q b H') ∧ XCl G W H al Ex σ
def LA (G : GC) (W : WX) (n : Nat) (t : SA) : TA := fun σ H Q => ∃ ρ al M Ex R, RSt G H al M σ ρ ∧ t Ex ρ M R ∧ (∀ H' al' M' vs ds, Nxt G H al H' al' M' → RDats G.K H' al' ds vs → ds.length = n → R ds M' → Q vs H') ∧ XCl G W H al Ex σ
def ME (X : Cx) (G : GC) (e : Expr) (t : SE) : Prop := ∀ W, Takes X W → PE X e (LE G W t)
def MC (X : Cx) (G : GC) (e : Expr) (t : SC) : Prop := ∀ W, Takes X W → PT X e (LC G W t)
def MA (X : Cx) (G : GC) (es : List Expr) (t : SA) : Prop := ∀ W, Takes X W → PA X es (LA G W es.length t)

theorem PE.imp {X : Cx} {e : Expr} {t t' : TE} (h : PE X e t) (i : ∀ σ H Q, t' σ H Q → t σ H Q) : PE X e t' := ⟨fun pins s σ H Q I w => h.run pins s σ H Q I (i σ H Q w)⟩
theorem PT.imp {X : Cx} {e : Expr} {t t' : TT} (h : PT X e t) (i : ∀ σ H Q, t' σ H Q → t σ H Q) : PT X e t' := ⟨fun pins s σ H Q I w => h.run pins s σ H Q I (i σ H Q w)⟩
theorem PW.imp {X : Cx} {e : Expr} {t t' : TT} (h : PW X e t) (i : ∀ σ H Q, t' σ H Q → t σ H Q) : PW X e t' := ⟨fun wh pins s σ H Q I w => h.run wh pins s σ H Q I (i σ H Q w)⟩
theorem PA.imp {X : Cx} {e : List Expr} {t t' : TA} (h : PA X e t) (i : ∀ σ H Q, t' σ H Q → t σ H Q) : PA X e t' := ⟨fun pos pins s σ H Q I w => h.run pos pins s σ H Q I (i σ H Q w)⟩
theorem PS.imp {X : Cx} {e : Stmt} {t t' : TS} (h : PS X e t) (i : ∀ D σ H, t' D σ H → t D σ H) : PS X e t' := ⟨fun pins s σ H D I w => h.run pins s σ H D I (i D σ H w)⟩
theorem PSs.imp {X : Cx} {e : List Stmt} {t t' : TS} (h : PSs X e t) (i : ∀ D σ H, t' D σ H → t D σ H) : PSs X e t' := ⟨fun pins s σ H D I w => h.run pins s σ H D I (i D σ H w)⟩

/-! ### slots -/
def slot : Env → Nat → Option D
  | [], _ => none
  | x :: _, 0 => x
  | _ :: r, i + 1 => slot r i
theorem slot_get : ∀ {ρ : Env} {i : Nat} {d : D}, slot ρ i = some d → ρ[i]? = some (some d)
  | [], _, _, h => by simp [slot] at h
  | x :: _, 0, d, h => by simp [slot] at h; simp [h]
  | _ :: r, i + 1, d, h => by
    have := slot_get (ρ := r) (i := i) h
    simpa using this

/-! ### names, constants -/
def eVar (i : Nat) : SE := fun _ ρ M R => match slot ρ i with | some d => R d M | none => False
def eC (d : D) : SE := fun _ _ M R => R d M
section
variable {X : Cx} {G : GC}
theorem me_var {i : Nat} {x : Str} {pos : Pos} (hN : X.N[i]? = some x) (hv : Vis X.env.scope x) (hd : (x == ("__debug__" : Str)) = false) (hcd : (x == ("__classdict__" : Str)) = false) : ME X G (.Name x pos) (eVar i) := by
  refine fun W tk => PE.imp (pe_var (i := i) hN hv hd hcd) fun σ H Q h => ?_
  obtain ⟨ρ, al, M, Ex, R, r, t, c, _⟩ := h
  unfold eVar at t
  cases e : slot ρ i with
  | none => rw [e] at t; exact t.elim
  | some d =>
    rw [e] at t
    obtain ⟨v, e1, rv⟩ := r.e.2 i d (slot_get e)
    exact ⟨v, e1, c _ _ _ _ _ r.m.go rv t⟩
theorem me_of_tC {e : Expr} {v : V} {d : D} (h : PE X e (tC v)) (r : ∀ H al, RDat G.K H al d v) : ME X G e (eC d) := by
  refine fun W tk => PE.imp h fun σ H Q h => ?_
  obtain ⟨ρ, al, M, Ex, R, rr, t, c, _⟩ := h
  exact c _ _ _ _ _ rr.m.go (r H al) t
theorem me_int {i : Int} {j pos} : ME X G (.Constant (.int i) j pos) (eC (.int i)) := me_of_tC pe_int fun _ _ => by rw [RDat]
theorem me_bl {b : Bool} {j pos} : ME X G (.Constant (.bool b) j pos) (eC (.bl b)) := me_of_tC pe_bl fun _ _ => by rw [RDat]
theorem me_non {j pos} : ME X G (.Constant .none j pos) (eC .non) := me_of_tC pe_non fun _ _ => by rw [RDat]
theorem me_str {x : Str} {j pos} : ME X G (.Constant (.str x) j pos) (eC (.str x)) := me_of_tC pe_str fun _ _ => by rw [RDat]

/-! ### two-place operations by values -/
abbrev Op2 := D → D → Mem → KD → Prop
def LR (G : GC) (g : Op2) : R2 := fun x y H Q => ∃ al M dx dy R, RMem G H al M ∧ RDat G.K H al dx x ∧ RDat G.K H al dy y ∧ g dx dy M R ∧ VCl G H al R Q
def eBin (g : Op2) (ta tb : SE) : SE := fun Ex ρ M R => ta Ex ρ M fun x M1 => tb Ex ρ M1 fun y M2 => g x y M2 R
variable {a b c : Expr} {ta tb tc : SE} {pos : Pos}
theorem le_bin {W : WX} {g : Op2} {σ : L2.St} {H : Hp} {Q : VK} (h : LE G W (eBin g ta tb) σ H Q) : tOp (LR G g) (LE G W ta) (LE G W tb) σ H Q := by
  obtain ⟨ρ, al, M, Ex, R, r, t, c, xc⟩ := h
  exact ⟨ρ, al, M, Ex, _, r, t, fun H1 al1 M1 x dx n1 r1 h1 => ⟨ρ, al1, M1, Ex, _, r.go n1, h1, fun H2 al2 M2 y dy n2 r2 h2 =>
    ⟨al2, M2, dx, dy, R, n2.m, r1.mono n2.k n2.p, r2, h2, c.nxt (n1.trans n2)⟩, xc.nxt n1⟩, xc⟩
theorem me_bin {op : Operator} {g : Op2} (ho : OpR X (binaryOp op) (LR G g)) (ha : ME X G a ta) (hb : ME X G b tb) : ME X G (.BinOp a op b pos) (eBin g ta tb) :=
  fun W tk => PE.imp (pe_op ho (ha W tk) (hb W tk)) fun _ _ _ h => le_bin h
theorem me_cmp {op : CmpOp} {g : Op2} (ho : OpR X (compareOp op) (LR G g)) (ha : ME X G a ta) (hb : ME X G b tb) (hm : behindInMarks op b = false) : ME X G (.Compare a [op] [b] pos) (eBin g ta tb) :=
  fun W tk => PE.imp (pe_cmpR ho (ha W tk) (hb W tk) hm) fun _ _ _ h => le_bin h
theorem me_ix {g : Op2} (ho : IxR X (LR G g)) (ha : ME X G a ta) (hb : ME X G b tb) (hs : PlainIx b) : ME X G (.Subscript a b pos) (eBin g ta tb) :=
  fun W tk => PE.imp (pe_ix ho (ha W tk) (hb W tk) hs) fun _ _ _ h => le_bin h
/-- a value as a test where it is a bool -/
def cB (t : SE) : SC := fun Ex ρ M R => t Ex ρ M fun d M1 => match d with | .bl k => R k M1 | _ => False
theorem mc_cmp {op : CmpOp} {g : Op2} (ho : OpR X (compareOp op) (LR G g)) (ha : ME X G a ta) (hb : ME X G b tb) (hm : behindInMarks op b = false) : MC X G (.Compare a [op] [b] pos) (cB (eBin g ta tb)) := by
  refine fun W tk => PT.imp (pt_cmpR ho (ha W tk) (hb W tk) hm) fun σ H Q h => ?_
  obtain ⟨ρ, al, M, Ex, R, r, t, c, xc⟩ := h
  refine le_bin (g := g) ⟨ρ, al, M, Ex, _, r, t, fun H1 al1 M1 v d n1 r1 h1 => ?_, xc⟩
  cases d with
  | bl k => rw [RDat] at r1; exact ⟨k, r1, c _ _ _ _ n1 h1⟩
  | _ => exact h1.elim
/-! ### unary -/
abbrev Op1 := D → Mem → KD → Prop
def LU (G : GC) (g : Op1) : V → Hp → VK → Prop := fun x H Q => ∃ al M dx R, RMem G H al M ∧ RDat G.K H al dx x ∧ g dx M R ∧ VCl G H al R Q
def eUn (g : Op1) (ta : SE) : SE := fun Ex ρ M R => ta Ex ρ M fun x M1 => g x M1 R
theorem me_un {op : UnaryOp} {g : Op1} (ho : UnR X (unaryOp op) (LU G g)) (ha : ME X G a ta) : ME X G (.UnaryOp op a pos) (eUn g ta) := by
  refine fun W tk => PE.imp (pe_un ho (ha W tk)) fun σ H Q h => ?_
  obtain ⟨ρ, al, M, Ex, R, r, t, c, xc⟩ := h
  exact ⟨ρ, al, M, Ex, _, r, t, fun H1 al1 M1 x dx n1 r1 h1 => ⟨al1, M1, dx, R, n1.m, r1, h1, c.nxt n1⟩, xc⟩
/-! ### chains -/
def eChain (g g' : Op2) (ta tb tc : SE) : SE := fun Ex ρ M R => ta Ex ρ M fun x M1 => tb Ex ρ M1 fun y M2 => g x y M2 fun z M3 => match z with
  | .bl true => tc Ex ρ M3 fun w M4 => g' y w M4 R
  | .bl false => R (.bl false) M3
  | _ => False
theorem le_chain {W : WX} {g g' : Op2} {σ : L2.St} {H : Hp} {Q : VK} (h : LE G W (eChain g g' ta tb tc) σ H Q) : tChain (LR G g) (LR G g') (LE G W ta) (LE G W tb) (LE G W tc) σ H Q := by
  obtain ⟨ρ, al, M, Ex, R, r, t, c, xc⟩ := h
  refine ⟨ρ, al, M, Ex, _, r, t, fun H1 al1 M1 x dx n1 r1 h1 => ⟨ρ, al1, M1, Ex, _, r.go n1, h1, fun H2 al2 M2 y dy n2 r2 h2 => ?_, xc.nxt n1⟩, xc⟩
  refine ⟨al2, M2, dx, dy, _, n2.m, r1.mono n2.k n2.p, r2, h2, fun H3 al3 M3 z dz n3 r3 h3 => ?_⟩
  have n13 := n1.trans (n2.trans n3)
  cases dz with
  | bl k =>
    rw [RDat] at r3
    refine ⟨k, r3, ?_⟩
    cases k with
    | true =>
      rw [if_pos rfl]
      exact ⟨ρ, al3, M3, Ex, _, r.go n13, h3, fun H4 al4 M4 w dw n4 r4 h4 => ⟨al4, M4, dy, dw, R, n4.m, r2.mono (n3.k.trans n4.k) (n3.p.trans n4.p), r4, h4, c.nxt (n13.trans n4)⟩, xc.nxt n13⟩
    | false =>
      rw [if_neg Bool.false_ne_true]
      exact c _ _ _ _ _ n13 (by rw [RDat]) h3
  | _ => exact h3.elim
theorem me_chain {op op' : CmpOp} {g g' : Op2} (ho : OpR X (compareOp op) (LR G g)) (ho' : OpR X (compareOp op') (LR G g')) (ha : ME X G a ta) (hb : ME X G b tb) (hc : ME X G c tc)
    (hm : lastMarks [op, op'] [b, c] = false) : ME X G (.Compare a [op, op'] [b, c] pos) (eChain g g' ta tb tc) :=
  fun W tk => PE.imp (pe_chain ho ho' (ha W tk) (hb W tk) (hc W tk) hm) fun _ _ _ h => le_chain h
theorem mc_chain {op op' : CmpOp} {g g' : Op2} (ho : OpR X (compareOp op) (LR G g)) (ho' : OpR X (compareOp op') (LR G g')) (ha : ME X G a ta) (hb : ME X G b tb) (hc : ME X G c tc)
    (hm : lastMarks [op, op'] [b, c] = false) : MC X G (.Compare a [op, op'] [b, c] pos) (cB (eChain g g' ta tb tc)) := by
  refine fun W tk => PT.imp (pt_chain ho ho' (ha W tk) (hb W tk) (hc W tk) hm) fun σ H Q h => ?_
  obtain ⟨ρ, al, M, Ex, R, r, t, c, xc⟩ := h
  refine le_chain (g := g) (g' := g') ⟨ρ, al, M, Ex, _, r, t, fun H1 al1 M1 v d n1 r1 h1 => ?_, xc⟩
  cases d with
  | bl k => rw [RDat] at r1; exact ⟨k, r1, c _ _ _ _ n1 h1⟩
  | _ => exact h1.elim

/-! ### truth -/
def tru (d : D) (M : Mem) : Option Bool := match d with
  | .non => some false
  | .bl b => some b
  | .int i => some (i != 0)
  | .str x => if x.length ≤ sizeLine then some ((x.length : Int) != 0) else none
  | .tup xs => some (!xs.isEmpty)
  | .ref n => match M[n]? with
    | some (.lst xs) => some (!xs.isEmpty)
    | some (.fro xs) => some (!xs.isEmpty)
    | some (.dK kvs) => some (!kvs.isEmpty)
    | _ => none
  | .con xs => some (!xs.isEmpty)
theorem RDats.isEmpty {K : PySem.W.Frag} {H : Hp} {al : List Addr} {ds : List D} {vs : List V} (r : RDats K H al ds vs) : (!vs.isEmpty) = !ds.isEmpty := by
  have := r.length
  cases ds <;> cases vs <;> simp_all
theorem tru_ok {H : Hp} {al : List Addr} {M : Mem} {d : D} {v : V} {k : Bool} (m : RMem G H al M) (r : RDat G.K H al d v) (h : tru d M = some k) : TruV G.K v H k := by
  cases d with
  | non => rw [RDat] at r; subst r; simp [tru] at h; subst h; rfl
  | bl b => rw [RDat] at r; subst r; simp [tru] at h; subst h; rfl
  | int i => rw [RDat] at r; subst r; simp only [tru, Option.some.injEq] at h; exact h.symm
  | str x =>
    rw [RDat] at r; subst r
    have h : (if x.length ≤ sizeLine then some ((x.length : Int) != 0) else none) = some k := h
    by_cases hz : x.length ≤ sizeLine
    · rw [if_pos hz] at h; cases h; exact ⟨hz, rfl⟩
    · rw [if_neg hz] at h; cases h
  | tup xs =>
    rw [RDat] at r
    obtain ⟨a, vs, rfl, hs, rs⟩ := r
    simp only [tru, Option.some.injEq] at h
    exact .inr (.inl ⟨vs, hs, by rw [rs.isEmpty, h]⟩)
  | ref n =>
    unfold tru at h
    cases e : M[n]? with
    | none => simp [e] at h
    | some o =>
      cases o with
      | lst xs =>
        simp only [e, Option.some.injEq] at h
        obtain ⟨a, vs, rfl, _, e2, q⟩ := m.lst r e
        exact .inl ⟨vs, SqL.of e2, by rw [q.isEmpty, h]⟩
      | fro xs =>
        simp only [e, Option.some.injEq] at h
        obtain ⟨a, vs, rfl, e2, q⟩ := m.fro r e
        exact .inl ⟨vs, e2, by rw [q.isEmpty, h]⟩
      | dK kvs =>
        simp only [e, Option.some.injEq] at h
        rw [RDat] at r
        obtain ⟨a, ea, rfl⟩ := r
        obtain ⟨b, u, e1, e2, ws, e3, q⟩ := m.at_ n _ e
        rw [ea] at e1; cases e1; subst e3
        exact .inr (.inr ⟨ws, e2, by rw [← h]; cases q <;> rfl⟩)
      | ins _ _ => simp [e] at h
  | con xs =>
    rw [RDat] at r
    obtain ⟨a, vs, rfl, hs, rs⟩ := r
    simp only [tru, Option.some.injEq] at h
    exact .inl ⟨vs, hs.seq, by rw [rs.isEmpty, h]⟩
/-- a value's truth -/
def withTru (d : D) (M : Mem) (R : Bool → Mem → Prop) : Prop := match tru d M with | some k => R k M | none => False
def cT (t : SE) : SC := fun Ex ρ M R => t Ex ρ M fun d M1 => withTru d M1 R
theorem mc_tru (hK : X.K = G.K) (ha : ME X G a ta) (he : ∀ whole, isTrue a X.env whole = (do let v ← whole; standAt a.pos; holding [v] (truthy v))) : MC X G a (cT ta) := by
  refine fun W tk => PT.imp (pt_truth (ha W tk) he) fun σ H Q h => ?_
  obtain ⟨ρ, al, M, Ex, R, r, t, c, xc⟩ := h
  refine ⟨ρ, al, M, Ex, _, r, t, fun H1 al1 M1 v d n1 r1 h1 => ?_, xc⟩
  have h1 : withTru d M1 R := h1
  unfold withTru at h1
  cases e : tru d M1 with
  | none => rw [e] at h1; exact h1.elim
  | some k => rw [e] at h1; exact ⟨k, by rw [hK]; exact tru_ok n1.m r1 e, c _ _ _ _ n1 h1⟩
def cNot (t : SC) : SC := fun Ex ρ M R => t Ex ρ M fun k M1 => R (!k) M1
def cAnd (t u : SC) : SC := fun Ex ρ M R => t Ex ρ M fun k M1 => match k with | true => u Ex ρ M1 R | false => R false M1
def cOr (t u : SC) : SC := fun Ex ρ M R => t Ex ρ M fun k M1 => match k with | true => R true M1 | false => u Ex ρ M1 R
variable {t u : SC} {rest : List Expr}
theorem mc_not (ha : MC X G a t) : MC X G (.UnaryOp .Not a pos) (cNot t) := by
  refine fun W tk => PT.imp (pt_not (ha W tk)) fun σ H Q h => ?_
  obtain ⟨ρ, al, M, Ex, R, r, t, c, xc⟩ := h
  exact ⟨ρ, al, M, Ex, _, r, t, fun H1 al1 M1 k n1 h1 => c _ _ _ _ n1 h1, xc⟩
def MW (X : Cx) (G : GC) (e : Expr) (t : SC) : Prop := ∀ W, Takes X W → PW X e (LC G W t)
theorem MW.mc {e : Expr} (h : MW X G e t) : MC X G e t := fun W tk => (h W tk).pt
theorem mw_and1 (ha : MC X G a t) : MW X G (.BoolOp .And [a] pos) t := fun W tk => pw_and1 (ha W tk)
theorem mw_or1 (ha : MC X G a t) : MW X G (.BoolOp .Or [a] pos) t := fun W tk => pw_or1 (ha W tk)
theorem mw_and (ha : MC X G a t) (hb : MW X G (.BoolOp .And (b :: rest) pos) u) : MW X G (.BoolOp .And (a :: b :: rest) pos) (cAnd t u) := by
  refine fun W tk => PW.imp (pw_and (ha W tk) (hb W tk)) fun σ H Q h => ?_
  obtain ⟨ρ, al, M, Ex, R, r, t, c, xc⟩ := h
  refine ⟨ρ, al, M, Ex, _, r, t, fun H1 al1 M1 k n1 h1 => ?_, xc⟩
  cases k with
  | true => rw [if_pos rfl]; exact ⟨ρ, al1, M1, Ex, R, r.go n1, h1, fun H2 al2 M2 k n2 h2 => c _ _ _ _ (n1.trans n2) h2, xc.nxt n1⟩
  | false => rw [if_neg Bool.false_ne_true]; exact c _ _ _ _ n1 h1
theorem mw_or (ha : MC X G a t) (hb : MW X G (.BoolOp .Or (b :: rest) pos) u) : MW X G (.BoolOp .Or (a :: b :: rest) pos) (cOr t u) := by
  refine fun W tk => PW.imp (pw_or (ha W tk) (hb W tk)) fun σ H Q h => ?_
  obtain ⟨ρ, al, M, Ex, R, r, t, c, xc⟩ := h
  refine ⟨ρ, al, M, Ex, _, r, t, fun H1 al1 M1 k n1 h1 => ?_, xc⟩
  cases k with
  | false => rw [if_neg Bool.false_ne_true]; exact ⟨ρ, al1, M1, Ex, R, r.go n1, h1, fun H2 al2 M2 k n2 h2 => c _ _ _ _ (n1.trans n2) h2, xc.nxt n1⟩
  | true => rw [if_pos rfl]; exact c _ _ _ _ n1 h1
/-! ### and, or, not as values -/
def eAnd (ta tb : SE) : SE := fun Ex ρ M R => ta Ex ρ M fun x M1 => match tru x M1 with | some true => tb Ex ρ M1 R | some false => R x M1 | none => False
def eOr (ta tb : SE) : SE := fun Ex ρ M R => ta Ex ρ M fun x M1 => match tru x M1 with | some true => R x M1 | some false => tb Ex ρ M1 R | none => False
def eNot (ta : SE) : SE := fun Ex ρ M R => ta Ex ρ M fun x M1 => match tru x M1 with | some k => R (.bl (!k)) M1 | none => False
theorem me_one {op} (h : ME X G a ta) : ME X G (.BoolOp op [a] pos) ta := fun W tk => pe_one (h W tk)
theorem me_and (hK : X.K = G.K) (ha : ME X G a ta) (hb : ME X G (.BoolOp .And (b :: rest) pos) tb) : ME X G (.BoolOp .And (a :: b :: rest) pos) (eAnd ta tb) := by
  refine fun W tk => PE.imp (pe_andT (ha W tk) (hb W tk)) fun σ H Q h => ?_
  obtain ⟨ρ, al, M, Ex, R, r, t, c, xc⟩ := h
  refine ⟨ρ, al, M, Ex, _, r, t, fun H1 al1 M1 x d n1 r1 h1 => ?_, xc⟩
  cases e : tru d M1 with
  | none => simp only [e] at h1
  | some k =>
    refine ⟨k, by rw [hK]; exact tru_ok n1.m r1 e, ?_⟩
    cases k with
    | true => simp only [e] at h1; rw [if_pos rfl]; exact ⟨ρ, al1, M1, Ex, R, r.go n1, h1, c.nxt n1, xc.nxt n1⟩
    | false => simp only [e] at h1; rw [if_neg Bool.false_ne_true]; exact c _ _ _ _ _ n1 r1 h1
theorem me_or (hK : X.K = G.K) (ha : ME X G a ta) (hb : ME X G (.BoolOp .Or (b :: rest) pos) tb) : ME X G (.BoolOp .Or (a :: b :: rest) pos) (eOr ta tb) := by
  refine fun W tk => PE.imp (pe_orT (ha W tk) (hb W tk)) fun σ H Q h => ?_
  obtain ⟨ρ, al, M, Ex, R, r, t, c, xc⟩ := h
  refine ⟨ρ, al, M, Ex, _, r, t, fun H1 al1 M1 x d n1 r1 h1 => ?_, xc⟩
  cases e : tru d M1 with
  | none => simp only [e] at h1
  | some k =>
    refine ⟨k, by rw [hK]; exact tru_ok n1.m r1 e, ?_⟩
    cases k with
    | false => simp only [e] at h1; rw [if_neg Bool.false_ne_true]; exact ⟨ρ, al1, M1, Ex, R, r.go n1, h1, c.nxt n1, xc.nxt n1⟩
    | true => simp only [e] at h1; rw [if_pos rfl]; exact c _ _ _ _ _ n1 r1 h1
theorem me_not (hK : X.K = G.K) (ha : ME X G a ta) : ME X G (.UnaryOp .Not a pos) (eNot ta) := by
  refine fun W tk => PE.imp (pe_notT (ha W tk)) fun σ H Q h => ?_
  obtain ⟨ρ, al, M, Ex, R, r, t, c, xc⟩ := h
  refine ⟨ρ, al, M, Ex, _, r, t, fun H1 al1 M1 x d n1 r1 h1 => ?_, xc⟩
  cases e : tru d M1 with
  | none => simp only [e] at h1
  | some k => simp only [e] at h1; exact ⟨k, by rw [hK]; exact tru_ok n1.m r1 e, c _ _ _ _ _ n1 (by rw [RDat]) h1⟩
def eIf (t : SC) (ta tb : SE) : SE := fun Ex ρ M R => t Ex ρ M fun k M1 => match k with | true => ta Ex ρ M1 R | false => tb Ex ρ M1 R
theorem me_ifExp (hc : MC X G c t) (ha : ME X G a ta) (hb : ME X G b tb) : ME X G (.IfExp c a b pos) (eIf t ta tb) := by
  refine fun W tk => PE.imp (pe_ifExp (hc W tk) (ha W tk) (hb W tk)) fun σ H Q h => ?_
  obtain ⟨ρ, al, M, Ex, R, r, t, c, xc⟩ := h
  refine ⟨ρ, al, M, Ex, _, r, t, fun H1 al1 M1 k n1 h1 => ?_, xc⟩
  cases k with
  | true => rw [if_pos rfl]; exact ⟨ρ, al1, M1, Ex, R, r.go n1, h1, c.nxt n1, xc.nxt n1⟩
  | false => rw [if_neg Bool.false_ne_true]; exact ⟨ρ, al1, M1, Ex, R, r.go n1, h1, c.nxt n1, xc.nxt n1⟩

/-! ### argument lists, displays -/
def aNil : SA := fun _ _ M R => R [] M
def aCons (ta : SE) (tr : SA) : SA := fun Ex ρ M R => ta Ex ρ M fun x M1 => tr Ex ρ M1 fun xs M2 => R (x :: xs) M2
variable {es : List Expr} {tt : SA}
theorem ma_nil : MA X G [] aNil := by
  refine fun W tk => PA.imp pa_nil fun σ H Q h => ?_
  obtain ⟨ρ, al, M, Ex, R, r, t, c, xc⟩ := h
  exact c _ _ _ _ _ r.m.go RDats.nil rfl t
theorem ma_cons (ha : ME X G a ta) (hr : MA X G es tt) (hs : starEach (a :: es) X.env = (false, eval a X.env) :: starEach es X.env) : MA X G (a :: es) (aCons ta tt) := by
  refine fun W tk => PA.imp (pa_cons (ha W tk) (hr W tk) hs) fun σ H Q h => ?_
  obtain ⟨ρ, al, M, Ex, R, r, t, c, xc⟩ := h
  exact ⟨ρ, al, M, Ex, _, r, t, fun H1 al1 M1 x d n1 r1 h1 => ⟨ρ, al1, M1, Ex, _, r.go n1, h1, fun H2 al2 M2 xs ds n2 r2 l2 h2 => c _ _ _ _ _ (n1.trans n2) (RDats.cons (r1.mono n2.k n2.p) r2) (by rw [List.length_cons, List.length_cons, l2]) h2, xc.nxt n1⟩, xc⟩
def eTup (tt : SA) : SE := fun Ex ρ M R => tt Ex ρ M fun ds M1 => ds.length ≤ sizeLine ∧ R (.tup ds) M1
def eLst (tt : SA) : SE := fun Ex ρ M R => tt Ex ρ M fun ds M1 => ds.length ≤ sizeLine ∧ R (.ref M1.length) (M1 ++ [.lst ds])
theorem me_tup {x1} (h : MA X G es tt) : ME X G (.Tuple es x1 pos) (eTup tt) := by
  refine fun W tk => PE.imp (pe_tup (h W tk)) fun σ H Q h => ?_
  obtain ⟨ρ, al, M, Ex, R, r, t, c, xc⟩ := h
  refine ⟨ρ, al, M, Ex, _, r, t, fun H1 al1 M1 vs ds n1 r1 l1 h1 => ?_, xc⟩
  obtain ⟨hz, h1⟩ := h1
  refine ⟨by rw [← r1.length]; exact hz, fun p hp => ?_⟩
  have n2 := n1.m.tup (vs := vs) hp
  exact c _ _ _ _ _ (n1.trans n2) (RDat.tup_of (SqT.of upd_same) (r1.mono n2.k n2.p)) h1
theorem rdat_new {H : Hp} {al : List Addr} {M : Mem} {p : Addr} (hl : al.length = M.length) : RDat G.K H (al ++ [p]) (.ref M.length) (.ref p) := by
  rw [RDat, ← hl]
  exact ⟨p, by rw [List.getElem?_append_right (Nat.le_refl _), Nat.sub_self]; rfl, rfl⟩
theorem me_lst (h : MA X G es tt) : ME X G (.List es pos) (eLst tt) := by
  refine fun W tk => PE.imp (pe_lst (h W tk)) fun σ H Q h => ?_
  obtain ⟨ρ, al, M, Ex, R, r, t, c, xc⟩ := h
  refine ⟨ρ, al, M, Ex, _, r, t, fun H1 al1 M1 vs ds n1 r1 l1 h1 => ?_, xc⟩
  obtain ⟨hz, h1⟩ := h1
  refine ⟨by rw [← r1.length]; exact hz, fun p hp => ?_⟩
  have n2 := n1.m.new (o := .lst ds) (u := .lst vs) hp ⟨vs, rfl, r1⟩
  exact c _ _ _ _ _ (n1.trans n2) (rdat_new n1.m.len) h1

/-! ### calls of built-ins -/
abbrev OpN := List D → Mem → KD → Prop
def LCall (G : GC) (g : OpN) : List V → Hp → VK → Prop := fun xs H Q => ∃ al M ds R, RMem G H al M ∧ RDats G.K H al ds xs ∧ g ds M R ∧ VCl G H al R Q
def eCallB (g : OpN) (tt : SA) : SE := fun Ex ρ M R => tt Ex ρ M fun ds M1 => g ds M1 R
theorem le_callB {W : WX} {g : OpN} {n : Nat} {σ : L2.St} {H : Hp} {Q : VK} (h : LE G W (eCallB g tt) σ H Q) : tCB (LCall G g) (LA G W n tt) σ H Q := by
  obtain ⟨ρ, al, M, Ex, R, r, t, c, xc⟩ := h
  exact ⟨ρ, al, M, Ex, _, r, t, fun H1 al1 M1 vs ds n1 r1 l1 h1 => ⟨al1, M1, ds, R, n1.m, r1, h1, c.nxt n1⟩, xc⟩
theorem me_callB {g : OpN} {x : Str} {id : String} {p : Pos} (hc : CallR X (.builtin id) (LCall G g)) (hg : Gl X x) (hm : X.mg x = none) (hv : bootBuiltins x = some (.builtin id)) (ha : MA X G (a :: es) tt) (hn : x ≠ "__name__") (hdb : (x == ("__debug__" : Str)) = false)
    (he : starEach (a :: es) X.env = (false, eval a X.env) :: starEach es X.env) (hpl : (backTo pos (starEach es X.env)).any (·.1) = false) : ME X G (.Call (.Name x p) (a :: es) [] pos) (eCallB g tt) :=
  fun W tk => PE.imp (pe_callB hc hg hm hv (ha W tk) hn hdb he hpl) fun _ _ _ h => le_callB h
theorem me_callTy {g : OpN} {x : Str} {T : String} {p : Pos} (hc : CallR X (.type T) (LCall G g)) (hg : Gl X x) (hm : X.mg x = none) (hv : bootBuiltins x = some (.type T)) (ha : MA X G (a :: es) tt) (hn : x ≠ "__name__") (hdb : (x == ("__debug__" : Str)) = false)
    (he : starEach (a :: es) X.env = (false, eval a X.env) :: starEach es X.env) (hpl : (backTo pos (starEach es X.env)).any (·.1) = false) : ME X G (.Call (.Name x p) (a :: es) [] pos) (eCallB g tt) :=
  fun W tk => PE.imp (pe_callTy hc hg hm hv (ha W tk) hn hdb he hpl) fun _ _ _ h => le_callB h

/-! ### methods of built-in types -/
abbrev OpM := D → List D → Mem → KD → Prop
def LMt (G : GC) (g : OpM) : V → List V → Hp → VK → Prop := fun x xs H Q => ∃ al M d ds R, RMem G H al M ∧ RDat G.K H al d x ∧ RDats G.K H al ds xs ∧ g d ds M R ∧ VCl G H al R Q
def eMt (g : OpM) (to : SE) (tt : SA) : SE := fun Ex ρ M R => to Ex ρ M fun d M1 => tt Ex ρ M1 fun ds M2 => g d ds M2 R

/-! ### calls of defs -/
/-- a def's promise over data -/
def LSp (G : GC) (F : Fn) (n : Nat) : Sp := fun vs H Q E => ∃ al M ds R Ex, vs.length = n ∧ RMem G H al M ∧ RDats G.K H al ds vs ∧ F ds M R Ex ∧ VCl G H al R Q ∧
  ∀ H' al' M' x cls dd, Nxt G H al H' al' M' → RExn G.K G.cm H' al' x cls dd → Ex x M' → E cls dd H'
def eCall (F : Fn) (tt : SA) : SE := fun Ex ρ M R => tt Ex ρ M fun ds M1 => F ds M1 R Ex
theorem RDats.vlen {K : PySem.W.Frag} {H : Hp} {al : List Addr} {ds : List D} {vs : List V} (r : RDats K H al ds vs) : vs.length = ds.length := r.length.symm
theorem me_call {k : Nat} {f : Addr} {fd : FuncData} {ps : List Str} {x : Str} {p : Pos} {F : Fn} {n : Nat} (hF : FnOk X.prog X.w X.K X.mg X.base (CX X.prog X.w) k f fd ps (LSp G F n)) (hr : Room k X.A) (hg : Gl X x) (hm : X.mg x = some (.ref f)) (hk : PySem.W.keepIn X.K (.ref f) = true) (hb : Binds X.K fd ps [])
    (ha : MA X G (a :: es) tt) (hn : (a :: es).length = n) (hdb : (x == ("__debug__" : Str)) = false) (he : starEach (a :: es) X.env = (false, eval a X.env) :: starEach es X.env) (hpl : (backTo pos (starEach es X.env)).any (·.1) = false) :
    ME X G (.Call (.Name x p) (a :: es) [] pos) (eCall F tt) := by
  intro W tk
  have hx : ∀ σ, PassesAt (CX X.prog X.w) X σ ((fun σ cls dd H => W cls dd σ H) σ) := fun σ => passAt tk σ
  refine PE.imp (pe_callSD hF hr hg hm hk hb .nil hx (ha W tk) hdb he hpl) fun σ H Q h => ?_
  obtain ⟨ρ, al, M, Ex, R, r, t, c, xc⟩ := h
  refine ⟨ρ, al, M, Ex, _, r, t, fun H1 al1 M1 vs ds n1 r1 l1 h1 => ?_, xc⟩
  show LSp G F n (vs ++ []) H1 Q _
  rw [List.append_nil]
  exact ⟨al1, M1, ds, R, Ex, by rw [r1.vlen, l1, hn], n1.m, r1, h1, c.nxt n1, fun H' al' M' x cls dd n' rx ex => xc _ _ _ _ _ _ (n1.trans n') rx ex⟩
end
end DN

set_option maxHeartbeats 4000000
/-! operations by values -/
namespace DN
open PySem PySem.Spec L2

/-! ### data as the library's data -/
mutual
def toPy : D → PyData
  | .non => .none | .bl b => .bool b | .int i => .int i | .str x => .str x | .tup xs => .tuple (toPys xs) | .ref _ => .none | .con _ => .none
def toPys : List D → List PyData
  | [] => []
  | x :: xs => toPy x :: toPys xs
end
mutual
def noref : D → Bool
  | .ref _ => false | .con _ => false | .tup xs => norefs xs | _ => true
def norefs : List D → Bool
  | [] => true
  | x :: xs => noref x && norefs xs
end
mutual
def eqD : D → D → Bool
  | .non, .non => true
  | .bl a, .bl b => a == b
  | .bl a, .int j => (if a then 1 else 0) == j
  | .int i, .bl b => i == (if b then 1 else 0)
  | .int i, .int j => i == j
  | .str x, .str y => x == y
  | .tup xs, .tup ys => eqL xs ys
  | _, _ => false
def eqL : List D → List D → Bool
  | [], [] => true
  | x :: xs, y :: ys => eqD x y && eqL xs ys
  | _, _ => false
end
mutual
theorem eqv_toPy : ∀ (x y : D), noref x = true → noref y = true → PyData.eqv (toPy x) (toPy y) = eqD x y
  | .tup xs, .tup ys, h1, h2 => by
    simp only [toPy, PyData.eqv, eqD]
    exact eqvs_toPys xs ys (by simpa [noref] using h1) (by simpa [noref] using h2)
  | .ref _, _, h1, _ => by simp [noref] at h1
  | .con _, _, h1, _ => by simp [noref] at h1
  | .non, .con _, _, h2 => by simp [noref] at h2
  | .bl _, .con _, _, h2 => by simp [noref] at h2
  | .int _, .con _, _, h2 => by simp [noref] at h2
  | .str _, .con _, _, h2 => by simp [noref] at h2
  | .tup _, .con _, _, h2 => by simp [noref] at h2
  | .non, .ref _, _, h2 => by simp [noref] at h2
  | .bl _, .ref _, _, h2 => by simp [noref] at h2
  | .int _, .ref _, _, h2 => by simp [noref] at h2
  | .str _, .ref _, _, h2 => by simp [noref] at h2
  | .tup _, .ref _, _, h2 => by simp [noref] at h2
  | .non, .non, _, _ => by simp [toPy, PyData.eqv, eqD]
  | .non, .bl _, _, _ => by simp [toPy, PyData.eqv, eqD]
  | .non, .int _, _, _ => by simp [toPy, PyData.eqv, eqD]
  | .non, .str _, _, _ => by simp [toPy, PyData.eqv, eqD]
  | .non, .tup _, _, _ => by simp [toPy, PyData.eqv, eqD]
  | .bl _, .non, _, _ => by simp [toPy, PyData.eqv, eqD]
  | .bl _, .bl _, _, _ => by simp [toPy, PyData.eqv, eqD]
  | .bl _, .int _, _, _ => by simp [toPy, PyData.eqv, eqD]
  | .bl _, .str _, _, _ => by simp [toPy, PyData.eqv, eqD]
  | .bl _, .tup _, _, _ => by simp [toPy, PyData.eqv, eqD]
  | .int _, .non, _, _ => by simp [toPy, PyData.eqv, eqD]
  | .int _, .bl _, _, _ => by simp [toPy, PyData.eqv, eqD]
  | .int _, .int _, _, _ => by simp [toPy, PyData.eqv, eqD]
  | .int _, .str _, _, _ => by simp [toPy, PyData.eqv, eqD]
  | .int _, .tup _, _, _ => by simp [toPy, PyData.eqv, eqD]
  | .str _, .non, _, _ => by simp [toPy, PyData.eqv, eqD]
  | .str _, .bl _, _, _ => by simp [toPy, PyData.eqv, eqD]
  | .str _, .int _, _, _ => by simp [toPy, PyData.eqv, eqD]
  | .str _, .str _, _, _ => by simp [toPy, PyData.eqv, eqD]
  | .str _, .tup _, _, _ => by simp [toPy, PyData.eqv, eqD]
  | .tup _, .non, _, _ => by simp [toPy, PyData.eqv, eqD]
  | .tup _, .bl _, _, _ => by simp [toPy, PyData.eqv, eqD]
  | .tup _, .int _, _, _ => by simp [toPy, PyData.eqv, eqD]
  | .tup _, .str _, _, _ => by simp [toPy, PyData.eqv, eqD]
theorem eqvs_toPys : ∀ (xs ys : List D), norefs xs = true → norefs ys = true → PyData.eqvAll (toPys xs) (toPys ys) = eqL xs ys
  | [], [], _, _ => by simp [toPys, PyData.eqvAll, eqL]
  | [], _ :: _, _, _ => by simp [toPys, PyData.eqvAll, eqL]
  | _ :: _, [], _, _ => by simp [toPys, PyData.eqvAll, eqL]
  | x :: xs, y :: ys, h1, h2 => by
    simp only [norefs, Bool.and_eq_true] at h1 h2
    simp only [toPys, PyData.eqvAll, eqL]
    rw [eqv_toPy x y h1.1 h2.1, eqvs_toPys xs ys h1.2 h2.2]
end
section
variable {K : PySem.W.Frag} {H : Hp} {al : List Addr}
mutual
theorem dp_of : ∀ {d : D} {v : V}, RDat K H al d v → noref d = true → Dp K H v (toPy d)
  | .non, _, h, _ => by rw [RDat] at h; subst h; exact .non
  | .bl b, _, h, _ => by rw [RDat] at h; subst h; exact .bl b
  | .int i, _, h, _ => by rw [RDat] at h; subst h; exact .int i
  | .str x, _, h, _ => by rw [RDat] at h; subst h; exact .str x
  | .tup xs, _, h, n => by
    rw [RDat] at h
    obtain ⟨a, vs, rfl, hs, hl⟩ := h
    exact .tup hs (dps_of hl (by simpa [noref] using n))
  | .ref _, _, _, n => by simp [noref] at n
  | .con _, _, _, n => by simp [noref] at n
theorem dps_of : ∀ {ds : List D} {vs : List V}, RDats K H al ds vs → norefs ds = true → DpAll K H vs (toPys ds)
  | [], _, h, _ => by rw [RDats] at h; subst h; exact .nil
  | x :: xs, _, h, n => by
    rw [RDats] at h
    obtain ⟨v, r, rfl, h1, h2⟩ := h
    simp only [norefs, Bool.and_eq_true] at n
    exact .cons (dp_of h1 n.1) (dps_of h2 n.2)
end
end
/-- no mutable objects within, texts of signs, not too deep -/
def okD (d : D) : Prop := noref d = true ∧ (toPy d).depth ≤ 64
def okL (ds : List D) : Prop := norefs ds = true
mutual
theorem plain_toPy : ∀ d : D, (toPy d).plain = true
  | .non => rfl | .bl _ => rfl | .int _ => rfl | .str _ => rfl | .ref _ => rfl | .con _ => rfl
  | .tup xs => by simpa [toPy, PyData.plain] using plain_toPys xs
theorem plain_toPys : ∀ ds : List D, PyData.plainAll (toPys ds) = true
  | [] => rfl
  | d :: ds => by simp [toPys, PyData.plainAll, plain_toPy d, plain_toPys ds]
end

/-! ### the operations -/
def mlst (M : Mem) (n : Nat) : Option (List D) := match M[n]? with | some (.lst xs) => some xs | _ => none
def opAdd : Op2 := fun x y M R => match x, y with
  | .int i, .int j => R (.int (i + j)) M
  | .str a, .str b => a.length + b.length ≤ sizeLine ∧ R (.str (a ++ b)) M
  | .tup xs, .tup ys => xs.length + ys.length ≤ sizeLine ∧ R (.tup (xs ++ ys)) M
  | .ref a, .ref b => match mlst M a, mlst M b with
    | some xs, some ys => xs.length + ys.length ≤ sizeLine ∧ R (.ref M.length) (M ++ [.lst (xs ++ ys)])
    | _, _ => False
  | _, _ => False
def opSub : Op2 := fun x y M R => match x, y with
  | .int i, .int j => R (.int (i - j)) M
  | _, _ => False
def repS (x : Str) (n : Nat) : Str := ⟨(List.replicate n x.cps.toList).flatten.toArray⟩
def opMul : Op2 := fun x y M R => match x, y with
  | .int i, .int j => IntMulOk i j ∧ R (.int (i * j)) M
  | .str a, .int j => 0 ≤ j ∧ j < 2 ^ 62 ∧ a.length * j.toNat ≤ 1000000 ∧ R (.str (repS a j.toNat)) M
  | _, _ => False
def opDiv : Op2 := fun x y M R => match x, y with
  | .int i, .int j => 0 < j ∧ j.natAbs.log2 < 9000 ∧ R (.int (i / j)) M
  | _, _ => False
def opMod : Op2 := fun x y M R => match x, y with
  | .int i, .int j => 0 < j ∧ R (.int (i % j)) M
  | _, _ => False
def opPow : Op2 := fun x y M R => match x, y with
  | .int i, .int j => (0 ≤ j ∧ j ≤ 1000000 ∧ i.natAbs < 2 ^ 64) ∧ R (.int (i ^ j.toNat)) M
  | _, _ => False
def opNeg : Op1 := fun x M R => match x with
  | .int i => R (.int (-i)) M
  | _ => False
def scalD : D → D → Bool
  | .non, .non => true | .non, .int _ => true | .int _, .non => true | .non, .bl _ => true | .bl _, .non => true | .non, .str _ => true | .str _, .non => true
  | .int _, .int _ => true | .bl _, .bl _ => true | .str _, .str _ => true
  | .int _, .str _ => true | .str _, .int _ => true | .bl _, .str _ => true | .str _, .bl _ => true
  | _, _ => false
def pyM (M : Mem) : D → Option PyData
  | .ref n => match lstAt M n with | some xs => if norefs xs = true then some (.list (toPys xs)) else none | none => none
  | d => if noref d = true then some (toPy d) else none
def eqM (x y : D) (M : Mem) (R : Bool → Prop) : Prop := match scalD x y with
  | true => R (eqD x y)
  | false => match pyM M x, pyM M y with
    | some p, some q => min p.depth q.depth ≤ 64 ∧ R (PyData.eqv p q)
    | _, _ => False
def opEq : Op2 := fun x y M R => eqM x y M fun b => R (.bl b) M
def opNe : Op2 := fun x y M R => eqM x y M fun b => R (.bl (!b)) M
abbrev ltS (a b : Str) : Bool := decide (a.cps.toList < b.cps.toList)
def opLt : Op2 := fun x y M R => match x, y with
  | .int i, .int j => R (.bl (decide (i < j))) M
  | .str a, .str b => R (.bl (ltS a b)) M
  | _, _ => False
def opLe : Op2 := fun x y M R => match x, y with
  | .int i, .int j => R (.bl (decide (i ≤ j))) M
  | .str a, .str b => R (.bl (!ltS b a)) M
  | _, _ => False
def opGt : Op2 := fun x y M R => match x, y with
  | .int i, .int j => R (.bl (decide (j < i))) M
  | .str a, .str b => R (.bl (ltS b a)) M
  | _, _ => False
def opGe : Op2 := fun x y M R => match x, y with
  | .int i, .int j => R (.bl (decide (j ≤ i))) M
  | .str a, .str b => R (.bl (!ltS a b)) M
  | _, _ => False
def isNon : D → Bool | .non => true | _ => false
def opIs : Op2 := fun x y M R => match y with
  | .non => R (.bl (isNon x)) M
  | _ => False
def opIsNot : Op2 := fun x y M R => match y with
  | .non => R (.bl (!isNon x)) M
  | _ => False
def strIn (a b : Str) : Bool := !(Builtin.Str.occurrences b a 0 b.length 1).isEmpty
def inD (x : D) (ys : List D) : Bool := ys.any fun z => eqD z x
def inM (x y : D) (M : Mem) (R : Bool → Prop) : Prop := match y with
  | .str b => match x with | .str a => R (strIn a b) | _ => False
  | .tup ys => okD x ∧ okL ys ∧ R (inD x ys)
  | .ref n => match lstAt M n with
    | some ys => okD x ∧ okL ys ∧ R (inD x ys)
    | none => False
  | _ => False
def opIn : Op2 := fun x y M R => inM x y M fun b => R (.bl b) M
def opNotIn : Op2 := fun x y M R => inM x y M fun b => R (.bl (!b)) M
/-- an index of any sign -/
def ixM (x y : D) (M : Mem) (R : D → Prop) : Prop := match y with
  | .int i => match x with
    | .tup xs => match atI xs i with | some d => R d | none => False
    | .str z => z.length ≤ sizeLine ∧ (match atI z.cps.toList i with | some c => R (.str ⟨#[c]⟩) | none => False)
    | .ref n => match lstAt M n with | some xs => (match atI xs i with | some d => R d | none => False) | none => False
    | .con xs => match atI xs i with | some d => R d | none => False
    | _ => False
  | _ => False
def opIx : Op2 := fun x y M R => ixM x y M fun d => R d M

theorem mlst_lst {M : Mem} {n : Nat} {xs : List D} (h : mlst M n = some xs) : M[n]? = some (.lst xs) := by
  unfold mlst at h
  cases e : M[n]? with
  | none => rw [e] at h; cases h
  | some o => rw [e] at h; cases o <;> first | (cases h; rfl) | cases h

section
variable {X : Cx} {G : GC}
theorem dec_intD {i j : Int} : decide (V.int i = V.int j) = (i == j) := dec_int
theorem or_add (hK : X.K = G.K) : OpR X (binaryOp .Add) (LR G opAdd) := by
  intro pins s σ H x y v u Q I rx ry h
  obtain ⟨al, M, dx, dy, R, m, r1, r2, g, c⟩ := h
  cases dx with
  | int i =>
    cases dy with
    | int j =>
      simp only [RDat] at r1 r2; subst r1 r2
      exact op_add pins s σ H _ _ v u Q I rx ry ⟨i, j, rfl, rfl, c _ _ _ _ _ m.go (by rw [RDat]) g⟩
    | _ => exact (g : False).elim
  | str i =>
    cases dy with
    | str j =>
      simp only [RDat] at r1 r2; subst r1 r2
      obtain ⟨hz, g⟩ := (g : _ ∧ _)
      exact op_add_str pins s σ H _ _ v u Q I rx ry ⟨i, j, rfl, rfl, hz, c _ _ _ _ _ m.go (by rw [RDat]) g⟩
    | _ => exact (g : False).elim
  | tup xs =>
    cases dy with
    | tup ys =>
      rw [RDat] at r1 r2
      obtain ⟨a, vs, rfl, s1, l1⟩ := r1
      obtain ⟨b, ws, rfl, s2, l2⟩ := r2
      obtain ⟨hz, g⟩ := (g : _ ∧ _)
      refine op_catA pins s σ H _ _ v u Q I rx ry ⟨a, b, vs, ws, rfl, rfl, by rw [hK]; exact s1, by rw [hK]; exact s2, by rw [← l1.length, ← l2.length]; exact hz, fun e => ?_, fun _ e => ?_, fun _ _ p hp => ?_⟩
      · subst e
        have e' : xs = [] := List.eq_nil_of_length_eq_zero l1.length
        subst e'
        exact c _ _ _ _ _ m.go (RDat.tup_of s2 l2) g
      · subst e
        have e' : ys = [] := List.eq_nil_of_length_eq_zero l2.length
        subst e'
        rw [List.append_nil] at g
        exact c _ _ _ _ _ m.go (RDat.tup_of s1 l1) g
      · have n := m.tup (vs := vs ++ ws) hp
        exact c _ _ _ _ _ n (RDat.tup_of (SqT.of upd_same) ((l1.append l2).mono n.k n.p)) g
    | _ => exact (g : False).elim
  | ref a =>
    cases dy with
    | ref b =>
      have g : (match mlst M a, mlst M b with
        | some xs, some ys => xs.length + ys.length ≤ sizeLine ∧ R (.ref M.length) (M ++ [.lst (xs ++ ys)])
        | _, _ => False) := g
      cases e1 : mlst M a with
      | none => simp [e1] at g
      | some xs =>
        cases e2 : mlst M b with
        | none => simp [e1, e2] at g
        | some ys =>
          simp only [e1, e2] at g
          obtain ⟨hz, g⟩ := g
          obtain ⟨p, vs, rfl, _, h1, l1⟩ := m.lst r1 (mlst_lst e1)
          obtain ⟨q, ws, rfl, _, h2, l2⟩ := m.lst r2 (mlst_lst e2)
          refine op_cat pins s σ H _ _ v u Q I rx ry ⟨p, q, vs, ws, rfl, rfl, h1, h2, by rw [← l1.length, ← l2.length]; exact hz, fun z hp => ?_⟩
          have n := m.new (o := .lst (xs ++ ys)) (u := .lst (vs ++ ws)) hp ⟨_, rfl, l1.append l2⟩
          exact c _ _ _ _ _ n (rdat_new m.len) g
    | _ => exact (g : False).elim
  | _ => exact (g : False).elim
theorem or_int {f : Value → Value → Sem Value} {C : Int → Int → Prop} {k : Int → Int → Int} (ho : OpR X f (rI C fun i j => .int (k i j)))
    {g : Op2} (hg : ∀ x y M R, g x y M R → ∃ i j, x = .int i ∧ y = .int j ∧ C i j ∧ R (.int (k i j)) M) : OpR X f (LR G g) := by
  intro pins s σ H x y v u Q I rx ry h
  obtain ⟨al, M, dx, dy, R, m, r1, r2, gg, c⟩ := h
  obtain ⟨i, j, rfl, rfl, hc, gg⟩ := hg _ _ _ _ gg
  simp only [RDat] at r1 r2; subst r1 r2
  exact ho pins s σ H _ _ v u Q I rx ry ⟨i, j, rfl, rfl, hc, c _ _ _ _ _ m.go (by rw [RDat]) gg⟩
theorem or_sub : OpR X (binaryOp .Sub) (LR G opSub) := by
  intro pins s σ H x y v u Q I rx ry h
  obtain ⟨al, M, dx, dy, R, m, r1, r2, g, c⟩ := h
  cases dx with
  | int i =>
    cases dy with
    | int j =>
      simp only [RDat] at r1 r2; subst r1 r2
      exact op_sub pins s σ H _ _ v u Q I rx ry ⟨i, j, rfl, rfl, c _ _ _ _ _ m.go (by rw [RDat]) g⟩
    | _ => exact (g : False).elim
  | _ => exact (g : False).elim
theorem op_mulK : OpR X (binaryOp .Mult) (rI IntMulOk fun i j => .int (i * j)) := opI fun _ _ _ _ _ _ _ hc q => PyProof.Rows.mul_int q hc
theorem foldl_app (l : List (Array Nat)) : ∀ acc : Array Nat, (l.foldl (· ++ ·) acc).toList = acc.toList ++ (l.map (·.toList)).flatten := by
  induction l with
  | nil => intro acc; simp
  | cons a r ih => intro acc; rw [List.foldl_cons, ih]; simp
theorem mul_repS (x : Str) (n : Int) (h0 : 0 ≤ n) : Txt.mul x n = repS x n.toNat := by
  have inj : ∀ {a b : Str}, a.cps.toList = b.cps.toList → a = b := fun {a b} h => Str.ext' (Array.toList_inj.mp h)
  unfold Txt.mul
  by_cases h1 : n < 1
  · rw [if_pos h1]
    have e : n.toNat = 0 := by omega
    rw [e]; rfl
  · rw [if_neg h1]
    by_cases h2 : (n == 1 || x.length == 0) = true
    · rw [if_pos h2]
      refine inj ?_
      rcases Bool.or_eq_true_iff.mp h2 with e | e
      · have e' : n.toNat = 1 := by have := beq_iff_eq.mp e; omega
        simp [repS, e']
      · have e' : x.cps.toList = [] := by
          have := beq_iff_eq.mp e
          exact List.eq_nil_of_length_eq_zero (by simpa [Str.length] using this)
        simp [repS, e']
    · rw [if_neg h2]
      refine inj ?_
      show (List.foldl (· ++ ·) #[] (List.replicate n.toNat x.cps)).toList = _
      rw [foldl_app]
      simp [repS]
theorem or_mul : OpR X (binaryOp .Mult) (LR G opMul) := by
  intro pins s σ H x y v u Q I rx ry h
  obtain ⟨al, M, dx, dy, R, m, r1, r2, g, c⟩ := h
  cases dx with
  | int i =>
    cases dy with
    | int j =>
      obtain ⟨hc, g⟩ := (g : _ ∧ _)
      simp only [RDat] at r1 r2; subst r1 r2
      exact op_mulK pins s σ H _ _ v u Q I rx ry ⟨i, j, rfl, rfl, hc, c _ _ _ _ _ m.go (by rw [RDat]) g⟩
    | _ => exact (g : False).elim
  | str z =>
    cases dy with
    | int j =>
      obtain ⟨h0, h1, h2, g⟩ := (g : _ ∧ _ ∧ _ ∧ _)
      simp only [RDat] at r1 r2; subst r1 r2
      obtain ⟨t, rfl⟩ := rx
      obtain ⟨t', rfl⟩ := ry
      refine SB.mul ⟨?_, fun h3 h4 => ?_, fun h3 h4 => ?_⟩ fun t2 k => ⟨.str _, H, I.tok _, ⟨_, by rw [mul_repS z j h0]⟩, c _ _ _ _ _ m.go (by rw [RDat]) g⟩
      · rw [decide_eq_false (by omega), decide_eq_false (by omega)]; rfl
      · have hj : 0 < j := by omega
        have e1 : (z.length : Int) * j ≤ 1000000 := by
          have : ((z.length * j.toNat : Nat) : Int) ≤ 1000000 := by omega
          rw [Int.natCast_mul, Int.toNat_of_nonneg h0] at this; exact this
        have e2 : (z.length : Int) ≤ (2 ^ 63 - 1) / j := by
          rw [Int.le_ediv_iff_mul_le hj]; omega
        omega
      · show decide (_ > sizeLine) = false
        refine decide_eq_false ?_
        have : sizeLine = 16777216 := sizeLine_eq
        omega
    | _ => exact (g : False).elim
  | _ => exact (g : False).elim
theorem or_div : OpR X (binaryOp .FloorDiv) (LR G opDiv) := by
  refine or_int op_fdivW fun x y M R g => ?_
  cases x with
  | int i =>
    cases y with
    | int j => obtain ⟨h1, h2, g⟩ := (g : _ ∧ _ ∧ _); exact ⟨i, j, rfl, rfl, ⟨h1, h2⟩, g⟩
    | _ => exact (g : False).elim
  | _ => exact (g : False).elim
theorem or_mod : OpR X (binaryOp .Mod) (LR G opMod) := by
  refine or_int op_mod fun x y M R g => ?_
  cases x with
  | int i =>
    cases y with
    | int j => obtain ⟨h1, g⟩ := (g : _ ∧ _); exact ⟨i, j, rfl, rfl, h1, g⟩
    | _ => exact (g : False).elim
  | _ => exact (g : False).elim
theorem or_pow : OpR X (binaryOp .Pow) (LR G opPow) := by
  refine or_int op_pow fun x y M R g => ?_
  cases x with
  | int i =>
    cases y with
    | int j => obtain ⟨h1, g⟩ := (g : _ ∧ _); exact ⟨i, j, rfl, rfl, h1, g⟩
    | _ => exact (g : False).elim
  | _ => exact (g : False).elim
theorem ur_neg : UnR X (unaryOp .USub) (LU G opNeg) := by
  intro pins s σ H x v Q I rx h
  obtain ⟨al, M, dx, R, m, r1, g, c⟩ := h
  cases dx with
  | int i => rw [RDat] at r1; subst r1; exact un_neg pins s σ H _ v Q I rx ⟨i, rfl, c _ _ _ _ _ m.go (by rw [RDat]) g⟩
  | _ => exact (g : False).elim
/-! comparisons -/
theorem scal_of {H : Hp} {al : List Addr} {x y : D} {v u : V} (r1 : RDat G.K H al x v) (r2 : RDat G.K H al y u) (h : scalD x y = true) : scal v u = true ∧ decide (v = u) = eqD x y := by
  cases x <;> cases y <;> first
    | (simp [scalD] at h; done)
    | (simp only [RDat] at r1 r2; subst r1 r2; refine ⟨rfl, ?_⟩; simp [eqD, Bool.beq_eq_decide_eq]; done)
theorem pyM_ok {H : Hp} {al : List Addr} {M : Mem} {d : D} {v : V} {p : PyData} (m : RMem G H al M) (r : RDat G.K H al d v) (h : pyM M d = some p) : Dp G.K H v p := by
  cases d with
  | ref n =>
    unfold pyM at h
    cases e : lstAt M n with
    | none => simp [e] at h
    | some xs =>
      simp only [e] at h
      by_cases hn : norefs xs = true
      · rw [if_pos hn] at h; cases h
        obtain ⟨a, vs, rfl, hs, l⟩ := m.seq r e
        exact .lst hs (dps_of l hn)
      · rw [if_neg hn] at h; cases h
  | con xs => simp [pyM, noref] at h
  | non => cases h; exact dp_of r rfl
  | bl b => cases h; exact dp_of r rfl
  | int b => cases h; exact dp_of r rfl
  | str b => cases h; exact dp_of r rfl
  | tup xs =>
    have h : (if noref (.tup xs) = true then some (toPy (.tup xs)) else none) = some p := h
    by_cases hn : noref (.tup xs) = true
    · rw [if_pos hn] at h; cases h; exact dp_of r hn
    · rw [if_neg hn] at h; cases h
theorem pyM_plain {M : Mem} {d : D} {p : PyData} (h : pyM M d = some p) : p.plain = true := by
  cases d with
  | ref n =>
    unfold pyM at h
    cases e : lstAt M n with
    | none => simp [e] at h
    | some xs =>
      simp only [e] at h
      by_cases hn : norefs xs = true
      · rw [if_pos hn] at h; cases h
        exact plain_toPys xs
      · rw [if_neg hn] at h; cases h
  | con xs => simp [pyM, noref] at h
  | tup xs =>
    have h : (if noref (.tup xs) = true then some (toPy (.tup xs)) else none) = some p := h
    by_cases hn : noref (.tup xs) = true
    · rw [if_pos hn] at h; cases h; exact plain_toPy _
    · rw [if_neg hn] at h; cases h
  | _ => cases h; rfl
theorem op_eqP (hu : X.A.units + 64 < cLine) : OpR X (compareOp .Eq) (fun x y H Q => ∃ d e, Dp X.K H x d ∧ Dp X.K H y e ∧ d.plain = true ∧ e.plain = true ∧ min d.depth e.depth ≤ 64 ∧ Q (.bl (PyData.eqv d e)) H) := by
  intro pins s σ H x y v u Q I rx ry h
  obtain ⟨d, e, hd, he, sd, se, hm, q⟩ := h
  obtain ⟨as, r1⟩ := Dp.reads I d x v hd rx
  obtain ⟨bs, r2⟩ := Dp.reads I e y u he ry
  exact SeqAt.eq_plain r1 r2 sd se (by omega) ⟨.bl _, H, I, rfl, q⟩
theorem op_neP (hu : X.A.units + 64 < cLine) : OpR X (compareOp .NotEq) (fun x y H Q => ∃ d e, Dp X.K H x d ∧ Dp X.K H y e ∧ d.plain = true ∧ e.plain = true ∧ min d.depth e.depth ≤ 64 ∧ Q (.bl (!PyData.eqv d e)) H) := by
  intro pins s σ H x y v u Q I rx ry h
  obtain ⟨d, e, hd, he, sd, se, hm, q⟩ := h
  obtain ⟨as, r1⟩ := Dp.reads I d x v hd rx
  obtain ⟨bs, r2⟩ := Dp.reads I e y u he ry
  exact SeqAt.ne_plain r1 r2 sd se (by omega) ⟨.bl _, H, I, rfl, q⟩
theorem or_eqv (hK : X.K = G.K) (hu : X.A.units + 64 < cLine) {f : Value → Value → Sem Value} {k : Bool → Bool} (h1 : OpR X f (fun x y H Q => scal x y = true ∧ Q (.bl (k (decide (x = y)))) H))
    (h2 : OpR X f (fun x y H Q => ∃ d e, Dp X.K H x d ∧ Dp X.K H y e ∧ d.plain = true ∧ e.plain = true ∧ min d.depth e.depth ≤ 64 ∧ Q (.bl (k (PyData.eqv d e))) H)) : OpR X f (LR G fun x y M R => eqM x y M fun b => R (.bl (k b)) M) := by
  intro pins s σ H x y v u Q I rx ry h
  obtain ⟨al, M, dx, dy, R, m, r1, r2, g, c⟩ := h
  unfold eqM at g
  cases e : scalD dx dy with
  | true =>
    simp only [e] at g
    obtain ⟨e1, e2⟩ := scal_of r1 r2 e
    exact h1 pins s σ H _ _ v u Q I rx ry ⟨e1, c _ _ _ _ _ m.go (by rw [RDat, e2]) g⟩
  | false =>
    simp only [e] at g
    cases p1 : pyM M dx with
    | none => simp [p1] at g
    | some p =>
      cases p2 : pyM M dy with
      | none => simp [p1, p2] at g
      | some q =>
        simp only [p1, p2] at g
        obtain ⟨s1, g⟩ := g
        exact h2 pins s σ H _ _ v u Q I rx ry ⟨p, q, by rw [hK]; exact pyM_ok m r1 p1, by rw [hK]; exact pyM_ok m r2 p2, pyM_plain p1, pyM_plain p2, s1, c _ _ _ _ _ m.go (by rw [RDat]) g⟩
theorem or_eq (hK : X.K = G.K) (hu : X.A.units + 64 < cLine) : OpR X (compareOp .Eq) (LR G opEq) := or_eqv hK hu (k := fun b => b) op_eq (op_eqP hu)
theorem or_ne (hK : X.K = G.K) (hu : X.A.units + 64 < cLine) : OpR X (compareOp .NotEq) (LR G opNe) := or_eqv hK hu (k := fun b => !b) op_ne (op_neP hu)
theorem or_ord {f : Value → Value → Sem Value} {k : Int → Int → Bool} {l : Str → Str → Bool} (h1 : OpR X f (rI0 fun i j => .bl (k i j))) (h2 : OpR X f (fun x y H Q => ∃ i j, x = .str i ∧ y = .str j ∧ Q (.bl (l i j)) H))
    {g : Op2} (hg : ∀ x y M R, g x y M R → (∃ i j, x = .int i ∧ y = .int j ∧ R (.bl (k i j)) M) ∨ ∃ i j, x = .str i ∧ y = .str j ∧ R (.bl (l i j)) M) : OpR X f (LR G g) := by
  intro pins s σ H x y v u Q I rx ry h
  obtain ⟨al, M, dx, dy, R, m, r1, r2, g, c⟩ := h
  rcases hg _ _ _ _ g with ⟨i, j, rfl, rfl, gg⟩ | ⟨i, j, rfl, rfl, gg⟩
  · simp only [RDat] at r1 r2; subst r1 r2
    exact h1 pins s σ H _ _ v u Q I rx ry ⟨i, j, rfl, rfl, c _ _ _ _ _ m.go (by rw [RDat]) gg⟩
  · simp only [RDat] at r1 r2; subst r1 r2
    exact h2 pins s σ H _ _ v u Q I rx ry ⟨i, j, rfl, rfl, c _ _ _ _ _ m.go (by rw [RDat]) gg⟩
theorem or_lt : OpR X (compareOp .Lt) (LR G opLt) := or_ord op_lt op_lt_str fun x y M R g => by
  cases x <;> cases y <;> first | exact (g : False).elim | exact .inl ⟨_, _, rfl, rfl, g⟩ | exact .inr ⟨_, _, rfl, rfl, g⟩
theorem or_le : OpR X (compareOp .LtE) (LR G opLe) := or_ord op_le op_le_str fun x y M R g => by
  cases x <;> cases y <;> first | exact (g : False).elim | exact .inl ⟨_, _, rfl, rfl, g⟩ | exact .inr ⟨_, _, rfl, rfl, g⟩
theorem or_gt : OpR X (compareOp .Gt) (LR G opGt) := or_ord op_gt op_gt_str fun x y M R g => by
  cases x <;> cases y <;> first | exact (g : False).elim | exact .inl ⟨_, _, rfl, rfl, g⟩ | exact .inr ⟨_, _, rfl, rfl, g⟩
theorem or_ge : OpR X (compareOp .GtE) (LR G opGe) := or_ord op_ge op_ge_str fun x y M R g => by
  cases x <;> cases y <;> first | exact (g : False).elim | exact .inl ⟨_, _, rfl, rfl, g⟩ | exact .inr ⟨_, _, rfl, rfl, g⟩
theorem isNon_ok {H : Hp} {al : List Addr} {x : D} {v : V} (r : RDat G.K H al x v) : decide (v = .non) = isNon x := by
  cases x with
  | tup xs => rw [RDat] at r; obtain ⟨a, vs, rfl, _⟩ := r; rfl
  | ref n => rw [RDat] at r; obtain ⟨a, _, rfl⟩ := r; rfl
  | con xs => rw [RDat] at r; obtain ⟨a, vs, rfl, _⟩ := r; rfl
  | _ => rw [RDat] at r; subst r; rfl
theorem or_is : OpR X (compareOp .Is) (LR G opIs) := by
  intro pins s σ H x y v u Q I rx ry h
  obtain ⟨al, M, dx, dy, R, m, r1, r2, g, c⟩ := h
  cases dy with
  | non => rw [RDat] at r2; exact op_isN pins s σ H _ _ v u Q I rx ry ⟨r2, c _ _ _ _ _ m.go (by rw [RDat, isNon_ok r1]) g⟩
  | _ => exact (g : False).elim
theorem or_isNot : OpR X (compareOp .IsNot) (LR G opIsNot) := by
  intro pins s σ H x y v u Q I rx ry h
  obtain ⟨al, M, dx, dy, R, m, r1, r2, g, c⟩ := h
  cases dy with
  | non => rw [RDat] at r2; exact op_notN pins s σ H _ _ v u Q I rx ry ⟨r2, c _ _ _ _ _ m.go (by rw [RDat, isNon_ok r1]) g⟩
  | _ => exact (g : False).elim
end
end DN

set_option maxHeartbeats 4000000
/-! in, indexes, slices, built-ins, methods -/
namespace DN
open PySem PySem.Spec L2

/-! ### in, not in -/
section
variable {X : Cx} {G : GC}
theorem any_eqv : ∀ (ys : List D) (x : D), noref x = true → norefs ys = true → ((toPys ys).any fun z => PyData.eqv z (toPy x)) = inD x ys
  | [], _, _, _ => by simp [toPys, inD]
  | y :: ys, x, h1, h2 => by
    simp only [norefs, Bool.and_eq_true] at h2
    have ih := any_eqv ys x h1 h2.2
    simp only [toPys, List.any_cons, inD] at ih ⊢
    rw [ih, eqv_toPy y x h2.1 h1]
theorem or_inG (hK : X.K = G.K) (hu : X.A.units + 65 < cLine) {op : CmpOp} {k : Bool → Bool}
    (h1 : OpR X (compareOp op) (fun x y H Q => ∃ i j, x = .str i ∧ y = .str j ∧ Q (.bl (k (strIn i j))) H))
    (h2 : OpR X (compareOp op) (fun x y H Q => ∃ d ds, Dp X.K H x d ∧ (Dp X.K H y (.list ds) ∨ Dp X.K H y (.tuple ds)) ∧ d.plain = true ∧ PyData.plainAll ds = true ∧ d.depth ≤ 64 ∧ Q (.bl (k (ds.any fun z => PyData.eqv z d))) H)) :
    OpR X (compareOp op) (LR G fun x y M R => inM x y M fun b => R (.bl (k b)) M) := by
  intro pins s σ H x y v u Q I rx ry h
  obtain ⟨al, M, dx, dy, R, m, r1, r2, g, c⟩ := h
  cases dy with
  | str j =>
    cases dx with
    | str i => simp only [RDat] at r1 r2; subst r1 r2; exact h1 pins s σ H _ _ v u Q I rx ry ⟨i, j, rfl, rfl, c _ _ _ _ _ m.go (by rw [RDat]) g⟩
    | _ => exact (g : False).elim
  | tup ys =>
    obtain ⟨o1, o2, g⟩ := (g : _ ∧ _ ∧ _)
    refine h2 pins s σ H _ _ v u Q I rx ry ⟨toPy dx, toPys ys, by rw [hK]; exact dp_of r1 o1.1, .inr (by rw [hK]; have := dp_of r2 (by simpa [noref] using (show norefs ys = true from o2)); simpa [toPy] using this), plain_toPy dx, plain_toPys ys, o1.2, c _ _ _ _ _ m.go (by rw [RDat, any_eqv ys dx o1.1 o2]) g⟩
  | ref n =>
    have g : (match lstAt M n with | some ys => okD dx ∧ okL ys ∧ R (.bl (k (inD dx ys))) M | none => False) := g
    cases e : lstAt M n with
    | none => simp [e] at g
    | some ys =>
      simp only [e] at g
      obtain ⟨o1, o2, g⟩ := g
      obtain ⟨a, vs, rfl, hs, l⟩ := m.seq r2 e
      exact h2 pins s σ H _ _ v u Q I rx ry ⟨toPy dx, toPys ys, by rw [hK]; exact dp_of r1 o1.1, .inl (by rw [hK]; exact .lst hs (dps_of l o2)), plain_toPy dx, plain_toPys ys, o1.2, c _ _ _ _ _ m.go (by rw [RDat, any_eqv ys dx o1.1 o2]) g⟩
  | _ => exact (g : False).elim
theorem room_inS {X : Cx} {d : PyData} {ds : List PyData} (sd : d.depth ≤ 64) (hu : X.A.units + 65 < cLine) : X.A.units + 1 + min (PyData.depthAll ds) d.depth < cLine := by
  have h1 := sd
  have h2 : min (PyData.depthAll ds) d.depth ≤ d.depth := Nat.min_le_right _ _
  omega
theorem or_in (hK : X.K = G.K) (hu : X.A.units + 65 < cLine) : OpR X (compareOp .In) (LR G opIn) := by
  refine or_inG hK hu (k := fun b => b) op_in_str ?_
  intro pins s σ H x y v u Q I rx ry h
  obtain ⟨d, ds, hd, he, sd, se, hm, q⟩ := h
  obtain ⟨as, r1⟩ := Dp.reads I d x v hd rx
  rcases he with he | he
  · obtain ⟨bs, r2⟩ := Dp.reads I (.list ds) y u he ry
    exact SeqAt.in_list_data r2 r1 se sd (room_inS hm hu) ⟨.bl _, H, I, rfl, q⟩
  · obtain ⟨bs, r2⟩ := Dp.reads I (.tuple ds) y u he ry
    exact SeqAt.in_tuple_data r2 r1 se sd (room_inS hm hu) ⟨.bl _, H, I, rfl, q⟩
theorem or_notIn (hK : X.K = G.K) (hu : X.A.units + 65 < cLine) : OpR X (compareOp .NotIn) (LR G opNotIn) := by
  refine or_inG hK hu (k := fun b => !b) op_notin_str ?_
  intro pins s σ H x y v u Q I rx ry h
  obtain ⟨d, ds, hd, he, sd, se, hm, q⟩ := h
  obtain ⟨as, r1⟩ := Dp.reads I d x v hd rx
  rcases he with he | he
  · obtain ⟨bs, r2⟩ := Dp.reads I (.list ds) y u he ry
    exact SeqAt.notIn_list_data r2 r1 se sd (room_inS hm hu) ⟨.bl _, H, I, rfl, q⟩
  · obtain ⟨bs, r2⟩ := Dp.reads I (.tuple ds) y u he ry
    exact SeqAt.notIn_tuple_data r2 r1 se sd (room_inS hm hu) ⟨.bl _, H, I, rfl, q⟩

/-! ### indexes -/
theorem atI_rel {K : PySem.W.Frag} {H : Hp} {al : List Addr} {ds : List D} {vs : List V} {i : Int} {d : D} (r : RDats K H al ds vs) (h : atI ds i = some d) : ∃ v, atI vs i = some v ∧ RDat K H al d v := by
  unfold atI at h ⊢
  rw [← r.length]
  cases e : ixN ds.length i with
  | none => rw [e] at h; cases h
  | some j => rw [e] at h; exact r.get h
theorem xr_ix (hK : X.K = G.K) : IxR X (LR G opIx) := by
  intro value slice pins s σ H x y v u Q I rx ry h hs
  obtain ⟨al, M, dx, dy, R, m, r1, r2, g, c⟩ := h
  cases dy with
  | int i =>
    rw [RDat] at r2; subst r2
    cases dx with
    | tup xs =>
      rw [RDat] at r1
      obtain ⟨a, vs, rfl, s1, l1⟩ := r1
      have g : (match atI xs i with | some d => R d M | none => False) := g
      cases e : atI xs i with
      | none => simp [e] at g
      | some d =>
        simp only [e] at g
        obtain ⟨w, e1, rw1⟩ := atI_rel l1 e
        exact ix_tup value slice pins s σ H _ _ v u Q I rx ry ⟨a, vs, i, w, rfl, rfl, by rw [hK]; exact s1, e1, c _ _ _ _ _ m.go rw1 g⟩ hs
    | str z =>
      rw [RDat] at r1; subst r1
      obtain ⟨hz, g⟩ := (g : _ ∧ (match atI z.cps.toList i with | some c => R (.str ⟨#[c]⟩) M | none => False))
      cases e : atI z.cps.toList i with
      | none => simp [e] at g
      | some d =>
        simp only [e] at g
        exact ix_str value slice pins s σ H _ _ v u Q I rx ry ⟨z, i, d, rfl, rfl, hz, e, c _ _ _ _ _ m.go (by rw [RDat]) g⟩ hs
    | ref n =>
      have g : (match lstAt M n with | some xs => (match atI xs i with | some d => R d M | none => False) | none => False) := g
      cases el : lstAt M n with
      | none => simp [el] at g
      | some xs =>
        simp only [el] at g
        cases e : atI xs i with
        | none => simp [e] at g
        | some d =>
          simp only [e] at g
          obtain ⟨a, vs, rfl, s1, l1⟩ := m.seq r1 el
          obtain ⟨w, e1, rw1⟩ := atI_rel l1 e
          exact ix_list value slice pins s σ H _ _ v u Q I rx ry ⟨a, vs, i, w, rfl, rfl, by rw [hK]; exact s1, e1, c _ _ _ _ _ m.go rw1 g⟩ hs
    | con xs =>
      rw [RDat] at r1
      obtain ⟨a, vs, rfl, s1, l1⟩ := r1
      have g : (match atI xs i with | some d => R d M | none => False) := g
      cases e : atI xs i with
      | none => simp [e] at g
      | some d =>
        simp only [e] at g
        obtain ⟨w, e1, rw1⟩ := atI_rel l1 e
        exact ix_list value slice pins s σ H _ _ v u Q I rx ry ⟨a, vs, i, w, rfl, rfl, by rw [hK]; exact s1.seq, e1, c _ _ _ _ _ m.go rw1 g⟩ hs
    | _ => exact (g : False).elim
  | _ => exact (g : False).elim

/-! ### slices -/
def cutL {α : Type} (xs : List α) (lo hi : Option Int) : List α := (xs.drop (HT.sIx xs.length 0 lo)).take (HT.sIx xs.length xs.length hi - HT.sIx xs.length 0 lo)
theorem cut_rel {K : PySem.W.Frag} {H : Hp} {al : List Addr} {ds : List D} {vs : List V} (lo hi : Option Int) (r : RDats K H al ds vs) : RDats K H al (cutL ds lo hi) (cutV vs lo hi) := by
  unfold cutL cutV
  rw [← r.length]
  exact (r.drop _).take _
abbrev OpS := D → Option Int → Option Int → Mem → KD → Prop
def opSl : OpS := fun x lo hi M R => match x with
  | .tup xs => R (.tup (cutL xs lo hi)) M
  | .str z => z.length ≤ sizeLine ∧ R (.str (cutS z lo hi)) M
  | .ref n => match lstAt M n with | some xs => R (.ref M.length) (M ++ [.lst (cutL xs lo hi)]) | none => False
  | _ => False
def LSl (G : GC) (g : OpS) : V → Option Int → Option Int → Hp → VK → Prop := fun x lo hi H Q => ∃ al M d R, RMem G H al M ∧ RDat G.K H al d x ∧ g d lo hi M R ∧ VCl G H al R Q
theorem sr_sl (hK : X.K = G.K) : SlR X (LSl G opSl) := by
  intro pins s σ H x v vl vu lo hi sl Q I rx hs pl pu h
  obtain ⟨al, M, d, R, m, r1, g, c⟩ := h
  cases d with
  | tup xs =>
    rw [RDat] at r1
    obtain ⟨a, vs, rfl, s1, l1⟩ := r1
    refine sl_tupA pins s σ H _ v vl vu lo hi sl Q I rx hs pl pu ⟨a, vs, rfl, by rw [hK]; exact s1, fun e => ?_, fun _ p hp => ?_⟩
    · have e' : cutL xs lo hi = xs := by
        unfold cutL
        rw [l1.length, e.1, e.2, List.drop_zero, Nat.sub_zero, ← l1.length, List.take_length]
      have g : R (.tup (cutL xs lo hi)) M := g
      rw [e'] at g
      exact c _ _ _ _ _ m.go (RDat.tup_of s1 l1) g
    · have n := m.tup (vs := cutV vs lo hi) hp
      exact c _ _ _ _ _ n (RDat.tup_of (SqT.of upd_same) ((cut_rel lo hi l1).mono n.k n.p)) g
  | str z =>
    rw [RDat] at r1; subst r1
    obtain ⟨hz, g⟩ := (g : _ ∧ _)
    exact sl_str pins s σ H _ v vl vu lo hi sl Q I rx hs pl pu ⟨z, rfl, hz, c _ _ _ _ _ m.go (by rw [RDat]) g⟩
  | ref n =>
    have g : (match lstAt M n with | some xs => R (.ref M.length) (M ++ [.lst (cutL xs lo hi)]) | none => False) := g
    cases el : lstAt M n with
    | none => simp [el] at g
    | some xs =>
      simp only [el] at g
      obtain ⟨a, vs, rfl, s1, l1⟩ := m.seq r1 el
      refine sl_list pins s σ H _ v vl vu lo hi sl Q I rx hs pl pu ⟨a, vs, rfl, by rw [hK]; exact s1, fun p hp => ?_⟩
      have n := m.new (o := .lst (cutL xs lo hi)) (u := .lst (cutV vs lo hi)) hp ⟨_, rfl, cut_rel lo hi l1⟩
      exact c _ _ _ _ _ n (rdat_new m.len) g
  | _ => exact (g : False).elim
abbrev SO := XC → Env → Mem → (Option Int → Mem → Prop) → Prop
def oNo : SO := fun _ _ M R => R none M
def oSome (t : SE) : SO := fun Ex ρ M R => t Ex ρ M fun d M1 => match d with | .int i => R (some i) M1 | _ => False
def LO (G : GC) (W : WX) (t : SO) : TO := fun σ H Q => ∃ ρ al M Ex R, RSt G H al M σ ρ ∧ t Ex ρ M R ∧ (∀ H' al' M' o, Nxt G H al H' al' M' → R o M' → Q o H') ∧ XCl G W H al Ex σ
def MO (X : Cx) (G : GC) (e : Option Expr) (t : SO) : Prop := ∀ W, Takes X W → PO X e (LO G W t)
theorem PO.imp {X : Cx} {e : Option Expr} {t t' : TO} (h : PO X e t) (i : ∀ σ H Q, t' σ H Q → t σ H Q) : PO X e t' := ⟨fun pins s σ H Q I w => h.run pins s σ H Q I (i σ H Q w)⟩
variable {a b : Expr} {ta tb : SE} {pos : Pos} {lo hi : Option Expr} {tl th : SO}
theorem mo_none : MO X G none oNo := by
  refine fun W tk => PO.imp po_none fun σ H Q h => ?_
  obtain ⟨ρ, al, M, Ex, R, r, t, c, xc⟩ := h
  exact c _ _ _ _ r.m.go t
theorem mo_some (ha : ME X G a ta) : MO X G (some a) (oSome ta) := by
  refine fun W tk => PO.imp (po_some (ha W tk)) fun σ H Q h => ?_
  obtain ⟨ρ, al, M, Ex, R, r, t, c, xc⟩ := h
  refine ⟨ρ, al, M, Ex, _, r, t, fun H1 al1 M1 v d n1 r1 h1 => ?_, xc⟩
  cases d with
  | int i => rw [RDat] at r1; exact ⟨i, r1, c _ _ _ _ n1 h1⟩
  | _ => exact (h1 : False).elim
def eSl (ta : SE) (tl th : SO) : SE := fun Ex ρ M R => ta Ex ρ M fun x M1 => tl Ex ρ M1 fun l M2 => th Ex ρ M2 fun h M3 => opSl x l h M3 R
theorem me_slice {p2 : Pos} (hK : X.K = G.K) (ha : ME X G a ta) (hl : MO X G lo tl) (hh : MO X G hi th) : ME X G (.Subscript a (.Slice lo hi none p2) pos) (eSl ta tl th) := by
  refine fun W tk => PE.imp (pe_slice (sr_sl hK) (ha W tk) (hl W tk) (hh W tk)) fun σ H Q h => ?_
  obtain ⟨ρ, al, M, Ex, R, r, t, c, xc⟩ := h
  exact ⟨ρ, al, M, Ex, _, r, t, fun H1 al1 M1 x dx n1 r1 h1 => ⟨ρ, al1, M1, Ex, _, r.go n1, h1, fun H2 al2 M2 l n2 h2 =>
    ⟨ρ, al2, M2, Ex, _, r.go (n1.trans n2), h2, fun H3 al3 M3 u n3 h3 => ⟨al3, M3, dx, R, n3.m, r1.mono (n2.k.trans n3.k) (n2.p.trans n3.p), h3, c.nxt (n1.trans (n2.trans n3))⟩, xc.nxt (n1.trans n2)⟩, xc.nxt n1⟩, xc⟩

/-! ### built-ins -/
def cnLen : OpN := fun ds M R => match ds with
  | [.tup xs] => R (.int xs.length) M
  | [.str z] => z.length ≤ sizeLine ∧ R (.int z.length) M
  | [.ref n] => match lstAt M n with | some xs => R (.int xs.length) M | none => False
  | [.con xs] => R (.int xs.length) M
  | _ => False
theorem rd1 {K : PySem.W.Frag} {H : Hp} {al : List Addr} {d : D} {vs : List V} (r : RDats K H al [d] vs) : ∃ v, vs = [v] ∧ RDat K H al d v := by
  rw [RDats] at r
  obtain ⟨v, r', e, h, t⟩ := r
  rw [RDats] at t; subst t
  exact ⟨v, e, h⟩
theorem rd2 {K : PySem.W.Frag} {H : Hp} {al : List Addr} {d e : D} {vs : List V} (r : RDats K H al [d, e] vs) : ∃ v w, vs = [v, w] ∧ RDat K H al d v ∧ RDat K H al e w := by
  rw [RDats] at r
  obtain ⟨v, r', e1, h, t⟩ := r
  obtain ⟨w, e2, h2⟩ := rd1 t
  subst e2
  exact ⟨v, w, e1, h, h2⟩
theorem cr_len (hK : X.K = G.K) : CallR X (.builtin "len") (LCall G cnLen) := by
  intro pins s σ H xs us Q I r h
  obtain ⟨al, M, ds, R, m, r1, g, c⟩ := h
  cases ds with
  | nil => exact (g : False).elim
  | cons d t =>
    cases t with
    | cons _ _ => cases d <;> exact (g : False).elim
    | nil =>
      obtain ⟨v, rfl, r2⟩ := rd1 r1
      cases d with
      | tup ys =>
        rw [RDat] at r2
        obtain ⟨a, vs, rfl, s1, l1⟩ := r2
        exact call_len_seq pins s σ H _ us Q I r ⟨a, vs, rfl, .inr (by rw [hK]; exact s1), c _ _ _ _ _ m.go (by rw [RDat, l1.length]) g⟩
      | str z =>
        obtain ⟨hz, g⟩ := (g : _ ∧ _)
        rw [RDat] at r2; subst r2
        exact call_len_str pins s σ H _ us Q I r ⟨z, rfl, hz, c _ _ _ _ _ m.go (by rw [RDat]) g⟩
      | ref n =>
        have g : (match lstAt M n with | some xs => R (.int xs.length) M | none => False) := g
        cases el : lstAt M n with
        | none => simp [el] at g
        | some ys =>
          simp only [el] at g
          obtain ⟨a, vs, rfl, s1, l1⟩ := m.seq r2 el
          exact call_len_seq pins s σ H _ us Q I r ⟨a, vs, rfl, .inl (by rw [hK]; exact s1), c _ _ _ _ _ m.go (by rw [RDat, l1.length]) g⟩
      | con ys =>
        rw [RDat] at r2
        obtain ⟨a, vs, rfl, s1, l1⟩ := r2
        exact call_len_seq pins s σ H _ us Q I r ⟨a, vs, rfl, .inl (by rw [hK]; exact s1.seq), c _ _ _ _ _ m.go (by rw [RDat, l1.length]) g⟩
      | _ => exact (g : False).elim
def cnInt : OpN := fun ds M R => match ds with
  | [.int i] => R (.int i) M
  | [.bl k] => R (.int (if k then 1 else 0)) M
  | _ => False
theorem cr_int : CallR X (.type "int") (LCall G cnInt) := by
  intro pins s σ H xs us Q I r h
  obtain ⟨al, M, ds, R, m, r1, g, c⟩ := h
  cases ds with
  | nil => exact (g : False).elim
  | cons d t =>
    cases t with
    | cons _ _ => cases d <;> exact (g : False).elim
    | nil =>
      obtain ⟨v, rfl, r2⟩ := rd1 r1
      cases d with
      | int i => rw [RDat] at r2; subst r2; exact call_int1 pins s σ H _ us Q I r (.inl ⟨i, rfl, c _ _ _ _ _ m.go (by rw [RDat]) g⟩)
      | bl i => rw [RDat] at r2; subst r2; exact call_int1 pins s σ H _ us Q I r (.inr ⟨i, rfl, c _ _ _ _ _ m.go (by rw [RDat]) g⟩)
      | _ => exact (g : False).elim
def cnAbs : OpN := fun ds M R => match ds with
  | [.int i] => R (.int (if i < 0 then -i else i)) M
  | _ => False
theorem cr_abs : CallR X (.builtin "abs") (LCall G cnAbs) := by
  intro pins s σ H xs us Q I r h
  obtain ⟨al, M, ds, R, m, r1, g, c⟩ := h
  cases ds with
  | nil => exact (g : False).elim
  | cons d t =>
    cases t with
    | cons _ _ => cases d <;> exact (g : False).elim
    | nil =>
      obtain ⟨v, rfl, r2⟩ := rd1 r1
      cases d with
      | int i => rw [RDat] at r2; subst r2; exact call_abs pins s σ H _ us Q I r ⟨i, rfl, c _ _ _ _ _ m.go (by rw [RDat]) g⟩
      | _ => exact (g : False).elim
def cnOrd : OpN := fun ds M R => match ds with
  | [.str x] => x.length = 1 ∧ R (.int (x.cps.getD 0 0 : Nat)) M
  | _ => False
theorem cr_ord : CallR X (.builtin "ord") (LCall G cnOrd) := by
  intro pins s σ H xs us Q I r h
  obtain ⟨al, M, ds, R, m, r1, g, c⟩ := h
  cases ds with
  | nil => exact (g : False).elim
  | cons d t =>
    cases t with
    | cons _ _ => cases d <;> exact (g : False).elim
    | nil =>
      obtain ⟨v, rfl, r2⟩ := rd1 r1
      cases d with
      | str i => obtain ⟨hz, g⟩ := (g : _ ∧ _); rw [RDat] at r2; subst r2; exact call_ord pins s σ H _ us Q I r ⟨i, rfl, hz, c _ _ _ _ _ m.go (by rw [RDat]) g⟩
      | _ => exact (g : False).elim
def cnMax : OpN := fun ds M R => match ds with
  | [.int i, .int j] => R (.int (if j > i then j else i)) M
  | _ => False
def cnMin : OpN := fun ds M R => match ds with
  | [.int i, .int j] => R (.int (if j < i then j else i)) M
  | _ => False
theorem cr_two {id : String} {k : Int → Int → Int} (hc : CallR X (.builtin id) (fun xs H Q => ∃ i j, xs = [.int i, .int j] ∧ Q (.int (k i j)) H)) {g : OpN} (hg : ∀ ds M R, g ds M R → ∃ i j, ds = [.int i, .int j] ∧ R (.int (k i j)) M) : CallR X (.builtin id) (LCall G g) := by
  intro pins s σ H xs us Q I r h
  obtain ⟨al, M, ds, R, m, r1, g, c⟩ := h
  obtain ⟨i, j, rfl, gg⟩ := hg _ _ _ g
  obtain ⟨v, w, rfl, r2, r3⟩ := rd2 r1
  rw [RDat] at r2; rw [RDat] at r3; subst r2 r3
  exact hc pins s σ H _ us Q I r ⟨i, j, rfl, c _ _ _ _ _ m.go (by rw [RDat]) gg⟩
theorem cr_max2 (hc : X.calm = true) : CallR X (.builtin "max") (LCall G cnMax) := cr_two (call_max2 hc) fun ds M R g => by
  rcases ds with _ | ⟨d, _ | ⟨e, _ | ⟨f, t⟩⟩⟩
  · exact (g : False).elim
  · cases d <;> exact (g : False).elim
  · cases d <;> cases e <;> first | exact (g : False).elim | exact ⟨_, _, rfl, g⟩
  · cases d <;> cases e <;> exact (g : False).elim
theorem cr_min2 (hc : X.calm = true) : CallR X (.builtin "min") (LCall G cnMin) := cr_two (call_min2 hc) fun ds M R g => by
  rcases ds with _ | ⟨d, _ | ⟨e, _ | ⟨f, t⟩⟩⟩
  · exact (g : False).elim
  · cases d <;> exact (g : False).elim
  · cases d <;> cases e <;> first | exact (g : False).elim | exact ⟨_, _, rfl, g⟩
  · cases d <;> cases e <;> exact (g : False).elim
/-- the intsD of a list of data -/
def intsD : List D → Option (List Int)
  | [] => some []
  | .int i :: r => (intsD r).map (i :: ·)
  | _ => none
theorem intsD_rel {K : PySem.W.Frag} {H : Hp} {al : List Addr} : ∀ {ds : List D} {vs : List V} {ns : List Int}, RDats K H al ds vs → intsD ds = some ns → vs = ns.map V.int
  | [], _, _, r, h => by rw [RDats] at r; subst r; cases h; rfl
  | d :: ds, _, ns, r, h => by
    rw [RDats] at r
    obtain ⟨v, r', rfl, h1, h2⟩ := r
    cases d with
    | int i =>
      have h : (intsD ds).map (i :: ·) = some ns := h
      cases e : intsD ds with
      | none => rw [e] at h; cases h
      | some ms =>
        rw [e] at h; cases h
        rw [RDat] at h1; subst h1
        rw [intsD_rel h2 e]; rfl
    | _ => cases h
def cnSum : OpN := fun ds M R => match ds with
  | [.ref n] => match (lstAt M n).bind intsD with | some ns => R (.int ns.sum) M | none => False
  | _ => False
theorem cr_sumL (hK : X.K = G.K) (hc : X.calm = true) : CallR X (.builtin "sum") (LCall G cnSum) := by
  intro pins s σ H xs us Q I r h
  obtain ⟨al, M, ds, R, m, r1, g, c⟩ := h
  cases ds with
  | nil => exact (g : False).elim
  | cons d t =>
    cases t with
    | cons _ _ => cases d <;> exact (g : False).elim
    | nil =>
      obtain ⟨v, rfl, r2⟩ := rd1 r1
      cases d with
      | ref n =>
        have g : (match (lstAt M n).bind intsD with | some ns => R (.int ns.sum) M | none => False) := g
        cases el : lstAt M n with
        | none => simp [el] at g
        | some ys =>
          cases ei : intsD ys with
          | none => simp [el, ei] at g
          | some ns =>
            simp only [el, Option.bind_some, ei] at g
            obtain ⟨a, vs, rfl, s1, l1⟩ := m.seq r2 el
            have e := intsD_rel l1 ei
            subst e
            exact cr_sum hc pins s σ H _ us Q I r ⟨a, ns, rfl, by rw [hK]; exact s1, c _ _ _ _ _ m.go (by rw [RDat]) g⟩
      | _ => exact (g : False).elim
def cnTuple : OpN := fun ds M R => match ds with
  | [.tup xs] => R (.tup xs) M
  | [.ref n] => match lstAt M n with | some xs => R (.tup xs) M | none => False
  | _ => False
theorem cr_tuple (hK : X.K = G.K) : CallR X (.type "tuple") (LCall G cnTuple) := by
  intro pins s σ H xs us Q I r h
  obtain ⟨al, M, ds, R, m, r1, g, c⟩ := h
  cases ds with
  | nil => exact (g : False).elim
  | cons d t =>
    cases t with
    | cons _ _ => cases d <;> exact (g : False).elim
    | nil =>
      obtain ⟨v, rfl, r2⟩ := rd1 r1
      cases d with
      | tup ys =>
        have r3 := r2
        rw [RDat] at r2
        obtain ⟨a, vs, rfl, s1, l1⟩ := r2
        exact call_tuple_of pins s σ H _ us Q I r ⟨a, vs, rfl, .inr ⟨by rw [hK]; exact s1, c _ _ _ _ _ m.go r3 g⟩⟩
      | ref n =>
        have g : (match lstAt M n with | some xs => R (.tup xs) M | none => False) := g
        cases el : lstAt M n with
        | none => simp [el] at g
        | some ys =>
          simp only [el] at g
          obtain ⟨a, vs, rfl, s1, l1⟩ := m.seq r2 el
          refine call_tuple_of pins s σ H _ us Q I r ⟨a, vs, rfl, .inl ⟨by rw [hK]; exact s1, fun p hp => ?_⟩⟩
          have n := m.tup (vs := vs) hp
          exact c _ _ _ _ _ n (RDat.tup_of (SqT.of upd_same) (l1.mono n.k n.p)) g
      | _ => exact (g : False).elim
def cnList : OpN := fun ds M R => match ds with
  | [.tup xs] => R (.ref M.length) (M ++ [.lst xs])
  | [.ref n] => match lstAt M n with | some xs => R (.ref M.length) (M ++ [.lst xs]) | none => False
  | _ => False
theorem cr_list (hK : X.K = G.K) : CallR X (.type "list") (LCall G cnList) := by
  intro pins s σ H xs us Q I r h
  obtain ⟨al, M, ds, R, m, r1, g, c⟩ := h
  cases ds with
  | nil => exact (g : False).elim
  | cons d t =>
    cases t with
    | cons _ _ => cases d <;> exact (g : False).elim
    | nil =>
      obtain ⟨v, rfl, r2⟩ := rd1 r1
      cases d with
      | tup ys =>
        rw [RDat] at r2
        obtain ⟨a, vs, rfl, s1, l1⟩ := r2
        refine call_list_of pins s σ H _ us Q I r ⟨a, vs, rfl, .inr (by rw [hK]; exact s1), fun p hp => ?_⟩
        have n := m.new (o := .lst ys) (u := .lst vs) hp ⟨_, rfl, l1⟩
        exact c _ _ _ _ _ n (rdat_new m.len) g
      | ref n =>
        have g : (match lstAt M n with | some xs => R (.ref M.length) (M ++ [.lst xs]) | none => False) := g
        cases el : lstAt M n with
        | none => simp [el] at g
        | some ys =>
          simp only [el] at g
          obtain ⟨a, vs, rfl, s1, l1⟩ := m.seq r2 el
          refine call_list_of pins s σ H _ us Q I r ⟨a, vs, rfl, .inl (by rw [hK]; exact s1), fun p hp => ?_⟩
          have n := m.new (o := .lst ys) (u := .lst vs) hp ⟨_, rfl, l1⟩
          exact c _ _ _ _ _ n (rdat_new m.len) g
      | _ => exact (g : False).elim
/-! ### isinstance -/
def tyD (d : D) (M : Mem) : Option String := match d with
  | .non => some "NoneType" | .bl _ => some "bool" | .int _ => some "int" | .str _ => some "str" | .tup _ => some "tuple"
  | .ref n => match M[n]? with
    | some (.lst _) => some "list"
    | _ => none
  | .con _ => none
def isi (T : String) (d : D) (M : Mem) : Option Bool := (tyD d M).bind fun t => kitB t T
def eIsi (T : String) (ta : SE) : SE := fun Ex ρ M R => ta Ex ρ M fun d M1 => match isi T d M1 with | some b => R (.bl b) M1 | none => False
theorem kit_isi {K : PySem.W.Frag} {H : Hp} {al : List Addr} {M : Mem} {d : D} {v : V} {T : String} {b : Bool} (hG : G.K = K) (m : RMem G H al M) (r : RDat K H al d v) (h : isi T d M = some b) :
    ∃ t, TyX K H v t ∧ PySem.W.kitOne K t (.type T) = some b := by
  have key : ∀ t, tyD d M = some t → TyX K H v (.type t) → ∃ t, TyX K H v t ∧ PySem.W.kitOne K t (.type T) = some b := fun t e ty => by
    unfold isi at h
    rw [e, Option.bind_some] at h
    exact ⟨_, ty, kit_ty h⟩
  cases d with
  | non => rw [RDat] at r; subst r; exact key _ rfl (.base .non)
  | bl k => rw [RDat] at r; subst r; exact key _ rfl (.base (.bl k))
  | int k => rw [RDat] at r; subst r; exact key _ rfl (.base (.int k))
  | str k => rw [RDat] at r; subst r; exact key _ rfl (.base (.str k))
  | tup xs =>
    rw [RDat] at r
    obtain ⟨a, vs, rfl, s1, l1⟩ := r
    refine key _ rfl ?_
    rcases s1 with (e | ⟨o, e⟩) | ⟨o, its, n, e, hc, _⟩
    · exact .base (.tup e)
    · exact .fTuple e
    · exact .kTuple e hc
  | ref n =>
    cases e : M[n]? with
    | none => simp [isi, tyD, e] at h
    | some o =>
      cases o with
      | lst xs =>
        subst hG
        obtain ⟨a, vs, rfl, _, e2, _⟩ := m.lst r e
        exact key "list" (by simp [tyD, e]) (.base (.lst e2))
      | _ => simp [isi, tyD, e] at h
  | con xs => simp [isi, tyD] at h
theorem me_isi {T : Str} {TS : String} {p pT : Pos} (hK : X.K = G.K) (hg : Gl X "isinstance") (hm : X.mg "isinstance" = none) (hgT : Gl X T) (hmT : X.mg T = none) (hv : bootBuiltins T = some (.type TS)) (hn : T ≠ "__name__") (hd : (T == ("__debug__" : Str)) = false)
    (ha : ME X G a ta) (he : starEach [a, .Name T pT] X.env = (false, eval a X.env) :: starEach [.Name T pT] X.env) (hpl : (backTo pos (starEach [.Name T pT] X.env)).any (·.1) = false) :
    ME X G (.Call (.Name "isinstance" p) [a, .Name T pT] [] pos) (eIsi TS ta) := by
  refine fun W tk => PE.imp (pe_callB (call_isi) hg hm (by decide +kernel) (pa_cons (ha W tk) (pa_cons (pe_bltn (v := .ty TS) hgT hmT hv rfl hn hd) pa_nil) he) (by decide) (by decide) he hpl) fun σ H Q h => ?_
  obtain ⟨ρ, al, M, Ex, R, r, t, c, xc⟩ := h
  refine ⟨ρ, al, M, Ex, _, r, t, fun H1 al1 M1 x d n1 r1 h1 => ?_, xc⟩
  cases e : isi TS d M1 with
  | none => simp only [e] at h1
  | some b =>
    simp only [e] at h1
    obtain ⟨t, ty, k⟩ := kit_isi rfl n1.m r1 e
    exact ⟨x, .ty TS, t, .type TS, b, rfl, .ty TS, by rw [hK]; exact ty, by rw [hK]; exact k, c _ _ _ _ _ n1 (by rw [RDat]) h1⟩
end
end DN

set_option maxHeartbeats 4000000
/-! iteration, comprehensions, statements -/
namespace DN
open PySem PySem.Spec L2

/-! ### targets: names and tuples of names -/
inductive Tg where
  | nm (i : Nat)
  | tp (ts : List Tg)
mutual
def asgD : Tg → D → Env → Option Env
  | .nm i, d, ρ => some (ρ.set i (some d))
  | .tp ts, .tup ds, ρ => asgDs ts ds ρ
  | .tp _, _, _ => none
def asgDs : List Tg → List D → Env → Option Env
  | [], [], ρ => some ρ
  | t :: ts, d :: ds, ρ => match asgD t d ρ with
    | some ρ1 => asgDs ts ds ρ1
    | none => none
  | _, _, _ => none
end
mutual
def slotsT : Tg → List Nat
  | .nm i => [i]
  | .tp ts => slotsTs ts
def slotsTs : List Tg → List Nat
  | [] => []
  | t :: ts => slotsT t ++ slotsTs ts
end
section
variable {X : Cx} {G : GC}
/-- only the slots js have changed -/
def Only (js : List Nat) (σ σ' : L2.St) : Prop := σ'.length = σ.length ∧ ∀ i, i ∉ js → σ'[i]? = σ[i]?
theorem Only.refl (js : List Nat) (σ : L2.St) : Only js σ σ := ⟨rfl, fun _ _ => rfl⟩
theorem Only.trans {js ks : List Nat} {a b c : L2.St} (x : Only js a b) (y : Only ks b c) : Only (js ++ ks) a c :=
  ⟨y.1.trans x.1, fun i hi => by
    rw [List.mem_append, not_or] at hi
    rw [y.2 i hi.2, x.2 i hi.1]⟩
theorem Only.mono {js ks : List Nat} {a b : L2.St} (x : Only js a b) (h : ∀ i ∈ js, i ∈ ks) : Only ks a b := ⟨x.1, fun i hi => x.2 i fun z => hi (h i z)⟩
theorem wipe_get : ∀ (vs : List Nat) (σ : L2.St) (i : Nat), (wipe σ vs)[i]? = if i ∈ vs then (if i < σ.length then some none else none) else σ[i]?
  | [], σ, i => by simp [wipe]
  | v :: vs, σ, i => by
    unfold wipe
    by_cases hv : v = i
    · subst hv
      rw [if_pos (List.mem_cons_self), List.getElem?_set]
      simp [wipe_length]
    · rw [List.getElem?_set_ne hv, wipe_get vs σ i]
      have : (i ∈ v :: vs) ↔ i ∈ vs := by simp [Ne.symm hv]
      simp only [this]
theorem Only.wipe {js vs : List Nat} {a b : L2.St} (x : Only js a b) (h : ∀ i ∈ js, i ∈ vs) : L2.wipe b vs = L2.wipe a vs := by
  apply List.ext_getElem?
  intro i
  rw [wipe_get, wipe_get, x.1]
  by_cases hi : i ∈ vs
  · rw [if_pos hi, if_pos hi]
  · rw [if_neg hi, if_neg hi]
    exact x.2 i fun z => hi (h i z)
def NoX (G : GC) (js : List Nat) : Prop := ∀ n, G.xn = some n → n.i ∉ js
theorem RSt.setS {H : Hp} {al : List Addr} {M : Mem} {σ : L2.St} {ρ : Env} {i : Nat} {d : D} {v : V} (r : RSt G H al M σ ρ) (q : RDat G.K H al d v) (hx : NoX G [i]) : RSt G H al M (σ.set i (some v)) (ρ.set i (some d)) := by
  refine ⟨r.m, ⟨by rw [List.length_set, List.length_set]; exact r.e.1, fun j d' h => ?_⟩, ?_⟩
  · by_cases hj : i = j
    · subst hj
      have hl : i < ρ.length := by
        have := (List.getElem?_eq_some_iff.mp h).1
        rwa [List.length_set] at this
      rw [List.getElem?_set_self hl] at h
      cases h
      exact ⟨v, by rw [List.getElem?_set_self (by rw [← r.e.1]; exact hl)], q⟩
    · rw [List.getElem?_set_ne hj] at h ⊢
      exact r.e.2 j d' h
  · have := r.x
    unfold XOk at this ⊢
    cases e : G.xn with
    | none => trivial
    | some n =>
      rw [e] at this
      refine ⟨this.1, ?_⟩
      have hn : i ≠ n.i := fun z => hx n e (by simp [z])
      show (σ.set i (some v))[n.i]? = _
      rw [List.getElem?_set_ne hn]
      exact this.2
def LG (G : GC) (tg : Tg) : TG := fun v σ H Q => ∃ ρ al M d ρ', RSt G H al M σ ρ ∧ RDat G.K H al d v ∧ asgD tg d ρ = some ρ' ∧ ∀ σ', RSt G H al M σ' ρ' → Only (slotsT tg) σ σ' → Q σ' H
def LGs (G : GC) (ts : List Tg) : TGs := fun vs σ H Q => ∃ ρ al M ds ρ', RSt G H al M σ ρ ∧ RDats G.K H al ds vs ∧ asgDs ts ds ρ = some ρ' ∧ ∀ σ', RSt G H al M σ' ρ' → Only (slotsTs ts) σ σ' → Q σ' H
theorem PG.imp {X : Cx} {e : Expr} {t t' : TG} (h : PG X e t) (i : ∀ v σ H Q, t' v σ H Q → t v σ H Q) : PG X e t' := ⟨fun pins s σ H v u Q I r w => h.run pins s σ H v u Q I r (i v σ H Q w)⟩
theorem PGs.imp {X : Cx} {e : List Expr} {t t' : TGs} (h : PGs X e t) (i : ∀ v σ H Q, t' v σ H Q → t v σ H Q) : PGs X e t' := ⟨fun pins s σ H v u Q I r w => h.run pins s σ H v u Q I r (i v σ H Q w)⟩
def MG (X : Cx) (G : GC) (e : Expr) (tg : Tg) : Prop := PG X e (LG G tg)
def MGs (X : Cx) (G : GC) (es : List Expr) (ts : List Tg) : Prop := PGs X es (LGs G ts)
theorem mg_name {i : Nat} {x : Str} {pos : Pos} (hN : X.N.Nodup) (hi : X.N[i]? = some x) (hx : Loc X.env.scope x) (hf : X.fn x = true ∨ X.env.scope.names.lookup x = some .local) (hX : NoX G [i]) : MG X G (.Name x pos) (.nm i) := by
  refine PG.imp (pg_name (i := i) hN hi hx hf) fun v σ H Q h => ?_
  obtain ⟨ρ, al, M, d, ρ', r, q, e, c⟩ := h
  simp only [asgD, Option.some.injEq] at e
  subst e
  refine c _ (r.setS q hX) ⟨by rw [List.length_set], fun j hj => ?_⟩
  have hj : j ≠ i := by simpa [slotsT] using hj
  rw [List.getElem?_set_ne (Ne.symm hj)]
theorem mgs_nil : MGs X G [] [] := by
  refine PGs.imp pgs_nil fun vs σ H Q h => ?_
  obtain ⟨ρ, al, M, ds, ρ', r, q, e, c⟩ := h
  cases ds with
  | nil =>
    rw [RDats] at q
    simp only [asgDs, Option.some.injEq] at e
    subst e
    exact ⟨q, c _ r (Only.refl _ _)⟩
  | cons d t => simp [asgDs] at e
theorem mgs_cons {a : Expr} {es : List Expr} {t : Tg} {ts : List Tg} (ha : MG X G a t) (hs : MGs X G es ts) (h : (assignEach (a :: es) X.env).map (·.2) = assign a X.env :: (assignEach es X.env).map (·.2)) : MGs X G (a :: es) (t :: ts) := by
  refine PGs.imp (pgs_cons ha hs h) fun vs σ H Q h => ?_
  obtain ⟨ρ, al, M, ds, ρ', r, q, e, c⟩ := h
  cases ds with
  | nil => simp [asgDs] at e
  | cons d ds =>
    rw [RDats] at q
    obtain ⟨v, vr, rfl, q1, q2⟩ := q
    simp only [asgDs] at e
    cases e1 : asgD t d ρ with
    | none => rw [e1] at e; cases e
    | some ρ1 =>
      rw [e1] at e
      exact ⟨v, vr, rfl, ρ, al, M, d, ρ1, r, q1, e1, fun σ1 r1 o1 => ⟨ρ1, al, M, ds, ρ', r1, q2, e, fun σ2 r2 o2 => c _ r2 (by simpa [slotsTs] using o1.trans o2)⟩⟩
theorem mg_tup {es : List Expr} {k : Nat} {pos : Pos} {ts : List Tg} (hK : X.K = G.K) (hc : X.calm = true) (h : MGs X G es ts) (hl : es.length = ts.length) (hn : (assignEach es X.env).length = es.length) (hst : (assignEach es X.env).findIdx? (·.1) = none) : MG X G (.Tuple es k pos) (.tp ts) := by
  refine PG.imp (pg_tup (n := es.length) hc h hn hst) fun v σ H Q h => ?_
  obtain ⟨ρ, al, M, d, ρ', r, q, e, c⟩ := h
  cases d with
  | tup ds =>
    rw [RDat] at q
    obtain ⟨a, vs, rfl, s1, l1⟩ := q
    simp only [asgD] at e
    have lenD : ∀ (ts : List Tg) (ds : List D) (ρ ρ' : Env), asgDs ts ds ρ = some ρ' → ds.length = ts.length := by
      intro ts
      induction ts with
      | nil => intro ds ρ ρ' h; cases ds <;> simp_all [asgDs]
      | cons t ts ih =>
        intro ds ρ ρ' h
        cases ds with
        | nil => simp [asgDs] at h
        | cons d ds =>
          simp only [asgDs] at h
          cases e1 : asgD t d ρ with
          | none => rw [e1] at h; cases h
          | some ρ1 => rw [e1] at h; rw [List.length_cons, List.length_cons, ih ds _ _ h]
    exact ⟨a, vs, rfl, by rw [hK]; exact s1, by rw [← l1.length, lenD _ _ _ _ e, hl], ρ, al, M, ds, ρ', r, l1, e, fun σ' r' o' => c _ r' (by simpa [slotsT] using o')⟩
  | _ => simp [asgD] at e

/-! ### what is walked -/
structure Iter where
  items : List D
  ok : Mem → Prop
abbrev SI := XC → Env → Mem → (Iter → Mem → Prop) → Prop
def ItR (G : GC) (H0 : Hp) (al0 : List Addr) (J : It) (it : Iter) : Prop :=
  ∀ (i : Nat) (H : Hp) (al : List Addr) (M : Mem), Nxt G H0 al0 H al M → it.ok M →
    (∀ d, it.items[i]? = some d → J.go i H ∧ ∀ x H', J.yld i H x H' → Nxt G H al H' al M ∧ RDat G.K H' al d x) ∧ (it.items.length = i → J.stop i H)
def LI (G : GC) (W : WX) (t : SI) : TI := fun σ H Q => ∃ ρ al M Ex R, RSt G H al M σ ρ ∧ t Ex ρ M R ∧ (∀ H' al' M' J it, Nxt G H al H' al' M' → ItR G H' al' J it → R it M' → Q J H') ∧ XCl G W H al Ex σ
def MI (X : Cx) (G : GC) (tg iter : Expr) (t : SI) : Prop := ∀ W, Takes X W → PI X tg iter (LI G W t)
theorem PI.imp {X : Cx} {tg e : Expr} {t t' : TI} (h : PI X tg e t) (i : ∀ σ H Q, t' σ H Q → t σ H Q) : PI X tg e t' := ⟨fun pins s σ H R I w => h.run pins s σ H R I (i σ H R w)⟩
/-- two rules for one thing: by what it is -/
theorem PI.or {X : Cx} {tg e : Expr} {t u : TI} (h : PI X tg e t) (h' : PI X tg e u) : PI X tg e (fun σ H Q => t σ H Q ∨ u σ H Q) :=
  ⟨fun pins s σ H R I w => w.elim (h.run pins s σ H R I) (h'.run pins s σ H R I)⟩
theorem PE.or {X : Cx} {e : Expr} {t u : TE} (h : PE X e t) (h' : PE X e u) : PE X e (fun σ H Q => t σ H Q ∨ u σ H Q) :=
  ⟨fun pins s σ H R I w => w.elim (h.run pins s σ H R I) (h'.run pins s σ H R I)⟩
/-- a list or a tuple or a text, walked: by the value that comes -/
theorem itr_tup {H : Hp} {al : List Addr} {a : Addr} {vs : List V} {xs : List D} (s1 : SqT G.K H a vs) (l1 : RDats G.K H al xs vs) : ItR G H al (Itt G.K a) ⟨xs, fun _ => True⟩ := by
  intro i H' al' M' n _
  refine ⟨fun d hd => ?_, fun hl => ⟨vs, n.k.sqT s1, by rw [← l1.length]; exact Nat.le_of_eq hl⟩⟩
  obtain ⟨v, e1, e2⟩ := l1.get hd
  refine ⟨⟨vs, v, n.k.sqT s1, e1⟩, fun x H2 y => ?_⟩
  obtain ⟨rfl, q⟩ := y
  have := q vs (n.k.sqT s1)
  rw [e1] at this
  cases this
  exact ⟨n.m.go, e2.mono n.k n.p⟩
def iSeq (t : SE) : SI := fun Ex ρ M R => t Ex ρ M fun d M1 => match d with
  | .tup xs => R ⟨xs, fun _ => True⟩ M1
  | .ref n => match lstAt M1 n with | some xs => R ⟨xs, fun M => lstAt M n = some xs⟩ M1 | none => False
  | .str z => R ⟨z.cps.toList.map fun c => .str ⟨#[c]⟩, fun _ => True⟩ M1
  | .con xs => R ⟨xs, fun _ => True⟩ M1
  | _ => False
theorem itr_con {H : Hp} {al : List Addr} {a : Addr} {xs : List D} {vs : List V} (s0 : SqF G.K H a vs) (l0 : RDats G.K H al xs vs) : ItR G H al (Itl G.K a) ⟨xs, fun _ => True⟩ := by
  intro i H' al' M' nx _
  have s1 := (nx.k.sqF s0).seq
  have l1 := l0.mono nx.k nx.p
  refine ⟨fun d hd => ?_, fun hl => ⟨vs, s1, by rw [← l1.length]; exact Nat.le_of_eq hl⟩⟩
  obtain ⟨v, e1, e2⟩ := l1.get hd
  refine ⟨⟨vs, v, s1, e1⟩, fun x H2 y => ?_⟩
  obtain ⟨rfl, q⟩ := y
  have := q vs s1
  rw [e1] at this
  cases this
  exact ⟨nx.m.go, e2⟩
theorem itr_lst {H0 : Hp} {al0 : List Addr} {n : Nat} {a : Addr} {xs : List D} (ha : al0[n]? = some a) : ItR G H0 al0 (Itl G.K a) ⟨xs, fun M => lstAt M n = some xs⟩ := by
  intro i H' al' M' nx ok
  have ok : lstAt M' n = some xs := ok
  have rd : RDat G.K H' al' (.ref n) (.ref a) := by rw [RDat]; exact ⟨a, pfx_get nx.p ha, rfl⟩
  obtain ⟨b, vs, e0, s1, l1⟩ := nx.m.seq rd ok
  cases e0
  refine ⟨fun d hd => ?_, fun hl => ⟨vs, s1, by rw [← l1.length]; exact Nat.le_of_eq hl⟩⟩
  obtain ⟨v, e1, e2⟩ := l1.get hd
  refine ⟨⟨vs, v, s1, e1⟩, fun x H2 y => ?_⟩
  obtain ⟨rfl, q⟩ := y
  have := q vs s1
  rw [e1] at this
  cases this
  exact ⟨nx.m.go, e2⟩
theorem itr_str {H : Hp} {al : List Addr} {z : Str} : ItR G H al (Its z) ⟨z.cps.toList.map fun c => .str ⟨#[c]⟩, fun _ => True⟩ := by
  intro i H' al' M' n _
  refine ⟨fun d hd => ?_, fun hl => (by show z.cps.size ≤ i; simpa using Nat.le_of_eq hl)⟩
  rw [List.getElem?_map] at hd
  cases e : z.cps.toList[i]? with
  | none => rw [e] at hd; cases hd
  | some c =>
    rw [e] at hd; cases hd
    have hi : i < z.cps.size := by simpa using (List.getElem?_eq_some_iff.mp e).1
    refine ⟨hi, fun x H2 y => ?_⟩
    obtain ⟨rfl, c', e1, rfl⟩ := y
    rw [Array.getElem?_toList, e1] at e
    cases e
    exact ⟨n.m.go, by rw [RDat]⟩
/-! ### an iterator by the value that comes -/
def iAny (K : PySem.W.Frag) (tl : TE) : TI := fun σ H Q => tl σ H fun x H1 =>
  (∃ a xs, x = .ref a ∧ SqL K H1 a xs ∧ Q (Itl K a) H1) ∨ (∃ a xs, x = .ref a ∧ SqT K H1 a xs ∧ Q (Itt K a) H1) ∨ ∃ z, x = .str z ∧ Q (Its z) H1
theorem pi_any {tg l : Expr} {tl : TE} (hl : PE X l tl) : PI X tg l (iAny X.K tl) := by
  refine ⟨fun pins s σ H Q I h => ?_⟩
  refine thn (hl.run pins s σ H _ I h) ?_
  rintro v s1 ⟨x, H1, I1, r1, (⟨a, xs, rfl, hq, q⟩ | ⟨a, xs, rfl, hq, q⟩ | ⟨z, rfl, q⟩)⟩
  · cases r1
    obtain ⟨its, _, pl, _⟩ := I1.list hq
    exact wpAny_pyIter_list pl.isList (pi_one (tk := s1.toks) I1 _ (turn_list a _) ⟨_, Heap.get?_push_size _ rfl, rfl, rfl⟩ q)
  · cases r1
    obtain ⟨its, _, pl, _⟩ := I1.tuple hq
    exact wpAny_pyIter_tuple (show s1.heap.IsTuple a its.toArray from pl) (pi_one (tk := s1.toks) I1 _ (turn_tuple a _) ⟨_, Heap.get?_push_size _ rfl, rfl, rfl⟩ q)
  · obtain ⟨t, rfl⟩ := r1
    cases ha : z.cps.all (· < 128) with
    | false => exact wpAny_pyIter_wide ha (pi_one (tk := s1.toks) I1 _ (turn_str _ z t _ (.inr rfl)) ⟨_, Heap.get?_push_size _ rfl, rfl, rfl⟩ q)
    | true => exact wpAny_pyIter_ascii ha (pi_one (tk := s1.toks) I1 _ (turn_str _ z t _ (.inl rfl)) ⟨_, Heap.get?_push_size _ rfl, rfl, rfl⟩ q)
theorem mi_seq {tg l : Expr} {tl : SE} (hK : X.K = G.K) (hl : ME X G l tl) : MI X G tg l (iSeq tl) := by
  refine fun W tk => PI.imp (pi_any (hl W tk)) fun σ H Q h => ?_
  obtain ⟨ρ, al, M, Ex, R, r, t, c, xc⟩ := h
  refine ⟨ρ, al, M, Ex, _, r, t, fun H1 al1 M1 v d n1 r1 h1 => ?_, xc⟩
  cases d with
  | tup xs =>
    rw [RDat] at r1
    obtain ⟨a, vs, rfl, s1, l1⟩ := r1
    exact .inr (.inl ⟨a, vs, rfl, by rw [hK]; exact s1, by rw [hK]; exact c _ _ _ _ _ n1 (itr_tup s1 l1) h1⟩)
  | str z =>
    rw [RDat] at r1
    exact .inr (.inr ⟨z, r1, c _ _ _ _ _ n1 itr_str h1⟩)
  | ref n =>
    have h1 : (match lstAt M1 n with | some xs => R ⟨xs, fun M => lstAt M n = some xs⟩ M1 | none => False) := h1
    cases el : lstAt M1 n with
    | none => simp [el] at h1
    | some xs =>
      simp only [el] at h1
      obtain ⟨a, vs, rfl, s1, l1⟩ := n1.m.seq r1 el
      have ha : al1[n]? = some a := by
        rw [RDat] at r1
        obtain ⟨b, e1, e2⟩ := r1
        cases e2; exact e1
      exact .inl ⟨a, vs, rfl, by rw [hK]; exact s1, by rw [hK]; exact c _ _ _ _ _ n1 (itr_lst ha) h1⟩
  | con xs =>
    rw [RDat] at r1
    obtain ⟨a, vs, rfl, s1, l1⟩ := r1
    exact .inl ⟨a, vs, rfl, by rw [hK]; exact s1.seq, by rw [hK]; exact c _ _ _ _ _ n1 (itr_con s1 l1) h1⟩
  | _ => exact (h1 : False).elim
/-! ranges -/
def rngD (lo : Int) (n : Nat) : List D := (List.range n).map fun i => .int (lo + (i : Nat))
theorem rngD_get {lo : Int} {n i : Nat} {d : D} (h : (rngD lo n)[i]? = some d) : i < n ∧ d = .int (lo + (i : Nat)) := by
  unfold rngD at h
  rw [List.getElem?_map] at h
  cases e : (List.range n)[i]? with
  | none => rw [e] at h; cases h
  | some j =>
    rw [e] at h; cases h
    obtain ⟨h1, h2⟩ := List.getElem?_eq_some_iff.mp e
    rw [List.length_range] at h1
    rw [List.getElem_range] at h2
    exact ⟨h1, by rw [h2]⟩
theorem itr_rng {H : Hp} {al : List Addr} {lo : Int} {n : Nat} : ItR G H al (Itr lo n) ⟨rngD lo n, fun _ => True⟩ := by
  intro i H' al' M' nx _
  refine ⟨fun d hd => ?_, fun hl => (by show n ≤ i; simpa [rngD] using Nat.le_of_eq hl)⟩
  obtain ⟨h1, rfl⟩ := rngD_get hd
  refine ⟨h1, fun x H2 y => ?_⟩
  obtain ⟨rfl, rfl⟩ := y
  exact ⟨nx.m.go, by rw [RDat]⟩
def iRange1 (ta : SA) : SI := fun Ex ρ M R => ta Ex ρ M fun ds M1 => match ds with
  | [.int j] => j < 2 ^ 62 ∧ -(2 ^ 62) ≤ j ∧ R ⟨rngD 0 j.toNat, fun _ => True⟩ M1
  | _ => False
def iRange2 (ta : SA) : SI := fun Ex ρ M R => ta Ex ρ M fun ds M1 => match ds with
  | [.int i, .int j] => (-(2 ^ 62) ≤ i ∧ i < 2 ^ 62 ∧ -(2 ^ 62) ≤ j ∧ j < 2 ^ 62) ∧ R ⟨rngD i (j - i).toNat, fun _ => True⟩ M1
  | _ => False
theorem mi_range1 {tg a : Expr} {ta : SA} {p pos : Pos} (hg : Gl X "range") (hm : X.mg "range" = none) (ha : MA X G [a] ta) (hs : starEach [a] X.env = [(false, eval a X.env)]) : MI X G tg (.Call (.Name "range" p) [a] [] pos) (iRange1 ta) := by
  refine fun W tk => PI.imp (pi_range1 hg hm (ha W tk) hs) fun σ H Q h => ?_
  obtain ⟨ρ, al, M, Ex, R, r, t, c, xc⟩ := h
  refine ⟨ρ, al, M, Ex, _, r, t, fun H1 al1 M1 vs ds n1 r1 l1 h1 => ?_, xc⟩
  rcases ds with _ | ⟨d, _ | ⟨e, t⟩⟩
  · exact (h1 : False).elim
  · obtain ⟨v, rfl, r2⟩ := rd1 r1
    cases d with
    | int j =>
      obtain ⟨h2, h3, h1⟩ := (h1 : _ ∧ _ ∧ _)
      rw [RDat] at r2; subst r2
      exact ⟨j, rfl, h3, h2, c _ _ _ _ _ n1 itr_rng h1⟩
    | _ => exact (h1 : False).elim
  · cases d <;> exact (h1 : False).elim
theorem mi_range2 {tg a b : Expr} {ta : SA} {p pos : Pos} (hg : Gl X "range") (hm : X.mg "range" = none) (ha : MA X G [a, b] ta) (hs : starEach [a, b] X.env = [(false, eval a X.env), (false, eval b X.env)]) (hs2 : starEach [b] X.env = [(false, eval b X.env)]) :
    MI X G tg (.Call (.Name "range" p) [a, b] [] pos) (iRange2 ta) := by
  refine fun W tk => PI.imp (pi_range2 hg hm (ha W tk) hs hs2) fun σ H Q h => ?_
  obtain ⟨ρ, al, M, Ex, R, r, t, c, xc⟩ := h
  refine ⟨ρ, al, M, Ex, _, r, t, fun H1 al1 M1 vs ds n1 r1 l1 h1 => ?_, xc⟩
  rcases ds with _ | ⟨d, _ | ⟨e, _ | ⟨f, t⟩⟩⟩
  · exact (h1 : False).elim
  · cases d <;> exact (h1 : False).elim
  · obtain ⟨v, w, rfl, r2, r3⟩ := rd2 r1
    cases d with
    | int i =>
      cases e with
      | int j =>
        obtain ⟨h2, h1⟩ := (h1 : _ ∧ _)
        rw [RDat] at r2 r3; subst r2 r3
        exact ⟨i, j, rfl, h2, c _ _ _ _ _ n1 itr_rng h1⟩
      | _ => exact (h1 : False).elim
    | _ => cases e <;> exact (h1 : False).elim
  · cases d <;> cases e <;> exact (h1 : False).elim
end
end DN

set_option maxHeartbeats 4000000
/-! enumerate over tuples, lists, texts -/
namespace DN
open PySem PySem.Spec L2

theorem meets_enum1 {v : Value} {o : Obj} {H : Heap → Prop} (B : Begins v o H) :
    Meets (Builtin.«enumerate.__new__» ⟨[.type "enumerate", v], []⟩) (fun _ R s => H s.heap ∧
      R (.ok (.ret (.ref (s.heap.push o).objs.size))) { s with heap := (s.heap.push o).push { cls := .type "enumerate", data := .fields #[.none, .bool false, .ref s.heap.objs.size, rawInt 0, .none, .none] } }) :=
  .of_wp fun prog w A R s h => by
    obtain ⟨hp, g, d, tk, os⟩ := s; obtain ⟨h1, h⟩ := h
    have hsub := sub_enumerate
    have q1 : ∀ {A' : Around} {E : Value → Shared → Prop} {Q : Value → Shared → Prop}, Q (.ref hp.objs.size) ⟨hp.push o, g, d, tk, os⟩ → wpAny (model prog w) A' (pyIter v) Q E ⟨hp, g, d, tk, os⟩ :=
      fun q => B.iter prog w _ _ ⟨hp, g, d, tk, os⟩ _ h1 q
    wp_walk using q1
    refine wpAny_stack_any fun st => wpAny_pure ?_
    split
    · rename_i c _ _ _ _ _
      cases (c == Value.type "enumerate") <;> (wp_walk using q1; exact ⟨_, rfl, h⟩)
    · wp_walk using q1
      exact ⟨_, rfl, h⟩
section
variable {prog : Program} {w : World} {A : Around} {E : Value → Shared → Prop} {s : Shared}
theorem enum_one {v : Value} {o : Obj} {H : Heap → Prop} {Q : Value → Shared → Prop} (B : Begins v o H) (h1 : H s.heap)
    (h : ∀ h', IsEnum h' (s.heap.objs.size + 1) s.heap.objs.size 0 .none → h'.get? s.heap.objs.size = some o → (∀ b ob, s.heap.get? b = some ob → h'.get? b = some ob) → Q (.ref (s.heap.objs.size + 1)) { s with heap := h' }) :
    wpAny (model prog w) A (call (.type "enumerate") [v]) Q E s := by
  refine callType_new F.called_enumerate (by decide) (F.typeCall_enumerate_1 _) (F.newCall_enumerate_1 _) (fun obj => F.args_object_init_2 obj _) F.entry_enumerate_new (meets_enum1 B) ⟨h1, ?_⟩
  have hz : (s.heap.push o).objs.size = s.heap.objs.size + 1 := Heap.size_push ..
  show _ ∧ _
  rw [hz]
  have he : IsEnum ((s.heap.push o).push { cls := .type "enumerate", data := .fields #[.none, .bool false, .ref s.heap.objs.size, rawInt 0, .none, .none] }) (s.heap.objs.size + 1) s.heap.objs.size 0 .none := by
    have := Heap.get?_push_size (s.heap.push o) (o := { cls := .type "enumerate", data := .fields #[.none, .bool false, .ref s.heap.objs.size, rawInt 0, .none, .none] }) rfl
    rw [hz] at this; exact this
  exact ⟨⟨_, he, rfl⟩, h _ he (Heap.get?_push_of_some _ (Heap.get?_push_size _ B.free)) fun b ob x => Heap.get?_push_of_some _ (Heap.get?_push_of_some _ x)⟩
end

/-- an iterator over known values: what it draws at turn i -/
structure Src (P : Program) (w : World) (K : PySem.W.Frag) (it : Addr) (go : Nat → Hp → Prop) (at_ : Nat → Hp → V → Prop) (stop : Nat → Hp → Prop) (tn : Nat → Heap → Prop) : Prop where
  draws : ∀ (X : Cx), X.prog = P → X.w = w → X.K = K → X.calm = true → ∀ (pins : List (Addr × Obj)) (s : Shared) (σ : L2.St) (H : Hp) (i : Nat), Inv X pins σ H s → H it = none → (go i H ∨ stop i H) → tn i s.heap →
    ∃ (fp : List Addr) (n : Nat) (Pv : Nat → Value → Prop) (St : Nat → Heap → Prop), Draws P w X.A.in1 it fp n Pv St ∧ St i s.heap ∧ (go i H → i < n ∧ ∀ u, Pv i u → ∃ x, RelV x u ∧ at_ i H x) ∧ (stop i H → i = n) ∧ (∀ j h, St j h → tn j h) ∧
      ∀ b ∈ fp, b = it ∨ (∃ o, s.heap.get? b = some o ∧ o.cls ≠ .type "enumerate")
  obj : ∀ i h, tn i h → ∃ o, h.get? it = some o ∧ o.cls ≠ .type "enumerate" ∧ ∀ v, o.data ≠ .cell v
  keep : ∀ i h h', tn i h → (∀ o, h.get? it = some o → h'.get? it = some o) → tn i h'
def Iten (k0 : Int) (go : Nat → Hp → Prop) (at_ : Nat → Hp → V → Prop) (stop : Nat → Hp → Prop) : It :=
  ⟨go, fun i H v H' => ∃ T x, v = .ref T ∧ H T = none ∧ H' = upd H T (.tup [.int (k0 + (i : Nat)), x]) ∧ at_ i H x, stop⟩
theorem turn_en {P : Program} {w : World} {K : PySem.W.Frag} {elts : List Expr} {kk : Nat} {tpos : Pos} {k0 : Int} {e it : Addr} {go : Nat → Hp → Prop} {at_ : Nat → Hp → V → Prop} {stop : Nat → Hp → Prop} {tn : Nat → Heap → Prop}
    (S : Src P w K it go at_ stop tn) : Turn P w K (.Tuple elts kk tpos) (Iten k0 go at_ stop) [e, it] e (fun i h => (∃ old, IsEnum h e it (k0 + ((i : Nat) : Int)) old) ∧ tn i h ∧ e ≠ it) where
  mem := by simp
  obj := fun i h st b hb => by
    obtain ⟨⟨old, he⟩, ht, _⟩ := st
    rcases List.mem_cons.mp hb with z | z
    · exact ⟨_, by rw [z]; exact he, fun v q => by cases q⟩
    · obtain ⟨o, ho, _, hd⟩ := S.obj i h ht
      exact ⟨o, by rw [List.mem_singleton.mp z]; exact ho, hd⟩
  keep := fun i h h' st k => by
    obtain ⟨⟨old, he⟩, ht, hne⟩ := st
    exact ⟨⟨old, k e (by simp) _ he⟩, S.keep _ _ _ ht fun o q => k it (by simp) o q, hne⟩
  item := by
    intro X hP hw hK hc i pins s σ H E I hf st hg
    subst hP hw hK
    obtain ⟨⟨old, he⟩, ht, hne⟩ := st
    have hg : go i H := hg
    obtain ⟨fp, n, Pv, St, Dr, hst, hgo, _, hSt, hfp⟩ := S.draws X rfl rfl rfl hc pins s σ H i I (hf it (by simp)).1 (.inl hg) ht
    obtain ⟨hin, hat⟩ := hgo hg
    have hef : e ∉ fp := fun z => by
      rcases hfp e z with q | ⟨o, q1, q2⟩
      · exact hne q
      · rw [he] at q1; cases q1; exact q2 rfl
    have hel : e < s.heap.objs.size := Heap.lt_size he
    have hil : it < s.heap.objs.size := by obtain ⟨o, q, _⟩ := S.obj i _ ht; exact Heap.lt_size q
    refine wpAny_pyNext_enum_itemC Dr he hst hin hne hef fun u h' tk hPv ho hs' hT hsz hk => ?_
    obtain ⟨x, rx, ax⟩ := hat u hPv
    refine ⟨_, rfl, wpAny_letOwnedTupleGo_enum (s := { s with heap := h', toks := tk + 1 }) ho fun h2 he' sb => ?_⟩
    have hT2 : h2.get? s.heap.objs.size = some { cls := .type "tuple", data := .seq #[.int (k0 + (i : Int)) tk, u] } := (sb.2 _ (Nat.ne_of_gt hel)).trans hT
    have new : ObjOk X.prog X.w (upd H s.heap.objs.size (.tup [.int (k0 + (i : Nat)), x])) h2 s.heap.objs.size (.tup [.int (k0 + (i : Nat)), x]) :=
      ⟨by show 2 ≤ sizeLine; decide, [.int (k0 + (i : Int)) tk, u], .cons ⟨_, rfl⟩ (.cons rx .nil), ⟨_, hT2, rfl, _, rfl⟩⟩
    have I1 : Inv X pins σ (upd H s.heap.objs.size (.tup [.int (k0 + (i : Nat)), x])) { s with heap := h2, toks := tk + 1 } :=
      I.turnedNew (ch := [e, it]) (fun b ob hb q => (sb.2 b (fun z => hb (by simp [z]))).trans (hk b ob (fun z => hb (by simp [z])) (fun z => hb (by simp [z])) q)) hf (Nat.le_refl _) new
    refine ⟨.ref s.heap.objs.size, _, I1, rfl, ⟨_, x, rfl, I.hok.fresh (Nat.le_refl _), rfl, ax⟩, ⟨⟨u, ?_⟩, ?_, hne⟩, fun b hb => ?_⟩
    · have e1 : k0 + ((i + 1 : Nat) : Int) = k0 + (i : Int) + 1 := by omega
      rw [e1]; exact he'
    · exact S.keep _ _ _ (hSt _ _ hs') fun o q => (sb.2 it (Ne.symm hne)).trans q
    · have hb' : b < s.heap.objs.size := by
        rcases List.mem_cons.mp hb with z | z
        · rw [z]; exact hel
        · rw [List.mem_singleton.mp z]; exact hil
      rw [upd_ne (Nat.ne_of_lt hb')]
      exact (hf b hb).1
  done := by
    intro X hP hw hK hc i pins s σ H E I hf st hg
    subst hP hw hK
    obtain ⟨⟨old, he⟩, ht, hne⟩ := st
    have hg : stop i H := hg
    obtain ⟨fp, n, Pv, St, Dr, hst, _, hstop, _, _⟩ := S.draws X rfl rfl rfl hc pins s σ H i I (hf it (by simp)).1 (.inr hg) ht
    have hn := hstop hg
    subst hn
    obtain ⟨f0, f1, f2, f3, f4, f5⟩ := hf it (by simp)
    exact wpAny_pyNext_enum_endD Dr he hst fun h' eb => ⟨rfl, I.turned (t' := s.toks) (fun b o hb q => eb b o hb q) f0 f1 f3 f4 f5⟩
  self := fun A i s Q E st h => let ⟨⟨_, he⟩, _⟩ := st; wpAny_pyIter_enum he h

theorem src_tup {P : Program} {w : World} {K : PySem.W.Frag} (a it : Addr) : Src P w K it (fun i H => ∃ xs x, SqT K H a xs ∧ xs[i]? = some x) (fun i H x => ∀ xs, SqT K H a xs → xs[i]? = some x) (fun i H => ∃ xs, SqT K H a xs ∧ xs.length = i)
    (fun i h => h.IsTupleIter it a i) where
  draws := by
    intro X hP hw hK hc pins s σ H i I hn hor ht
    subst hP hw hK
    obtain ⟨xs, hq⟩ : ∃ xs, SqT X.K H a xs := by rcases hor with ⟨xs, _, h, _⟩ | ⟨xs, h, _⟩ <;> exact ⟨xs, h⟩
    obtain ⟨its, rv, p, hz⟩ := I.tuple hq
    have p' : s.heap.IsTuple a its.toArray := p
    have hne : a ≠ it := fun z => by
      obtain ⟨o, e1, c1, _⟩ := p'
      obtain ⟨o2, e2, c2, _⟩ := id ht
      rw [z, e2] at e1; cases e1
      rw [c2] at c1; exact absurd c1 (by decide)
    refine ⟨[it, a], _, _, _, Draws.tuple (A := X.A.in1) (I.ok.hd hc) it a hne its.toArray, ⟨ht, p'⟩, fun hg => ?_, fun hg => ?_, fun j h z => z.1, fun b hb => ?_⟩
    · obtain ⟨ys, x, hy, hx⟩ := hg
      have e := I.tuple_inj hy hq
      subst e
      obtain ⟨u, hu, ru⟩ := rv.get hx
      refine ⟨by simpa using (List.getElem?_eq_some_iff.mp hu).1, fun u' hu' => ⟨x, ?_, fun zs hzs => by rw [I.tuple_inj hzs hq]; exact hx⟩⟩
      have hu' : its[i]? = some u' := by simpa using hu'
      rw [hu] at hu'; cases hu'; exact ru
    · obtain ⟨ys, hy, hl⟩ := hg
      have e := I.tuple_inj hy hq
      subst e
      have := rv.length
      simp; omega
    · rcases List.mem_cons.mp hb with z | z
      · exact .inl z
      · obtain ⟨o, e1, c1, _⟩ := p'
        exact .inr ⟨o, by rw [List.mem_singleton.mp z]; exact e1, by rw [c1]; decide⟩
  obj := fun i h ht => by
    obtain ⟨o, e, c, d⟩ := ht
    exact ⟨o, e, by rw [c]; decide, fun v z => by rw [d] at z; cases z⟩
  keep := fun i h h' ht k => ht.at fun o e => k o e
theorem src_lst {P : Program} {w : World} {K : PySem.W.Frag} (a it : Addr) : Src P w K it (fun i H => ∃ xs x, SqL K H a xs ∧ xs[i]? = some x) (fun i H x => ∀ xs, SqL K H a xs → xs[i]? = some x) (fun i H => ∃ xs, SqL K H a xs ∧ xs.length = i)
    (fun i h => h.IsListIter it a i) where
  draws := by
    intro X hP hw hK hc pins s σ H i I hn hor ht
    subst hP hw hK
    obtain ⟨xs, hq⟩ : ∃ xs, SqL X.K H a xs := by rcases hor with ⟨xs, _, h, _⟩ | ⟨xs, h, _⟩ <;> exact ⟨xs, h⟩
    obtain ⟨its, rv, p, hz⟩ := I.list hq
    have p' : s.heap.IsList a its.toArray := p.isList
    have hne : a ≠ it := fun z => by
      obtain ⟨o, e1, c1, _⟩ := p'
      obtain ⟨o2, e2, c2, _⟩ := id ht
      rw [z, e2] at e1; cases e1
      rw [c2] at c1; exact absurd c1 (by decide)
    refine ⟨[it, a], _, _, _, Draws.list (A := X.A.in1) (I.ok.hd hc) it a hne its.toArray, ⟨ht, p'⟩, fun hg => ?_, fun hg => ?_, fun j h z => z.1, fun b hb => ?_⟩
    · obtain ⟨ys, x, hy, hx⟩ := hg
      have e := I.list_inj hy hq
      subst e
      obtain ⟨u, hu, ru⟩ := rv.get hx
      refine ⟨by simpa using (List.getElem?_eq_some_iff.mp hu).1, fun u' hu' => ⟨x, ?_, fun zs hzs => by rw [I.list_inj hzs hq]; exact hx⟩⟩
      have hu' : its[i]? = some u' := by simpa using hu'
      rw [hu] at hu'; cases hu'; exact ru
    · obtain ⟨ys, hy, hl⟩ := hg
      have e := I.list_inj hy hq
      subst e
      have := rv.length
      simp; omega
    · rcases List.mem_cons.mp hb with z | z
      · exact .inl z
      · obtain ⟨o, e1, c1, _⟩ := p'
        exact .inr ⟨o, by rw [List.mem_singleton.mp z]; exact e1, by rw [c1]; decide⟩
  obj := fun i h ht => by
    obtain ⟨o, e, c, d⟩ := ht
    exact ⟨o, e, by rw [c]; decide, fun v z => by rw [d] at z; cases z⟩
  keep := fun i h h' ht k => ht.at fun o e => k o e
def goT (K : PySem.W.Frag) (a : Addr) : Nat → Hp → Prop := fun i H => ∃ xs x, SqT K H a xs ∧ xs[i]? = some x
def atT (K : PySem.W.Frag) (a : Addr) : Nat → Hp → V → Prop := fun i H x => ∀ xs, SqT K H a xs → xs[i]? = some x
def stT (K : PySem.W.Frag) (a : Addr) : Nat → Hp → Prop := fun i H => ∃ xs, SqT K H a xs ∧ xs.length = i
def goL (K : PySem.W.Frag) (a : Addr) : Nat → Hp → Prop := fun i H => ∃ xs x, SqL K H a xs ∧ xs[i]? = some x
def atL (K : PySem.W.Frag) (a : Addr) : Nat → Hp → V → Prop := fun i H x => ∀ xs, SqL K H a xs → xs[i]? = some x
def stL (K : PySem.W.Frag) (a : Addr) : Nat → Hp → Prop := fun i H => ∃ xs, SqL K H a xs ∧ xs.length = i
section
variable {X : Cx} {G : GC}
theorem enum_it {pins : List (Addr × Obj)} {σ : L2.St} {H : Hp} {s : Shared} {Q : It → Hp → Prop} {E : Value → Shared → Prop} {elts : List Expr} {kk : Nat} {tpos : Pos} {u : Value} {o : Obj} {Hh : Heap → Prop} {go : Nat → Hp → Prop} {at_ : Nat → Hp → V → Prop} {stop : Nat → Hp → Prop} {tn : Nat → Heap → Prop}
    (I : Inv X pins σ H s) (B : Begins u o Hh) (h1 : Hh s.heap) (S : Src X.prog X.w X.K s.heap.objs.size go at_ stop tn) (t0 : ∀ h : Heap, h.get? s.heap.objs.size = some o → tn 0 h) (q : Q (Iten 0 go at_ stop) H) :
    wpAny (model X.prog X.w) X.A (call (.type "enumerate") [u]) (fun v s1 => wpAny (model X.prog X.w) X.A (pyIter v) (PIE X pins σ (.Tuple elts kk tpos) Q) E s1) E s := by
  refine enum_one B h1 fun h' he ho hk => wpAny_pyIter_enum he ?_
  have I2 : Inv X pins σ H { s with heap := h' } := I.kept (t' := s.toks) hk
  refine ⟨s.heap.objs.size + 1, [s.heap.objs.size + 1, s.heap.objs.size], _, _, H, rfl, I2, turn_en (k0 := 0) S, ⟨⟨.none, by simpa using he⟩, t0 _ ho, Nat.succ_ne_self _⟩, fun b hb => ?_, q⟩
  have hle : s.heap.objs.size ≤ b := by
    rcases List.mem_cons.mp hb with z | z
    · rw [z]; exact Nat.le_add_right _ _
    · rw [List.mem_singleton.mp z]; exact Nat.le_refl _
  exact I.fpOk hle (I.hok.fresh hle)
def iEnumA (K : PySem.W.Frag) (ta : TA) : TI := fun σ H Q => ta σ H fun vs H1 => ∃ a, vs = [.ref a] ∧ ((∃ xs, SqL K H1 a xs ∧ Q (Iten 0 (goL K a) (atL K a) (stL K a)) H1) ∨ ∃ xs, SqT K H1 a xs ∧ Q (Iten 0 (goT K a) (atT K a) (stT K a)) H1)
theorem pi_enumA {e : Expr} {ta : TA} {p pos tpos : Pos} {elts : List Expr} {kk : Nat} (hg : Gl X "enumerate") (hm : X.mg "enumerate" = none) (ha : PA X [e] ta) (hs : starEach [e] X.env = [(false, eval e X.env)]) :
    PI X (.Tuple elts kk tpos) (.Call (.Name "enumerate" p) [e] [] pos) (iEnumA X.K ta) := by
  refine ⟨fun pins s σ H Q I h => ?_⟩
  refine PyProof.Rows.Call_ (ld_blt I hg hm PyProof.Rows.boot_enumerate (PyProof.Rows.callWith_type1 (thn (ha.run pos pins s σ H _ I h) ?_) hs rfl))
  rintro us s1 ⟨vs, H1, I1, r1, a, rfl, (⟨xs, hq, q⟩ | ⟨xs, hq, q⟩)⟩
  · rw [r1.ref1]
    obtain ⟨its, _, pl, _⟩ := I1.list hq
    exact enum_it I1 (begins_list a its.toArray) pl.isList (src_lst a _) (fun h e => ⟨_, e, rfl, rfl⟩) q
  · rw [r1.ref1]
    obtain ⟨its, _, pl, _⟩ := I1.tuple hq
    exact enum_it I1 (begins_tuple a its.toArray) (show s1.heap.IsTuple a its.toArray from pl) (src_tup a _) (fun h e => ⟨_, e, rfl, rfl⟩) q
def enumD (k : Int) : List D → List D
  | [] => []
  | d :: r => .tup [.int k, d] :: enumD (k + 1) r
theorem enumD_get : ∀ (xs : List D) (k : Int) (i : Nat) (d : D), (enumD k xs)[i]? = some d → ∃ x, xs[i]? = some x ∧ d = .tup [.int (k + (i : Nat)), x]
  | [], _, _, _, h => by simp [enumD] at h
  | x :: xs, k, 0, d, h => by
    simp [enumD] at h; subst h
    exact ⟨x, rfl, by simp⟩
  | x :: xs, k, i + 1, d, h => by
    have h : (enumD (k + 1) xs)[i]? = some d := by simpa [enumD] using h
    obtain ⟨y, e1, e2⟩ := enumD_get xs (k + 1) i d h
    refine ⟨y, by simpa using e1, ?_⟩
    rw [e2]
    have : k + 1 + (i : Int) = k + ((i + 1 : Nat) : Int) := by omega
    rw [this]
theorem enumD_length : ∀ (xs : List D) (k : Int), (enumD k xs).length = xs.length
  | [], _ => rfl
  | x :: xs, k => by rw [enumD, List.length_cons, List.length_cons, enumD_length]
theorem rdat_pair {H : Hp} {al : List Addr} {T : Addr} {x : V} {d : D} {i : Int} (h : RDat G.K H al d x) (hT : H T = none) : RDat G.K (upd H T (.tup [.int i, x])) al (.tup [.int i, d]) (.ref T) :=
  RDat.tup_of (SqT.of upd_same) (RDats.cons (by rw [RDat]) (RDats.cons (h.mono (KeepH.new hT) (List.prefix_refl _)) RDats.nil))
theorem itr_enT {H : Hp} {al : List Addr} {a : Addr} {vs : List V} {xs : List D} (s1 : SqT G.K H a vs) (l1 : RDats G.K H al xs vs) : ItR G H al (Iten 0 (goT G.K a) (atT G.K a) (stT G.K a)) ⟨enumD 0 xs, fun _ => True⟩ := by
  intro i H' al' M' n _
  refine ⟨fun d hd => ?_, fun hl => ?_⟩
  · obtain ⟨x, e1, rfl⟩ := enumD_get _ _ _ _ hd
    obtain ⟨v, e2, e3⟩ := l1.get e1
    refine ⟨⟨vs, v, n.k.sqT s1, e2⟩, fun y H2 hy => ?_⟩
    obtain ⟨T, x', rfl, hT, rfl, q⟩ := hy
    have q := q vs (n.k.sqT s1)
    rw [e2] at q; cases q
    exact ⟨n.m.tup hT, rdat_pair (e3.mono n.k n.p) hT⟩
  · rw [enumD_length] at hl
    exact ⟨vs, n.k.sqT s1, by rw [← l1.length]; exact hl⟩
theorem itr_enL {H0 : Hp} {al0 : List Addr} {n : Nat} {a : Addr} {xs : List D} (ha : al0[n]? = some a) : ItR G H0 al0 (Iten 0 (goL G.K a) (atL G.K a) (stL G.K a)) ⟨enumD 0 xs, fun M => lstAt M n = some xs⟩ := by
  intro i H' al' M' nx ok
  have ok : lstAt M' n = some xs := ok
  have rd : RDat G.K H' al' (.ref n) (.ref a) := by rw [RDat]; exact ⟨a, pfx_get nx.p ha, rfl⟩
  obtain ⟨b, vs, e0, s1, l1⟩ := nx.m.seq rd ok
  cases e0
  refine ⟨fun d hd => ?_, fun hl => ?_⟩
  · obtain ⟨x, e1, rfl⟩ := enumD_get _ _ _ _ hd
    obtain ⟨v, e2, e3⟩ := l1.get e1
    refine ⟨⟨vs, v, s1, e2⟩, fun y H2 hy => ?_⟩
    obtain ⟨T, x', rfl, hT, rfl, q⟩ := hy
    have q := q vs s1
    rw [e2] at q; cases q
    exact ⟨nx.m.tup hT, rdat_pair e3 hT⟩
  · rw [enumD_length] at hl
    exact ⟨vs, s1, by rw [← l1.length]; exact hl⟩
def iEnum1 (ta : SA) : SI := fun Ex ρ M R => ta Ex ρ M fun ds M1 => match ds with
  | [.tup xs] => R ⟨enumD 0 xs, fun _ => True⟩ M1
  | [.ref n] => match lstAt M1 n with | some xs => R ⟨enumD 0 xs, fun M => lstAt M n = some xs⟩ M1 | none => False
  | _ => False
theorem mi_enum {a : Expr} {ta : SA} {p pos tpos : Pos} {elts : List Expr} {kk : Nat} (hK : X.K = G.K) (hg : Gl X "enumerate") (hm : X.mg "enumerate" = none) (ha : MA X G [a] ta) (hs : starEach [a] X.env = [(false, eval a X.env)]) :
    MI X G (.Tuple elts kk tpos) (.Call (.Name "enumerate" p) [a] [] pos) (iEnum1 ta) := by
  refine fun W tk => PI.imp (pi_enumA hg hm (ha W tk) hs) fun σ H Q h => ?_
  obtain ⟨ρ, al, M, Ex, R, r, t, c, xc⟩ := h
  refine ⟨ρ, al, M, Ex, _, r, t, fun H1 al1 M1 vs ds n1 r1 l1 h1 => ?_, xc⟩
  rcases ds with _ | ⟨d, _ | ⟨e, t⟩⟩
  · exact (h1 : False).elim
  · obtain ⟨v, rfl, r2⟩ := rd1 r1
    cases d with
    | tup xs =>
      rw [RDat] at r2
      obtain ⟨b, ws, rfl, s1, l2⟩ := r2
      exact ⟨b, rfl, .inr ⟨ws, by rw [hK]; exact s1, by rw [hK]; exact c _ _ _ _ _ n1 (itr_enT s1 l2) h1⟩⟩
    | ref n =>
      have h1 : (match lstAt M1 n with | some xs => R ⟨enumD 0 xs, fun M => lstAt M n = some xs⟩ M1 | none => False) := h1
      cases el : lstAt M1 n with
      | none => simp [el] at h1
      | some xs =>
        simp only [el] at h1
        obtain ⟨b, ws, rfl, s1, l2⟩ := n1.m.seq r2 el
        have hb : al1[n]? = some b := by
          rw [RDat] at r2
          obtain ⟨b', e1, e2⟩ := r2
          cases e2; exact e1
        exact ⟨b, rfl, .inl ⟨ws, by rw [hK]; exact s1, by rw [hK]; exact c _ _ _ _ _ n1 (itr_enL hb) h1⟩⟩
    | _ => exact (h1 : False).elim
  · cases d <;> exact (h1 : False).elim
end
end DN

set_option maxHeartbeats 4000000
/-! comprehensions, methods, statements -/
namespace DN
open PySem PySem.Spec L2

/-! ### list comprehensions -/
def wipeD (ρ : Env) : List Nat → Env
  | [] => ρ
  | v :: vs => (wipeD ρ vs).set v none
theorem wipeD_length (ρ : Env) : ∀ vs : List Nat, (wipeD ρ vs).length = ρ.length
  | [] => rfl
  | v :: vs => by unfold wipeD; rw [List.length_set, wipeD_length ρ vs]
theorem wipeD_get : ∀ (vs : List Nat) (ρ : Env) (i : Nat), (wipeD ρ vs)[i]? = if i ∈ vs then (if i < ρ.length then some none else none) else ρ[i]?
  | [], ρ, i => by simp [wipeD]
  | v :: vs, ρ, i => by
    unfold wipeD
    by_cases hv : v = i
    · subst hv
      rw [if_pos (List.mem_cons_self), List.getElem?_set]
      simp [wipeD_length]
    · rw [List.getElem?_set_ne hv, wipeD_get vs ρ i]
      have : (i ∈ v :: vs) ↔ i ∈ vs := by simp [Ne.symm hv]
      simp only [this]
def noX : XC := fun _ _ => False
def lcL (ok : Mem → Prop) (tg : Tg) (tt : SC) (te : SE) (n : Nat) (ρ : Env) : List D → Mem → (Mem → Prop) → Prop
  | [], M, Kn => ok M ∧ Kn M
  | d :: r, M, Kn => ok M ∧ match asgD tg d ρ with
    | some ρ1 => tt noX ρ1 M fun b M2 => match b with
      | true => te noX ρ1 M2 fun y M3 => match mlst M3 n with
        | some acc => acc.length < sizeLine ∧ lcL ok tg tt te n ρ r (M3.set n (.lst (acc ++ [y]))) Kn
        | none => False
      | false => lcL ok tg tt te n ρ r M2 Kn
    | none => False
def eLc (ti : SI) (tg : Tg) (tt : SC) (te : SE) (vs : List Nat) : SE := fun Ex ρ M R => ti Ex ρ M fun it M1 =>
  lcL it.ok tg tt te M1.length (wipeD ρ vs) it.items (M1 ++ [.lst []]) fun M2 => R (.ref M1.length) M2
section
variable {X : Cx} {G : GC}
def MTs (X : Cx) (G : GC) (ifs : List Expr) (t : SC) : Prop := ∀ W, Takes X W → PTs X ifs (LC G W t)
theorem PTs.imp {X : Cx} {ifs : List Expr} {t t' : TT} (h : PTs X ifs t) (i : ∀ σ H Q, t' σ H Q → t σ H Q) : PTs X ifs t' := ⟨fun pins s σ H Q I w => h.run pins s σ H Q I (i σ H Q w)⟩
def cYes : SC := fun _ _ M R => R true M
theorem mts_nil : MTs X G [] cYes := by
  refine fun W tk => PTs.imp pts_nil fun σ H Q h => ?_
  obtain ⟨ρ, al, M, Ex, R, r, t, c, xc⟩ := h
  exact c _ _ _ _ r.m.go t
theorem mts_one {c : Expr} {t : SC} (h : MC X G c t) : MTs X G [c] t := fun W tk => pts_one (h W tk)
abbrev W0 : WX := fun _ _ _ _ => False
theorem xcl0 {H : Hp} {al : List Addr} {σ : L2.St} : XCl G W0 H al noX σ := fun _ _ _ _ _ _ _ _ e => (e : False)
theorem REnv.wipe {H : Hp} {al : List Addr} {σ : L2.St} {ρ : Env} (r : REnv G H al σ ρ) (vs : List Nat) : REnv G H al (L2.wipe σ vs) (wipeD ρ vs) := by
  refine ⟨by rw [wipe_length, wipeD_length]; exact r.1, fun i d h => ?_⟩
  rw [wipeD_get] at h
  rw [wipe_get]
  by_cases hi : i ∈ vs
  · rw [if_pos hi] at h
    split at h <;> cases h
  · rw [if_neg hi] at h ⊢
    exact r.2 i d h
theorem XOk.wipe {H : Hp} {al : List Addr} {σ : L2.St} {vs : List Nat} (x : XOk G H al σ) (hx : NoX G vs) : XOk G H al (L2.wipe σ vs) := by
  unfold XOk at x ⊢
  cases e : G.xn with
  | none => trivial
  | some n =>
    rw [e] at x
    refine ⟨x.1, ?_⟩
    rw [wipe_get, if_neg (hx n e)]
    exact x.2
theorem me_lc {elt tg iter : Expr} {ifs : List Expr} {scope : Scope} {own : List (Str × Nat)} {pos : Pos} {ti : SI} {t : Tg} {tt : SC} {te : SE} (hc : X.calm = true) (hN : X.N.Nodup) (hi : MI X G tg iter ti) (ok : BlkOk X.N X.env.scope scope own)
    (hg : ∀ (s : Shared) (H : Hp) (C : Addr) (cl : List (Str × Addr)) (fp : List Addr), MG (X.blk s H scope (compEnvC scope cl C X.env) fp) G tg t) (ht : ∀ (s : Shared) (H : Hp) (C : Addr) (cl : List (Str × Addr)) (fp : List Addr), MTs (X.blk s H scope (compEnvC scope cl C X.env) fp) G ifs tt)
    (he : ∀ (s : Shared) (H : Hp) (C : Addr) (cl : List (Str × Addr)) (fp : List Addr), ME (X.blk s H scope (compEnvC scope cl C X.env) fp) G elt te) (hs : ∀ x, foldedSetIterable iter X.env x = pure x)
    (hsl : ∀ i ∈ slotsT t, i ∈ own.map (·.2)) (hx : NoX G (own.map (·.2))) : ME X G (.ListComp elt [⟨tg, iter, ifs, 0⟩] scope pos) (eLc ti t tt te (own.map (·.2))) := by
  intro W tk
  have tk0 : ∀ s H C cl fp, Takes (X.blk s H scope (compEnvC scope cl C X.env) fp) W0 := fun s H C cl fp => takes0
  refine PE.imp (pe_lc hc hN (hi W tk) ok hg (fun s H C cl fp => ht s H C cl fp W0 (tk0 s H C cl fp)) (fun s H C cl fp => he s H C cl fp W0 (tk0 s H C cl fp)) hs) fun σ H Q h => ?_
  obtain ⟨ρ, al, M, Ex, R, r, h, c, xc⟩ := h
  refine ⟨ρ, al, M, Ex, _, r, h, fun H1 al1 M1 J it n1 itr h1 => ?_, xc⟩
  intro D hD
  have h1 : lcL it.ok t tt te M1.length (wipeD ρ (own.map (·.2))) it.items (M1 ++ [.lst []]) (fun M2 => R (.ref M1.length) M2) := h1
  have n2 := n1.m.new (o := .lst []) (u := .lst []) hD ⟨[], rfl, RDats.nil⟩
  have hD2 : (al1 ++ [D])[M1.length]? = some D := by
    rw [← n1.m.len, List.getElem?_append_right (Nat.le_refl _), Nat.sub_self]; rfl
  let Wi : Nat → Nat → Hp → Prop := fun i m H' => m = it.items.length - i ∧ i ≤ it.items.length ∧ ∃ al' M', Nxt G (upd H1 D (.lst [])) (al1 ++ [D]) H' al' M' ∧
    lcL it.ok t tt te M1.length (wipeD ρ (own.map (·.2))) (it.items.drop i) M' (fun M2 => R (.ref M1.length) M2)
  refine ⟨Wi, ⟨it.items.length, by simp, Nat.zero_le _, _, _, n2.m.go, by simpa using h1⟩, ?_⟩
  rintro i m H' ⟨rfl, hi, al', M', n3, hl⟩
  have n13 := n2.trans n3
  by_cases hlt : i < it.items.length
  · have ed : it.items.drop i = it.items[i] :: it.items.drop (i + 1) := List.drop_eq_getElem_cons hlt
    rw [ed] at hl
    obtain ⟨hok, hl⟩ := (hl : _ ∧ _)
    obtain ⟨hgo, _⟩ := itr i H' al' M' n13 hok
    obtain ⟨go, hy⟩ := hgo _ (List.getElem?_eq_getElem hlt)
    refine .inr ⟨go, fun H2 => Wi (i + 1) (it.items.length - (i + 1)) H2, fun H2 w => ⟨_, by omega, w⟩, fun x H2 hyx => ?_⟩
    obtain ⟨n4, rx⟩ := hy x H2 hyx
    cases ea : asgD t it.items[i] (wipeD ρ (own.map (·.2))) with
    | none => rw [ea] at hl; exact hl.elim
    | some ρ1 =>
      rw [ea] at hl
      have n14 := n13.trans n4
      have rw0 : RSt G H2 al' M' (L2.wipe σ (own.map (·.2))) (wipeD ρ (own.map (·.2))) :=
        ⟨n4.m, (r.e.mono (n1.k.trans n14.k) (n1.p.trans n14.p)).wipe _, (r.x.mono (n1.k.trans n14.k) (n1.p.trans n14.p)).wipe hx⟩
      refine ⟨_, al', M', _, ρ1, rw0, rx, ea, fun σ2 r2 o2 => ⟨?_, ρ1, al', M', noX, _, r2, hl, fun H5 al5 M5 b n5 h5 => ?_, xcl0⟩⟩
      · rw [o2.wipe hsl]
        apply List.ext_getElem?
        intro j
        rw [wipe_get, wipe_get, wipe_length]
        by_cases hj : j ∈ own.map (·.2)
        · rw [if_pos hj, if_pos hj]
        · rw [if_neg hj, if_neg hj]
      · have n15 := n3.trans (n4.trans n5)
        cases b with
        | false =>
          exact iteF ⟨rfl, hlt, al5, M5, n15, h5⟩
        | true =>
          refine iteT ?_
          refine ⟨ρ1, al5, M5, noX, _, r2.go n5, h5, fun H6 al6 M6 y d n6 r6 h6 => ?_, xcl0⟩
          have n16 := n15.trans n6
          cases em : mlst M6 M1.length with
          | none => simp only [em] at h6
          | some acc =>
            simp only [em] at h6
            obtain ⟨hz, h6⟩ := (h6 : _ ∧ _)
            have hD6 : al6[M1.length]? = some D := pfx_get n16.p hD2
            obtain ⟨a, vs, ev, ea6, eH, l6⟩ := n16.m.lst (v := .ref D) (by rw [RDat]; exact ⟨D, hD6, rfl⟩) (mlst_lst em)
            cases ev
            refine ⟨vs, eH, by rw [← l6.length]; exact hz, rfl, hlt, al6, _, n16.trans (n16.m.wr (o := .lst (acc ++ [d])) (u := .lst (vs ++ [y])) hD6 eH rfl ⟨_, rfl, l6.append (RDats.cons r6 RDats.nil)⟩), h6⟩
  · have ei : i = it.items.length := by omega
    subst ei
    rw [List.drop_length] at hl
    obtain ⟨hok, hl⟩ := (hl : _ ∧ _)
    obtain ⟨_, hst⟩ := itr _ H' al' M' n13 hok
    refine .inl ⟨hst rfl, c _ _ _ _ _ (n1.trans n13) ?_ hl⟩
    rw [RDat]
    exact ⟨D, pfx_get n3.p hD2, rfl⟩

/-! ### methods of built-in types -/
def rcv (T : String) (d : D) (M : Mem) : Prop := match d with
  | .str _ => T = "str"
  | .ref n => match M[n]? with
    | some (.lst _) => T = "list"
    | some (.fro _) => T = "list"
    | some (.dK _) => T = "dict"
    | _ => False
  | _ => False
theorem rcv_ok {H : Hp} {al : List Addr} {M : Mem} {d : D} {v : V} {T : String} (m : RMem G H al M) (r : RDat G.K H al d v) (h : rcv T d M) : tyV G.K T v H := by
  cases d with
  | str x => rw [RDat] at r; subst r; exact h
  | ref n =>
    have h : (match M[n]? with | some (.lst _) => T = "list" | some (.fro _) => T = "list" | some (.dK _) => T = "dict" | _ => False) := h
    cases e : M[n]? with
    | none => simp [e] at h
    | some o =>
      cases o with
      | lst xs =>
        simp only [e] at h
        obtain ⟨a, vs, rfl, _, e2, _⟩ := m.lst r e
        exact .inl ⟨h, vs, SqL.of e2⟩
      | fro xs =>
        simp only [e] at h
        obtain ⟨a, vs, rfl, e2, _⟩ := m.fro r e
        exact .inl ⟨h, vs, e2⟩
      | dK kvs =>
        simp only [e] at h
        rw [RDat] at r
        obtain ⟨a, ea, rfl⟩ := r
        obtain ⟨b, u, e1, e2, ws, e3, q⟩ := m.at_ n _ e
        rw [ea] at e1; cases e1; subst e3
        exact .inr (.inr (.inl ⟨h, .inl ⟨ws, e2⟩⟩))
      | ins _ _ => simp [e] at h
  | _ => exact (h : False).elim
def eBm (T : String) (g : OpM) (to : SE) (tt : SA) : SE := fun Ex ρ M R => to Ex ρ M fun d M1 => rcv T d M1 ∧ tt Ex ρ M1 fun ds M2 => g d ds M2 R
variable {o a : Expr} {es : List Expr} {to : SE} {tt : SA} {name : Str} {apos cpos : Pos} {T id : String} {g : OpM}
theorem me_bm0 (hK : X.K = G.K) (pa : PlainAttrs T) (slot : Slot T name id) (hty : typeOf (.builtin id) = pure (.type "method_descriptor")) (hm : MtR X id (LMt G g)) (ho : ME X G o to)
    (hbase : attributeBase o name X.env (eval o X.env) = eval o X.env) (hline : (apos.endLine == cpos.line) = true) : ME X G (.Call (.Attribute o name apos) [] [] cpos) (eBm T g to aNil) := by
  refine fun W tk => PE.imp (pe_bm0 pa slot hty hm (ho W tk) hbase hline) fun σ H Q h => ?_
  obtain ⟨ρ, al, M, Ex, R, r, h, c, xc⟩ := h
  refine ⟨ρ, al, M, Ex, _, r, h, fun H1 al1 M1 v d n1 r1 h1 => ?_, xc⟩
  obtain ⟨h1, h2⟩ := (h1 : _ ∧ _)
  exact ⟨by rw [hK]; exact rcv_ok n1.m r1 h1, al1, M1, d, [], R, n1.m, r1, RDats.nil, h2, c.nxt n1⟩
theorem me_bm (hK : X.K = G.K) (pa : PlainAttrs T) (slot : Slot T name id) (hty : typeOf (.builtin id) = pure (.type "method_descriptor")) (hm : MtR X id (LMt G g)) (ho : ME X G o to) (ha : MA X G (a :: es) tt)
    (hbase : attributeBase o name X.env (eval o X.env) = eval o X.env)
    (hfew : ((backTo cpos (starEach (a :: es) X.env)).all (fun x => !x.1) && (backToKw cpos (keywordEach [] X.env)).all (fun x => x.1.isSome)
      && decide ((a :: es).length + ([] : List Keyword).length + (if ([] : List Keyword).isEmpty then 0 else 1) < 30)) = true)
    (hline : (apos.endLine == cpos.line) = true) (hs : starEach (a :: es) X.env = (false, eval a X.env) :: starEach es X.env) (hplain : (backTo cpos (starEach es X.env)).any (·.1) = false) :
    ME X G (.Call (.Attribute o name apos) (a :: es) [] cpos) (eBm T g to tt) := by
  refine fun W tk => PE.imp (pe_bm pa slot hty hm (ho W tk) (ha W tk) hbase hfew hline hs hplain) fun σ H Q h => ?_
  obtain ⟨ρ, al, M, Ex, R, r, h, c, xc⟩ := h
  refine ⟨ρ, al, M, Ex, _, r, h, fun H1 al1 M1 v d n1 r1 h1 => ?_, xc⟩
  obtain ⟨h1, h2⟩ := (h1 : _ ∧ _)
  exact ⟨by rw [hK]; exact rcv_ok n1.m r1 h1, ρ, al1, M1, Ex, _, r.go n1, h2, fun H2 al2 M2 vs ds n2 r2 l2 h3 => ⟨al2, M2, d, ds, R, n2.m, r1.mono n2.k n2.p, r2, h3, c.nxt (n1.trans n2)⟩, xc.nxt n1⟩

def mAppend : OpM := fun d ds M R => match d, ds with
  | .ref n, [y] => match mlst M n with
    | some xs => xs.length < sizeLine ∧ R .non (M.set n (.lst (xs ++ [y])))
    | none => False
  | _, _ => False
theorem mr_append : MtR X "list.append" (LMt G mAppend) := by
  intro pins s σ H x xs v us Q I rx rs h
  obtain ⟨al, M, d, ds, R, m, r1, r2, g, c⟩ := h
  rcases ds with _ | ⟨y, _ | ⟨z, t⟩⟩
  · cases d <;> exact (g : False).elim
  · cases d with
    | ref n =>
      have g : (match mlst M n with | some xs => xs.length < sizeLine ∧ R .non (M.set n (.lst (xs ++ [y]))) | none => False) := g
      cases e : mlst M n with
      | none => simp [e] at g
      | some ys =>
        simp only [e] at g
        obtain ⟨hz, g⟩ := g
        obtain ⟨a, vs, rfl, ea, e2, l⟩ := m.lst r1 (mlst_lst e)
        obtain ⟨w, rfl, rw1⟩ := rd1 r2
        exact mt_append pins s σ H _ _ v us Q I rx rs ⟨a, vs, w, rfl, rfl, e2, by rw [← l.length]; exact hz, c _ _ _ _ _ (m.wr (o := .lst (ys ++ [y])) (u := .lst (vs ++ [w])) ea e2 rfl ⟨_, rfl, l.append (RDats.cons rw1 RDats.nil)⟩) (by rw [RDat]) g⟩
    | _ => exact (g : False).elim
  · cases d <;> exact (g : False).elim
theorem ext_tup (l : Addr) (items : Array Value) (n : Nat) (b : Addr) (items2 : Array Value) (n2 : Nat) (dd : Option Addr) (sl : Array (Option Value)) (hs0 : ¬(!items.isEmpty && Builtin.List.listTooLong (items.size + items2.size)) = true) (hs1 : items.size ≤ sizeLine) (hs2 : items.size + items2.size ≤ sizeLine + 1) :
    Meets (Builtin.«list.extend» ⟨[.ref l, .ref b], []⟩) (fun _ R s => s.heap.get? l = some { cls := .type "list", dict := none, data := .seq items n, slots := #[] } ∧ s.heap.get? b = some { cls := .type "tuple", dict := dd, data := .seq items2 n2, slots := sl } ∧
      R (.ok (.ret Value.none)) { s with heap := s.heap.update l (Obj.mapSeq fun x => x ++ items2), toks := s.toks }) :=
  .of_wp fun prog w A R s h => by
    obtain ⟨hp, g, d, tk, os⟩ := s
    obtain ⟨hl, hb, h⟩ := h
    have f1 := AutoSeq1.idx_int
    have f2 := AutoSeq1.sub_tuple_tuple
    have f3 := AutoSeq1.sub_list_list
    have f4 := AutoSeq1.sub_tuple_list
    have f5 := AutoSeq1.sub_list_tuple
    have hz' : (items ++ items2).size ≤ sizeLine + 1 := by rw [Array.size_append]; exact hs2
    wp_walk using (wpAny_updateSeq hl rfl (hz := hs1) (_hz' := hz')), AutoSeq1.wpAny_loadPart' hl, AutoSeq1.wpAny_loadPart' hb
    exact ⟨_, rfl, h⟩
def rExtT (K : PySem.W.Frag) : V → List V → Hp → VK → Prop := fun x vs H Q => ∃ l b xs zs, x = .ref l ∧ vs = [.ref b] ∧ H l = some (.lst xs) ∧ SqT K H b zs ∧ xs.length + zs.length ≤ sizeLine ∧ Q .non (upd H l (.lst (xs ++ zs)))
theorem mt_extT : MtR X "list.extend" (rExtT X.K) := by
  intro pins s σ H x vs v us Q I rx rv h
  obtain ⟨l, b, xs, zs, rfl, rfl, hH, hB, hz, q⟩ := h
  cases rx
  obtain ⟨u, rfl, ru⟩ := rv.one
  cases ru
  obtain ⟨z, its, n, r, hl, e⟩ := I.lstM hH
  obtain ⟨its2, r2, ⟨⟨c2, dd, dt, sl⟩, e2, hc2, n2, hd2⟩, hz2⟩ := I.tuple hB
  replace hc2 : c2 = .type "tuple" := hc2
  replace hd2 : dt = .seq its2.toArray n2 := hd2
  subst hc2 hd2
  have hl2 := r2.length
  have hsz : its.toArray.size + its2.toArray.size ≤ sizeLine := by rw [List.size_toArray, List.size_toArray]; omega
  have hlong : ¬ (!its.toArray.isEmpty && Builtin.List.listTooLong (its.toArray.size + its2.toArray.size)) = true := by
    rw [notLongL hsz, Bool.and_false]
    exact Bool.false_ne_true
  refine call_meets F.slot_list_extend ⟨_, e, rfl⟩ F.entry_list_extend (F.args_list_extend_2 _ _)
    (ext_tup l its.toArray n b its2.toArray n2 dd sl hlong (by rw [List.size_toArray]; omega) (by omega)) ⟨e, e2, ?_⟩
  refine ⟨.non, _, I.lset (its' := its ++ its2) hH e (by simp) (r.append r2) ?_, rfl, q⟩
  rw [List.length_append]
  omega
def mExtend : OpM := fun d ds M R => match d, ds with
  | .ref n, [.tup zs] => match mlst M n with
    | some xs => xs.length + zs.length ≤ sizeLine ∧ R .non (M.set n (.lst (xs ++ zs)))
    | none => False
  | .ref n, [.ref k] => match mlst M n, mlst M k with
    | some xs, some zs => xs.length + zs.length ≤ sizeLine ∧ R .non (M.set n (.lst (xs ++ zs)))
    | _, _ => False
  | _, _ => False
theorem mr_extend (hK : X.K = G.K) : MtR X "list.extend" (LMt G mExtend) := by
  intro pins s σ H x xs v us Q I rx rs h
  obtain ⟨al, M, d, ds, R, m, r1, r2, g, c⟩ := h
  rcases ds with _ | ⟨y, _ | ⟨z, t⟩⟩
  · cases d <;> exact (g : False).elim
  · cases d with
    | ref n =>
      obtain ⟨w, rfl, rw1⟩ := rd1 r2
      cases y with
      | tup zs =>
        have g : (match mlst M n with | some xs => xs.length + zs.length ≤ sizeLine ∧ R .non (M.set n (.lst (xs ++ zs))) | none => False) := g
        cases e : mlst M n with
        | none => simp [e] at g
        | some ys =>
          simp only [e] at g
          obtain ⟨hz, g⟩ := g
          obtain ⟨a, vs, rfl, ea, e2, l⟩ := m.lst r1 (mlst_lst e)
          rw [RDat] at rw1
          obtain ⟨b, ws, rfl, sb, lb⟩ := rw1
          exact mt_extT pins s σ H _ _ v us Q I rx rs ⟨a, b, vs, ws, rfl, rfl, e2, by rw [hK]; exact sb, by rw [← l.length, ← lb.length]; exact hz, c _ _ _ _ _ (m.wr (o := .lst (ys ++ zs)) (u := .lst (vs ++ ws)) ea e2 rfl ⟨_, rfl, l.append lb⟩) (by rw [RDat]) g⟩
      | ref k =>
        have g : (match mlst M n, mlst M k with | some xs, some zs => xs.length + zs.length ≤ sizeLine ∧ R .non (M.set n (.lst (xs ++ zs))) | _, _ => False) := g
        cases e : mlst M n with
        | none => simp [e] at g
        | some ys =>
          cases e' : mlst M k with
          | none => simp [e, e'] at g
          | some zs =>
            simp only [e, e'] at g
            obtain ⟨hz, g⟩ := g
            obtain ⟨a, vs, rfl, ea, e2, l⟩ := m.lst r1 (mlst_lst e)
            obtain ⟨b, ws, rfl, eb, e3, lb⟩ := m.lst rw1 (mlst_lst e')
            exact L2.mt_extend pins s σ H _ _ v us Q I rx rs ⟨a, b, vs, ws, rfl, rfl, e2, e3, by rw [← l.length, ← lb.length]; exact hz, c _ _ _ _ _ (m.wr (o := .lst (ys ++ zs)) (u := .lst (vs ++ ws)) ea e2 rfl ⟨_, rfl, l.append lb⟩) (by rw [RDat]) g⟩
      | _ => exact (g : False).elim
    | _ => cases y <;> exact (g : False).elim
  · cases d <;> cases y <;> exact (g : False).elim
/-- pop from the end -/
def mPop : OpM := fun d ds M R => match d, ds with
  | .ref n, [] => match mlst M n with
    | some xs => match xs.getLast? with
      | some y => R y (M.set n (.lst xs.dropLast))
      | none => False
    | none => False
  | .ref n, [.int i] => match mlst M n with
    | some xs => (-(2 ^ 63) ≤ i ∧ i < 2 ^ 63) ∧ (match seqIndex? i xs.length with
      | some k => match xs[k]? with
        | some y => R y (M.set n (.lst (xs.eraseIdx k)))
        | none => False
      | none => False)
    | none => False
  | _, _ => False
theorem mr_pop : MtR X "list.pop" (LMt G mPop) := by
  intro pins s σ H x xs v us Q I rx rs h
  obtain ⟨al, M, d, ds, R, m, r1, r2, g, c⟩ := h
  rcases ds with _ | ⟨y, _ | ⟨z, t⟩⟩
  · cases d with
    | ref n =>
      have g : (match mlst M n with
        | some xs => (match xs.getLast? with | some y => R y (M.set n (.lst xs.dropLast)) | none => False)
        | none => False) := g
      cases e : mlst M n with
      | none => simp [e] at g
      | some ys =>
        simp only [e] at g
        cases e3 : ys.getLast? with
        | none => simp [e3] at g
        | some y =>
          simp only [e3] at g
          obtain ⟨a, vs, rfl, ea, e2, l⟩ := m.lst r1 (mlst_lst e)
          rw [RDats] at r2; subst r2
          rw [List.getLast?_eq_getElem?] at e3
          obtain ⟨w, e4, rw1⟩ := l.get e3
          rw [l.length] at e4
          exact L2.mt_pop pins s σ H _ _ v us Q I rx rs ⟨a, vs, w, rfl, rfl, e2, e4, c _ _ _ _ _ (m.wr (o := .lst ys.dropLast) (u := .lst vs.dropLast) ea e2 rfl ⟨_, rfl, l.dropLast⟩)
            (rw1.mono (KeepH.wr e2 rfl) (List.prefix_refl _)) g⟩
    | _ => exact (g : False).elim
  · cases d with
    | ref n =>
      cases y with
      | int i =>
        have g : (match mlst M n with
          | some xs => (-(2 ^ 63) ≤ i ∧ i < 2 ^ 63) ∧ (match seqIndex? i xs.length with
            | some k => (match xs[k]? with | some y => R y (M.set n (.lst (xs.eraseIdx k))) | none => False)
            | none => False)
          | none => False) := g
        cases e : mlst M n with
        | none => simp [e] at g
        | some ys =>
          simp only [e] at g
          obtain ⟨⟨h1, h2⟩, g⟩ := g
          cases e5 : seqIndex? i ys.length with
          | none => simp [e5] at g
          | some k =>
            simp only [e5] at g
            cases e3 : ys[k]? with
            | none => simp [e3] at g
            | some y =>
              simp only [e3] at g
              obtain ⟨a, vs, rfl, ea, e2, l⟩ := m.lst r1 (mlst_lst e)
              obtain ⟨w0, rfl, rw0⟩ := rd1 r2
              rw [RDat] at rw0; subst rw0
              obtain ⟨w, e4, rw1⟩ := l.get e3
              rw [l.length] at e5
              exact mt_popAt pins s σ H _ _ v us Q I rx rs ⟨a, vs, i, k, w, rfl, rfl, e2, h1, h2, e5, e4, c _ _ _ _ _ (m.wr (o := .lst (ys.eraseIdx k)) (u := .lst (vs.eraseIdx k)) ea e2 rfl ⟨_, rfl, l.eraseIdx k⟩)
                (rw1.mono (KeepH.wr e2 rfl) (List.prefix_refl _)) g⟩
      | _ => exact (g : False).elim
    | _ => cases y <;> exact (g : False).elim
  · cases d <;> cases y <;> exact (g : False).elim
def mReverse : OpM := fun d ds M R => match d, ds with
  | .ref n, [] => match mlst M n with
    | some xs => R .non (M.set n (.lst xs.reverse))
    | none => False
  | _, _ => False
theorem mr_reverse : MtR X "list.reverse" (LMt G mReverse) := by
  intro pins s σ H x xs v us Q I rx rs h
  obtain ⟨al, M, d, ds, R, m, r1, r2, g, c⟩ := h
  rcases ds with _ | ⟨y, t⟩
  · cases d with
    | ref n =>
      have g : (match mlst M n with | some xs => R .non (M.set n (.lst xs.reverse)) | none => False) := g
      cases e : mlst M n with
      | none => simp [e] at g
      | some ys =>
        simp only [e] at g
        obtain ⟨a, vs, rfl, ea, e2, l⟩ := m.lst r1 (mlst_lst e)
        rw [RDats] at r2; subst r2
        exact mt_reverse pins s σ H _ _ v us Q I rx rs ⟨a, vs, rfl, rfl, e2, c _ _ _ _ _ (m.wr (o := .lst ys.reverse) (u := .lst vs.reverse) ea e2 rfl ⟨_, rfl, l.reverse⟩) (by rw [RDat]) g⟩
    | _ => exact (g : False).elim
  · cases d <;> exact (g : False).elim
/-- the texts of a list of data -/
def strsD : List D → Option (List Str)
  | [] => some []
  | .str i :: r => (strsD r).map (i :: ·)
  | _ => none
theorem strsD_rel {K : PySem.W.Frag} {H : Hp} {al : List Addr} : ∀ {ds : List D} {vs : List V} {ns : List Str}, RDats K H al ds vs → strsD ds = some ns → vs = ns.map V.str
  | [], _, _, r, h => by rw [RDats] at r; subst r; cases h; rfl
  | d :: ds, _, ns, r, h => by
    rw [RDats] at r
    obtain ⟨v, r', rfl, h1, h2⟩ := r
    cases d with
    | str i =>
      have h : (strsD ds).map (i :: ·) = some ns := h
      cases e : strsD ds with
      | none => rw [e] at h; cases h
      | some ms =>
        rw [e] at h; cases h
        rw [RDat] at h1; subst h1
        rw [strsD_rel h2 e]; rfl
    | _ => cases h
def mJoin : OpM := fun d ds M R => match d, ds with
  | .str a, [.tup xs] => match strsD xs with
    | some ys => (ys.map (·.length)).sum + ys.length * a.length ≤ 16777216 ∧ R (.str (Txt.join a ys)) M
    | none => False
  | .str a, [.ref n] => match (lstAt M n).bind strsD with
    | some ys => (ys.map (·.length)).sum + ys.length * a.length ≤ 16777216 ∧ R (.str (Txt.join a ys)) M
    | none => False
  | _, _ => False
theorem mr_join (hK : X.K = G.K) : MtR X "str.join" (LMt G mJoin) := by
  intro pins s σ H x xs v us Q I rx rs h
  obtain ⟨al, M, d, ds, R, m, r1, r2, g, c⟩ := h
  rcases ds with _ | ⟨y, _ | ⟨z, t⟩⟩
  · cases d <;> exact (g : False).elim
  · cases d with
    | str a =>
      rw [RDat] at r1; subst r1
      obtain ⟨w, rfl, rw1⟩ := rd1 r2
      cases y with
      | tup zs =>
        have g : (match strsD zs with | some ys => (ys.map (·.length)).sum + ys.length * a.length ≤ 16777216 ∧ R (.str (Txt.join a ys)) M | none => False) := g
        cases e : strsD zs with
        | none => simp [e] at g
        | some ys =>
          simp only [e] at g
          obtain ⟨hz, g⟩ := g
          rw [RDat] at rw1
          obtain ⟨b, ws, rfl, sb, lb⟩ := rw1
          have ew := strsD_rel lb e
          subst ew
          exact mt_join pins s σ H _ _ v us Q I rx rs ⟨a, b, ys, rfl, rfl, .inr (by rw [hK]; exact sb), hz, c _ _ _ _ _ m.go (by rw [RDat]) g⟩
      | ref k =>
        have g : (match (lstAt M k).bind strsD with | some ys => (ys.map (·.length)).sum + ys.length * a.length ≤ 16777216 ∧ R (.str (Txt.join a ys)) M | none => False) := g
        cases el : lstAt M k with
        | none => simp [el] at g
        | some zs =>
          cases e : strsD zs with
          | none => simp [el, e] at g
          | some ys =>
            simp only [el, Option.bind_some, e] at g
            obtain ⟨hz, g⟩ := g
            obtain ⟨b, ws, rfl, sb, lb⟩ := m.seq rw1 el
            have ew := strsD_rel lb e
            subst ew
            exact mt_join pins s σ H _ _ v us Q I rx rs ⟨a, b, ys, rfl, rfl, .inl (by rw [hK]; exact sb), hz, c _ _ _ _ _ m.go (by rw [RDat]) g⟩
      | _ => exact (g : False).elim
    | _ => cases y <;> exact (g : False).elim
  · cases d <;> cases y <;> exact (g : False).elim
end
end DN

set_option maxHeartbeats 4000000
/-! statements, defs -/
namespace DN
open PySem PySem.Spec L2

structure SD where
  nx : Env → Mem → Prop
  rt : KD
  bk : Env → Mem → Prop
  ct : Env → Mem → Prop
  ex : Exn → Env → Mem → Prop
abbrev SS := SD → Env → Mem → Prop

structure EndR (G : GC) (W : WX) (H : Hp) (al : List Addr) (Ds : SD) (De : Ends) : Prop where
  nx : ∀ σ' ρ' H' al' M', Nxt G H al H' al' M' → RSt G H' al' M' σ' ρ' → Ds.nx ρ' M' → De.nx σ' H'
  rt : VCl G H al Ds.rt De.rt
  bk : ∀ σ' ρ' H' al' M', Nxt G H al H' al' M' → RSt G H' al' M' σ' ρ' → Ds.bk ρ' M' → De.bk σ' H'
  ct : ∀ σ' ρ' H' al' M', Nxt G H al H' al' M' → RSt G H' al' M' σ' ρ' → Ds.ct ρ' M' → De.ct σ' H'
  ex : ∀ σ' ρ' H' al' M' x cls dd, Nxt G H al H' al' M' → RSt G H' al' M' σ' ρ' → RExn G.K G.cm H' al' x cls dd → Ds.ex x ρ' M' → W cls dd σ' H'
theorem EndR.nxt {G : GC} {W : WX} {H H1 : Hp} {al al1 : List Addr} {M1 : Mem} {Ds : SD} {De : Ends} (e : EndR G W H al Ds De) (n : Nxt G H al H1 al1 M1) : EndR G W H1 al1 Ds De :=
  ⟨fun _ _ _ _ _ n' => e.nx _ _ _ _ _ (n.trans n'), e.rt.nxt n, fun _ _ _ _ _ n' => e.bk _ _ _ _ _ (n.trans n'), fun _ _ _ _ _ n' => e.ct _ _ _ _ _ (n.trans n'), fun _ _ _ _ _ _ _ _ n' => e.ex _ _ _ _ _ _ _ _ (n.trans n')⟩
theorem EndR.xcl {G : GC} {W : WX} {H : Hp} {al : List Addr} {M : Mem} {Ds : SD} {De : Ends} {σ : L2.St} {ρ : Env} (e : EndR G W H al Ds De) (r : RSt G H al M σ ρ) : XCl G W H al (fun x M => Ds.ex x ρ M) σ :=
  fun H' al' M' x cls dd n rx h => e.ex σ ρ H' al' M' x cls dd n (r.go n) rx h
def LS (G : GC) (W : WX) (t : SS) : TS := fun De σ H => ∃ ρ al M Ds, RSt G H al M σ ρ ∧ t Ds ρ M ∧ EndR G W H al Ds De
def MS (X : Cx) (G : GC) (st : Stmt) (t : SS) : Prop := ∀ W, Takes X W → PS X st (LS G W t)
def MSs (X : Cx) (G : GC) (st : List Stmt) (t : SS) : Prop := ∀ W, Takes X W → PSs X st (LS G W t)

def sNop : SS := fun D ρ M => D.nx ρ M
def SD.sq (D : SD) (u : SD → Env → Mem → Prop) : SD := { D with nx := u D }
def SD.lp (D : SD) (K : Env → Mem → Prop) : SD := { D with nx := K, ct := K, bk := D.nx }
def sSeq (t u : SS) : SS := fun D ρ M => t (D.sq u) ρ M
def sBreak : SS := fun D ρ M => D.bk ρ M
def sCont : SS := fun D ρ M => D.ct ρ M
def sEx (t : SE) : SS := fun D ρ M => t (fun x M1 => D.ex x ρ M1) ρ M fun _ M1 => D.nx ρ M1
def sRet (t : SE) : SS := fun D ρ M => t (fun x M1 => D.ex x ρ M1) ρ M D.rt
def sRetN : SS := fun D _ M => D.rt .non M
def sIf (c : SC) (t u : SS) : SS := fun D ρ M => c (fun x M1 => D.ex x ρ M1) ρ M fun b M1 => match b with | true => t D ρ M1 | false => u D ρ M1
def sAsg (t : SE) (tg : Tg) : SS := fun D ρ M => t (fun x M1 => D.ex x ρ M1) ρ M fun d M1 => match asgD tg d ρ with | some ρ1 => D.nx ρ1 M1 | none => False
/-- o[i] = v -/
def setM (o i v : D) (M : Mem) (R : Mem → Prop) : Prop := match o, i with
  | .ref n, .int k => match mlst M n with
    | some xs => match ixN xs.length k with
      | some j => R (M.set n (.lst (xs.set j v)))
      | none => False
    | none => False
  | _, _ => False
def sSet (to ti tv : SE) : SS := fun D ρ M => tv (fun x M1 => D.ex x ρ M1) ρ M fun v M1 => to (fun x M1 => D.ex x ρ M1) ρ M1 fun o M2 => ti (fun x M1 => D.ex x ρ M1) ρ M2 fun i M3 => setM o i v M3 fun M4 => D.nx ρ M4
def forL (ok : Mem → Prop) (tg : Tg) (b : SS) (De : SD) : List D → Env → Mem → Prop
  | [], ρ, M => ok M ∧ De.nx ρ M
  | d :: r, ρ, M => ok M ∧ match asgD tg d ρ with
    | some ρ1 => b (De.lp (forL ok tg b De r)) ρ1 M
    | none => False
def sFor (ti : SI) (tg : Tg) (b : SS) : SS := fun D ρ M => ti (fun x M1 => D.ex x ρ M1) ρ M fun it M1 => forL it.ok tg b D it.items ρ M1
def whileN (c : SC) (b : SS) (D : SD) : Nat → Env → Mem → Prop
  | 0, _, _ => False
  | n + 1, ρ, M => c (fun x M1 => D.ex x ρ M1) ρ M fun k M1 => match k with
    | true => b (D.lp (whileN c b D n)) ρ M1
    | false => D.nx ρ M1
def sWhile (c : SC) (b : SS) : SS := fun D ρ M => ∃ n, whileN c b D n ρ M

section
variable {X : Cx} {G : GC} {st : Stmt} {rest : List Stmt} {t u : SS} {e : Expr} {te : SE} {pos : Pos}
theorem mss_nil : MSs X G [] sNop := by
  refine fun W tk => PSs.imp pss_nil fun De σ H h => ?_
  obtain ⟨ρ, al, M, Ds, r, h, er⟩ := h
  exact er.nx _ _ _ _ _ r.m.go r h
theorem mss_cons (h1 : MS X G st t) (h2 : MSs X G rest u) : MSs X G (st :: rest) (sSeq t u) := by
  refine fun W tk => PSs.imp (pss_cons (h1 W tk) (h2 W tk)) fun De σ H h => ?_
  obtain ⟨ρ, al, M, Ds, r, h, er⟩ := h
  exact ⟨ρ, al, M, _, r, h, ⟨fun σ' ρ' H' al' M' n r' h' => ⟨ρ', al', M', Ds, r', h', er.nxt n⟩, er.rt, er.bk, er.ct, er.ex⟩⟩
theorem mss_one (h1 : MS X G st t) : MSs X G [st] t := fun W tk => pss_one (h1 W tk)
theorem ms_pass : MS X G (.Pass pos) sNop := by
  refine fun W tk => PS.imp ps_pass fun De σ H h => ?_
  obtain ⟨ρ, al, M, Ds, r, h, er⟩ := h
  exact er.nx _ _ _ _ _ r.m.go r h
theorem ms_break : MS X G (.Break pos) sBreak := by
  refine fun W tk => PS.imp ps_break fun De σ H h => ?_
  obtain ⟨ρ, al, M, Ds, r, h, er⟩ := h
  exact er.bk _ _ _ _ _ r.m.go r h
theorem ms_cont : MS X G (.Continue pos) sCont := by
  refine fun W tk => PS.imp ps_continue fun De σ H h => ?_
  obtain ⟨ρ, al, M, Ds, r, h, er⟩ := h
  exact er.ct _ _ _ _ _ r.m.go r h
theorem ms_expr (he : ME X G e te) (hs : swapsWith e none pos.line X.env = pure false) : MS X G (.Expr e pos) (sEx te) := by
  refine fun W tk => PS.imp (ps_expr (he W tk) hs) fun De σ H h => ?_
  obtain ⟨ρ, al, M, Ds, r, h, er⟩ := h
  exact ⟨ρ, al, M, _, _, r, h, fun H1 al1 M1 v d n1 r1 h1 => er.nx _ _ _ _ _ n1 (r.go n1) h1, er.xcl r⟩
theorem ms_ret (he : ME X G e te) : MS X G (.Return (some e) pos) (sRet te) := by
  refine fun W tk => PS.imp (ps_ret (he W tk)) fun De σ H h => ?_
  obtain ⟨ρ, al, M, Ds, r, h, er⟩ := h
  exact ⟨ρ, al, M, _, _, r, h, er.rt, er.xcl r⟩
theorem ms_retN : MS X G (.Return none pos) sRetN := by
  refine fun W tk => PS.imp ps_retN fun De σ H h => ?_
  obtain ⟨ρ, al, M, Ds, r, h, er⟩ := h
  exact er.rt _ _ _ _ _ r.m.go (by rw [RDat]) h
theorem ms_if {c : Expr} {a b : List Stmt} {tc : SC} (hc : MC X G c tc) (ha : MSs X G a t) (hb : MSs X G b u) : MS X G (.If c a b pos) (sIf tc t u) := by
  refine fun W tk => PS.imp (ps_if (hc W tk) (ha W tk) (hb W tk)) fun De σ H h => ?_
  obtain ⟨ρ, al, M, Ds, r, h, er⟩ := h
  refine ⟨ρ, al, M, _, _, r, h, fun H1 al1 M1 k n1 h1 => ?_, er.xcl r⟩
  cases k with
  | true => exact iteT ⟨ρ, al1, M1, Ds, r.go n1, h1, er.nxt n1⟩
  | false => exact iteF ⟨ρ, al1, M1, Ds, r.go n1, h1, er.nxt n1⟩
theorem asg_end {W : WX} {De : Ends} {Ds : SD} {σ : L2.St} {ρ : Env} {H H1 : Hp} {al al1 : List Addr} {M M1 : Mem} {tg : Tg} {v : V} {d : D} (er : EndR G W H al Ds De) (r : RSt G H al M σ ρ) (n1 : Nxt G H al H1 al1 M1) (r1 : RDat G.K H1 al1 d v)
    (h1 : match asgD tg d ρ with | some ρ1 => Ds.nx ρ1 M1 | none => False) : LG G tg v σ H1 De.nx := by
  cases ea : asgD tg d ρ with
  | none => simp only [ea] at h1
  | some ρ1 =>
    simp only [ea] at h1
    exact ⟨ρ, al1, M1, d, ρ1, r.go n1, r1, ea, fun σ2 r2 o2 => er.nx _ _ _ _ _ n1 r2 h1⟩
theorem ms_asg {tg : Expr} {g : Tg} (he : ME X G e te) (hg : MG X G tg g) (hs : swapsWithSole [tg] e pos.line X.env = pure false) (hw : swappedStores [tg] e X.env = pure none) (h1 : (assignEach [tg] X.env).map (·.2) = [assign tg X.env]) : MS X G (.Assign [tg] e pos) (sAsg te g) := by
  refine fun W tk => PS.imp (ps_asg (he W tk) hg hs hw h1) fun De σ H h => ?_
  obtain ⟨ρ, al, M, Ds, r, h, er⟩ := h
  exact ⟨ρ, al, M, _, _, r, h, fun H1 al1 M1 v d n1 r1 h1 => asg_end er r n1 r1 h1, er.xcl r⟩
theorem ms_set {i : Nat} {x : Str} {pos' : Pos} (hN : X.N.Nodup) (hi : X.N[i]? = some x) (hx : Loc X.env.scope x) (he : ME X G e te) (hs : swapsWith e (some (.Name x pos')) pos.line X.env = pure false) (hf : X.fn x = true ∨ X.env.scope.names.lookup x = some .local) (hX : NoX G [i]) :
    MS X G (.Assign [.Name x pos'] e pos) (sAsg te (.nm i)) := by
  refine fun W tk => PS.imp (ps_set hN hi hx (he W tk) hs hf) fun De σ H h => ?_
  obtain ⟨ρ, al, M, Ds, r, h, er⟩ := h
  exact ⟨ρ, al, M, _, _, r, h, fun H1 al1 M1 v d n1 r1 h1 => er.nx _ _ _ _ _ n1 ((r.go n1).setS r1 hX) h1, er.xcl r⟩
theorem le_lc {W : WX} {elt tg iter : Expr} {ti : SI} {t : Tg} {tt : SC} {te : SE} {vs : List Nat} {σ : L2.St} {H : Hp} {Q : VK} (hsl : ∀ i ∈ slotsT t, i ∈ vs) (hx : NoX G vs) (h : LE G W (eLc ti t tt te vs) σ H Q) : tLc (LI G W ti) (LG G t) (LC G W0 tt) (LE G W0 te) vs σ H Q := by
  obtain ⟨ρ, al, M, Ex, R, r, h, c, xc⟩ := h
  refine ⟨ρ, al, M, Ex, _, r, h, fun H1 al1 M1 J it n1 itr h1 => ?_, xc⟩
  intro D hD
  have h1 : lcL it.ok t tt te M1.length (wipeD ρ vs) it.items (M1 ++ [.lst []]) (fun M2 => R (.ref M1.length) M2) := h1
  have n2 := n1.m.new (o := .lst []) (u := .lst []) hD ⟨[], rfl, RDats.nil⟩
  have hD2 : (al1 ++ [D])[M1.length]? = some D := by
    rw [← n1.m.len, List.getElem?_append_right (Nat.le_refl _), Nat.sub_self]; rfl
  let Wi : Nat → Nat → Hp → Prop := fun i m H' => m = it.items.length - i ∧ i ≤ it.items.length ∧ ∃ al' M', Nxt G (upd H1 D (.lst [])) (al1 ++ [D]) H' al' M' ∧
    lcL it.ok t tt te M1.length (wipeD ρ vs) (it.items.drop i) M' (fun M2 => R (.ref M1.length) M2)
  refine ⟨Wi, ⟨it.items.length, by simp, Nat.zero_le _, _, _, n2.m.go, by simpa using h1⟩, ?_⟩
  rintro i m H' ⟨rfl, hi, al', M', n3, hl⟩
  have n13 := n2.trans n3
  by_cases hlt : i < it.items.length
  · have ed : it.items.drop i = it.items[i] :: it.items.drop (i + 1) := List.drop_eq_getElem_cons hlt
    rw [ed] at hl
    obtain ⟨hok, hl⟩ := (hl : _ ∧ _)
    obtain ⟨hgo, _⟩ := itr i H' al' M' n13 hok
    obtain ⟨go, hy⟩ := hgo _ (List.getElem?_eq_getElem hlt)
    refine .inr ⟨go, fun H2 => Wi (i + 1) (it.items.length - (i + 1)) H2, fun H2 w => ⟨_, by omega, w⟩, fun x H2 hyx => ?_⟩
    obtain ⟨n4, rx⟩ := hy x H2 hyx
    cases ea : asgD t it.items[i] (wipeD ρ vs) with
    | none => rw [ea] at hl; exact hl.elim
    | some ρ1 =>
      rw [ea] at hl
      have n14 := n13.trans n4
      have rw0 : RSt G H2 al' M' (L2.wipe σ vs) (wipeD ρ vs) :=
        ⟨n4.m, (r.e.mono (n1.k.trans n14.k) (n1.p.trans n14.p)).wipe _, (r.x.mono (n1.k.trans n14.k) (n1.p.trans n14.p)).wipe hx⟩
      refine ⟨_, al', M', _, ρ1, rw0, rx, ea, fun σ2 r2 o2 => ⟨?_, ρ1, al', M', noX, _, r2, hl, fun H5 al5 M5 b n5 h5 => ?_, xcl0⟩⟩
      · rw [o2.wipe hsl]
        apply List.ext_getElem?
        intro j
        rw [wipe_get, wipe_get, wipe_length]
        by_cases hj : j ∈ vs
        · rw [if_pos hj, if_pos hj]
        · rw [if_neg hj, if_neg hj]
      · have n15 := n3.trans (n4.trans n5)
        cases b with
        | false => exact iteF ⟨rfl, hlt, al5, M5, n15, h5⟩
        | true =>
          refine iteT ?_
          refine ⟨ρ1, al5, M5, noX, _, r2.go n5, h5, fun H6 al6 M6 y d n6 r6 h6 => ?_, xcl0⟩
          have n16 := n15.trans n6
          cases em : mlst M6 M1.length with
          | none => simp only [em] at h6
          | some acc =>
            simp only [em] at h6
            obtain ⟨hz, h6⟩ := (h6 : _ ∧ _)
            have hD6 : al6[M1.length]? = some D := pfx_get n16.p hD2
            obtain ⟨a, ws, ev, ea6, eH, l6⟩ := n16.m.lst (v := .ref D) (by rw [RDat]; exact ⟨D, hD6, rfl⟩) (mlst_lst em)
            cases ev
            refine ⟨ws, eH, by rw [← l6.length]; exact hz, rfl, hlt, al6, _, n16.trans (n16.m.wr (o := .lst (acc ++ [d])) (u := .lst (ws ++ [y])) hD6 eH rfl ⟨_, rfl, l6.append (RDats.cons r6 RDats.nil)⟩), h6⟩
  · have ei : i = it.items.length := by omega
    subst ei
    rw [List.drop_length] at hl
    obtain ⟨hok, hl⟩ := (hl : _ ∧ _)
    obtain ⟨_, hst⟩ := itr _ H' al' M' n13 hok
    refine .inl ⟨hst rfl, c _ _ _ _ _ (n1.trans n13) ?_ hl⟩
    rw [RDat]
    exact ⟨D, pfx_get n3.p hD2, rfl⟩
/-- name = [..] -/
theorem ms_setLc {i : Nat} {y : Str} {py : Pos} {elt tg iter : Expr} {ifs : List Expr} {scope : Scope} {own : List (Str × Nat)} {pos spos : Pos} {ti : SI} {t : Tg} {tt : SC} {te : SE} (hc : X.calm = true) (hN : X.N.Nodup) (hy : X.N[i]? = some y) (hyl : X.env.scope.names.lookup y = some .local)
    (hsw : swapsWith (.ListComp elt [⟨tg, iter, ifs, 0⟩] scope pos) (some (.Name y py)) spos.line X.env = pure true) (hi : MI X G tg iter ti) (ok : BlkOk X.N X.env.scope scope own)
    (hg : ∀ (s : Shared) (H : Hp) (C : Addr) (cl : List (Str × Addr)) (fp : List Addr), MG (X.blk s H scope (compEnvC scope cl C X.env) fp) G tg t) (ht : ∀ (s : Shared) (H : Hp) (C : Addr) (cl : List (Str × Addr)) (fp : List Addr), MTs (X.blk s H scope (compEnvC scope cl C X.env) fp) G ifs tt)
    (he : ∀ (s : Shared) (H : Hp) (C : Addr) (cl : List (Str × Addr)) (fp : List Addr), ME (X.blk s H scope (compEnvC scope cl C X.env) fp) G elt te) (hs : ∀ x, foldedSetIterable iter X.env x = pure x)
    (hsl : ∀ i ∈ slotsT t, i ∈ own.map (·.2)) (hx : NoX G (own.map (·.2))) (hX : NoX G [i]) : MS X G (.Assign [.Name y py] (.ListComp elt [⟨tg, iter, ifs, 0⟩] scope pos) spos) (sAsg (eLc ti t tt te (own.map (·.2))) (.nm i)) := by
  intro W tk
  refine PS.imp (ps_setLc hc hN hy hyl hsw (hi W tk) ok hg (fun s H C cl fp => ht s H C cl fp W0 takes0) (fun s H C cl fp => he s H C cl fp W0 takes0) hs) fun De σ H h => ?_
  obtain ⟨ρ, al, M, Ds, r, h, er⟩ := h
  exact le_lc (W := W) (elt := elt) (tg := tg) (iter := iter) hsl hx ⟨ρ, al, M, _, _, r, h, fun H1 al1 M1 v d n1 r1 h1 => er.nx _ _ _ _ _ n1 ((r.go n1).setS r1 hX) h1, er.xcl r⟩
theorem setM_ok {H : Hp} {al : List Addr} {M : Mem} {o i v : D} {ov iv vv : V} {R : Mem → Prop} {Q : Hp → Prop} (m : RMem G H al M) (ro : RDat G.K H al o ov) (ri : RDat G.K H al i iv) (rv : RDat G.K H al v vv) (h : setM o i v M R)
    (c : ∀ H' al' M', Nxt G H al H' al' M' → R M' → Q H') : rSetL ov iv vv H Q := by
  cases o with
  | ref n =>
    cases i with
    | int k =>
      have h : (match mlst M n with
        | some xs => (match ixN xs.length k with | some j => R (M.set n (.lst (xs.set j v))) | none => False)
        | none => False) := h
      cases e : mlst M n with
      | none => simp [e] at h
      | some xs =>
        simp only [e] at h
        cases e2 : ixN xs.length k with
        | none => simp [e2] at h
        | some j =>
          simp only [e2] at h
          obtain ⟨a, vs, rfl, ea, e3, l⟩ := m.lst ro (mlst_lst e)
          rw [RDat] at ri; subst ri
          exact ⟨a, vs, k, j, rfl, rfl, e3, by rw [← l.length]; exact e2, c _ _ _ (m.wr (o := .lst (xs.set j v)) (u := .lst (vs.set j vv)) ea e3 rfl ⟨_, rfl, l.set rv j⟩) h⟩
    | _ => exact (h : False).elim
  | _ => cases i <;> exact (h : False).elim
theorem ms_sub {o i : Expr} {to ti : SE} {tpos : Pos} (he : ME X G e te) (ho : ME X G o to) (hi : ME X G i ti)
    (ha : ∀ v, assign (.Subscript o i tpos) X.env v = (do
      let ov ← holding [v] (eval o X.env)
      let iv ← holding [v, ov] (eval i X.env)
      standAt tpos
      holding [v, ov, iv] (setItem ov iv v)
      release [v, ov, iv] []))
    (hs : swapsWithSole [.Subscript o i tpos] e pos.line X.env = pure false) (hw : swappedStores [.Subscript o i tpos] e X.env = pure none) (h1 : (assignEach [.Subscript o i tpos] X.env).map (·.2) = [assign (.Subscript o i tpos) X.env]) : MS X G (.Assign [.Subscript o i tpos] e pos) (sSet to ti te) := by
  refine fun W tk => PS.imp (ps_asg (he W tk) (pg_sub (ho W tk) (hi W tk) set_list ha) hs hw h1) fun De σ H h => ?_
  obtain ⟨ρ, al, M, Ds, r, h, er⟩ := h
  refine ⟨ρ, al, M, _, _, r, h, fun H1 al1 M1 v d n1 r1 h1 => ?_, er.xcl r⟩
  refine ⟨ρ, al1, M1, _, _, r.go n1, h1, fun H2 al2 M2 o' d' n2 r2 h2 => ?_, (er.xcl r).nxt n1⟩
  have n12 := n1.trans n2
  refine ⟨ρ, al2, M2, _, _, r.go n12, h2, fun H3 al3 M3 i' d3 n3 r3 h3 => ?_, (er.xcl r).nxt n12⟩
  have n13 := n12.trans n3
  exact setM_ok n3.m (r2.mono n3.k n3.p) r3 (r1.mono (n2.k.trans n3.k) (n2.p.trans n3.p)) h3 fun H4 al4 M4 n4 h4 => er.nx _ _ _ _ _ (n13.trans n4) (r.go (n13.trans n4)) h4
theorem ms_for {tg iter : Expr} {body : List Stmt} {ti : SI} {g : Tg} (hp : PassesOwn (model X.prog X.w) X.A X.env X.xe) (hc : X.calm = true) (hi : MI X G tg iter ti) (hg : MG X G tg g) (hb : MSs X G body t)
    (hs : ∀ x, foldedSetIterable iter X.env x = pure x) : MS X G (.For tg iter body [] pos) (sFor ti g t) := by
  refine fun W tk => PS.imp (ps_for hp hc (hi W tk) hg (hb W tk) hs) fun De σ H h => ?_
  obtain ⟨ρ, al, M, Ds, r, h, er⟩ := h
  refine ⟨ρ, al, M, _, _, r, h, fun H1 al1 M1 J it n1 itr h1 => ?_, er.xcl r⟩
  let Wi : Nat → Nat → L2.St → Hp → Prop := fun i m σ' H' => m = it.items.length - i ∧ i ≤ it.items.length ∧ ∃ ρ' al' M', Nxt G H1 al1 H' al' M' ∧ RSt G H' al' M' σ' ρ' ∧ forL it.ok g t Ds (it.items.drop i) ρ' M'
  refine ⟨Wi, ⟨it.items.length, by simp, Nat.zero_le _, ρ, _, _, n1.m.go, r.go n1, by simpa using h1⟩, ?_⟩
  rintro i m σ' H' ⟨rfl, hi', ρ', al', M', n2, r2, hl⟩
  by_cases hlt : i < it.items.length
  · have ed : it.items.drop i = it.items[i] :: it.items.drop (i + 1) := List.drop_eq_getElem_cons hlt
    rw [ed] at hl
    obtain ⟨hok, hl⟩ := (hl : _ ∧ _)
    obtain ⟨hgo, _⟩ := itr i H' al' M' n2 hok
    obtain ⟨go, hy⟩ := hgo _ (List.getElem?_eq_getElem hlt)
    refine .inr ⟨go, fun σ2 H2 => Wi (i + 1) (it.items.length - (i + 1)) σ2 H2, fun σ2 H2 w => ⟨_, by omega, w⟩, fun x H2 hyx => ?_⟩
    obtain ⟨n3, rx⟩ := hy x H2 hyx
    have n13 := n2.trans n3
    cases ea : asgD g it.items[i] ρ' with
    | none => rw [ea] at hl; exact hl.elim
    | some ρ1 =>
      rw [ea] at hl
      refine ⟨ρ', al', M', _, ρ1, r2.go n3, rx, ea, fun σ2 r3 o3 => ⟨ρ1, al', M', _, r3, hl, ?_⟩⟩
      have er2 := er.nxt (n1.trans n13)
      exact ⟨fun σ4 ρ4 H4 al4 M4 n4 r4 h4 => ⟨rfl, hlt, ρ4, al4, M4, n13.trans n4, r4, h4⟩, er2.rt, er2.nx, fun σ4 ρ4 H4 al4 M4 n4 r4 h4 => ⟨rfl, hlt, ρ4, al4, M4, n13.trans n4, r4, h4⟩, er2.ex⟩
  · have ei : i = it.items.length := by omega
    subst ei
    rw [List.drop_length] at hl
    obtain ⟨hok, hl⟩ := (hl : _ ∧ _)
    obtain ⟨_, hst⟩ := itr _ H' al' M' n2 hok
    exact .inl ⟨hst rfl, er.nx _ _ _ _ _ (n1.trans n2) r2 hl⟩
theorem ms_while {c : Expr} {body : List Stmt} {tc : SC} (hp : PassesOwn (model X.prog X.w) X.A X.env X.xe) (hc : MC X G c tc) (hb : MSs X G body t) : MS X G (.While c body [] pos) (sWhile tc t) := by
  refine fun W tk => PS.imp (ps_while hp (hc W tk) (hb W tk)) fun De σ H h => ?_
  obtain ⟨ρ, al, M, Ds, r, ⟨n0, h⟩, er⟩ := h
  refine ⟨fun m σ' H' => ∃ ρ' al' M', Nxt G H al H' al' M' ∧ RSt G H' al' M' σ' ρ' ∧ whileN tc t Ds m ρ' M', ⟨n0, ρ, al, M, r.m.go, r, h⟩, ?_⟩
  rintro m σ' H' ⟨ρ', al', M', n1, r1, hw⟩
  cases m with
  | zero => exact hw.elim
  | succ m =>
    refine ⟨ρ', al', M', _, _, r1, hw, fun H2 al2 M2 k n2 h2 => ?_, (er.nxt n1).xcl r1⟩
    have n12 := n1.trans n2
    cases k with
    | true =>
      refine iteT ⟨fun σ3 H3 => ∃ ρ' al' M', Nxt G H al H3 al' M' ∧ RSt G H3 al' M' σ3 ρ' ∧ whileN tc t Ds m ρ' M', fun σ3 H3 w => ⟨m, Nat.lt_succ_self _, w⟩, ρ', al2, M2, _, r1.go n2, h2, ?_⟩
      have er2 := er.nxt n12
      exact ⟨fun σ4 ρ4 H4 al4 M4 n4 r4 h4 => ⟨ρ4, al4, M4, n12.trans n4, r4, h4⟩, er2.rt, er2.nx, fun σ4 ρ4 H4 al4 M4 n4 r4 h4 => ⟨ρ4, al4, M4, n12.trans n4, r4, h4⟩, er2.ex⟩
    | false => exact iteF (er.nx _ _ _ _ _ n12 (r1.go n2) h2)
/-- f() -/
theorem me_call0 {k : Nat} {f : Addr} {fd : FuncData} {ps : List Str} {x : Str} {p : Pos} {F : Fn} (hF : FnOk X.prog X.w X.K X.mg X.base (CX X.prog X.w) k f fd ps (LSp G F 0)) (hr : Room k X.A) (hg : Gl X x) (hm : X.mg x = some (.ref f)) (hk : PySem.W.keepIn X.K (.ref f) = true) (hb : Binds X.K fd ps []) (hdb : (x == ("__debug__" : Str)) = false) :
    ME X G (.Call (.Name x p) [] [] pos) (eCall F aNil) := by
  intro W tk
  refine ⟨fun pins s σ H Q I h => ?_⟩
  obtain ⟨ρ, al, M, Ex, R, r, h, c, xc⟩ := h
  refine wpAny_Call_Name_kw (ld_glob I hg hm ?_ hdb)
  refine PySem.W.callWith_K0 I.kIn hk (run_fnSD (us := []) (E := fun σ cls dd H => W cls dd σ H) hF hr hb .nil (passAt tk σ) I .nil ?_)
  exact ⟨al, M, [], R, Ex, rfl, r.m, RDats.nil, h, c, fun H' al' M' x cls dd n' rx ex => xc _ _ _ _ _ _ n' rx ex⟩
end

/-! ### a def's body keeps its promise -/
def startD (n : Nat) (ds : List D) : Env := ds.map some ++ List.replicate (n - ds.length) none
def SD.top (R : KD) (Ex : XC) : SD := { nx := fun _ M1 => R .non M1, rt := R, bk := fun _ _ => False, ct := fun _ _ => False, ex := fun x _ M1 => Ex x M1 }
def bodyF (n : Nat) (t : SS) : Fn := fun ds M R Ex => t (SD.top R Ex) (startD n ds) M
theorem start_rel {G : GC} {H : Hp} {al : List Addr} {M : Mem} {N : List Str} {ds : List D} {vs : List V} (m : RMem G H al M) (r : RDats G.K H al ds vs) (hx : G.xn = none) : RSt G H al M (L2.start N vs) (startD N.length ds) := by
  refine ⟨m, ⟨?_, fun i d h => ?_⟩, by unfold XOk; rw [hx]; trivial⟩
  · unfold L2.start startD
    simp [r.length]
  · unfold startD at h
    have hi : i < ds.length := by
      by_cases hi : i < ds.length
      · exact hi
      · rw [List.getElem?_append_right (by simpa using hi), List.getElem?_replicate] at h
        split at h <;> cases h
    rw [List.getElem?_append_left (by simpa using hi), List.getElem?_map] at h
    cases e : ds[i]? with
    | none => rw [e] at h; cases h
    | some d' =>
      rw [e] at h; cases h
      obtain ⟨v, e1, e2⟩ := r.get e
      refine ⟨v, ?_, e2⟩
      unfold L2.start
      rw [List.getElem?_append_left (by rw [List.length_map, ← r.length]; exact hi), List.getElem?_map, e1]
      rfl
theorem fn_body {G : GC} {k : Nat} {x qual : Str} {st : Stmt} {f : Addr} {fd : FuncData} {N ps : List Str} {t : SS} (hx : G.xn = none) (F : Fun G.K x qual st f fd) (S : FnScope N ps (defScope st))
    (hb : ∀ (cdv : Value) (A : Around) (outer : List PySem.Env) (s : Shared) (H : Hp) (E : XK), Room k (A.deeper (PyProof.Rows.envOfC qual (defScope st) s.heap.objs.size f cdv)) → MSs (cxOf (CX G.P G.w) G.P G.w G.K G.mg G.base N qual (defScope st) f cdv A outer s H E) G (defBody st) t) :
    FnOk G.P G.w G.K G.mg G.base (CX G.P G.w) (k + 1) f fd ps (LSp G (bodyF N.length t) ps.length) := by
  refine F.okX S (fun vs H Q E h => ?_) (fun cdv A outer s H vs Q E hr h => ?_)
  · obtain ⟨al, M, ds, R, Ex, hl, _⟩ := h
    exact hl
  · obtain ⟨al, M, ds, R, Ex, hl, m, r, hF, c, xc⟩ := h
    refine ⟨_, hb cdv A outer s H E hr (fun cls d _ H => E cls d H) (takes_of rfl rfl rfl rfl), startD N.length ds, al, M, _, start_rel m r hx, hF, ?_⟩
    exact ⟨fun σ' ρ' H' al' M' n r' h' => c _ _ _ _ _ n (by rw [RDat]) h', c, fun _ _ _ _ _ _ _ h => h.elim, fun _ _ _ _ _ _ _ h => h.elim, fun σ' ρ' H' al' M' x cls dd n r' rx h' => xc _ _ _ _ _ _ n rx h'⟩
end DN

set_option maxHeartbeats 4000000
/-! from the text to its reading, by computation; the reading is right -/
namespace DN
open PySem PySem.Spec L2

inductive GE where
  | const (d : D)
  | fn (k np : Nat) (F : Fn)
  | blt
structure SEnv where
  names : List (Str × NameKind)
  N : List Str
  fnall : Bool
  fnl : List Str
  lv : Nat
  Γ : List (Str × GE)
  xi : Option Nat
def GEok (G : GC) (x : Str) : GE → Prop
  | .const d => ∃ u v, G.mg x = some u ∧ RelV v u ∧ ∀ H al, RDat G.K H al d v
  | .fn k np F => ∃ f fd ps, ps.length = np ∧ G.mg x = some (.ref f) ∧ PySem.W.keepIn G.K (.ref f) = true ∧ FnOk G.P G.w G.K G.mg G.base (CX G.P G.w) k f fd ps (LSp G F np) ∧ Binds G.K fd ps []
  | .blt => G.mg x = none
def GOk (G : GC) (Γ : List (Str × GE)) : Prop := ∀ x ge, Γ.lookup x = some ge → GEok G x ge
structure Good (X : Cx) (G : GC) (S : SEnv) : Prop where
  P : X.prog = G.P
  w : X.w = G.w
  K : X.K = G.K
  mg : X.mg = G.mg
  base : X.base = G.base
  kind : X.env.scope.kind = .function
  names : X.env.scope.names = S.names
  N : X.N = S.N
  nd : S.N.Nodup
  calm : X.calm = true
  room : Room S.lv X.A
  fn : ∀ x, (S.fnall || S.fnl.contains x) = true → X.fn x = true
  xn : ∀ n, G.xn = some n → S.xi = some n.i
  g : GOk G S.Γ

structure Rec where
  e : SEnv → Expr → Option SE
  c : SEnv → Expr → Option SC
  s : SEnv → Stmt → Option SS
structure RecOk (r : Rec) : Prop where
  e : ∀ {X G S e t}, Good X G S → r.e S e = some t → ME X G e t
  c : ∀ {X G S e t}, Good X G S → r.c S e = some t → MC X G e t
  s : ∀ {X G S e t}, Good X G S → PassesOwn (model X.prog X.w) X.A X.env X.xe → r.s S e = some t → MS X G e t

/-! ### facts of the syntax -/
def notStar : Expr → Bool | .Starred _ _ => false | _ => true
def notSet : Expr → Bool | .Set _ _ _ => false | _ => true
def notSlice : Expr → Bool | .Slice _ _ _ _ => false | _ => true
def notComp : Expr → Bool | .ListComp _ _ _ _ => false | .SetComp _ _ _ _ => false | .DictComp _ _ _ _ _ => false | _ => true
def notTup : Expr → Bool | .Tuple _ _ _ => false | _ => true
def notCall : Expr → Bool | .Call _ _ _ _ => false | _ => true
def notTest : Expr → Bool | .UnaryOp .Not _ _ => false | .BoolOp _ _ _ => false | .IfExp _ _ _ _ => false | .Compare _ _ _ _ => false | _ => true
theorem star_cons {a : Expr} {es : List Expr} {env : PySem.Env} (h : notStar a = true) : starEach (a :: es) env = (false, eval a env) :: starEach es env := by
  cases a <;> first | rfl | contradiction
theorem star_any {env : PySem.Env} {pos : Pos} : ∀ {es : List Expr}, es.all notStar = true → (backTo pos (starEach es env)).any (·.1) = false
  | [], _ => rfl
  | a :: es, h => by
    simp only [List.all_cons, Bool.and_eq_true] at h
    rw [star_cons h.1]
    exact star_any (es := es) h.2
theorem star_all {env : PySem.Env} {pos : Pos} : ∀ {es : List Expr}, es.all notStar = true → (backTo pos (starEach es env)).all (fun x => !x.1) = true
  | [], _ => rfl
  | a :: es, h => by
    simp only [List.all_cons, Bool.and_eq_true] at h
    rw [star_cons h.1]
    exact star_all (es := es) h.2
theorem attr_plain {o : Expr} {m : Str} {env : PySem.Env} (h : notCall o = true) : attributeBase o m env (eval o env) = eval o env := by
  cases o <;> first | rfl | contradiction
theorem mark_no {b : Expr} {op : CmpOp} (h : notSet b = true) : behindInMarks op b = false := by
  cases b <;> first | rfl | contradiction
theorem ix_plain {b : Expr} (h : notSlice b = true) : PlainIx b := by
  intro o i
  cases b <;> first | rfl | contradiction
theorem fold_plain {b : Expr} {env : PySem.Env} (h : notSet b = true) : ∀ x, foldedSetIterable b env x = pure x := by
  intro x
  cases b <;> first | rfl | contradiction
theorem sw_plain {e : Expr} {tg : Option Expr} {l : Nat} {env : PySem.Env} (h : notComp e = true) : swapsWith e tg l env = pure false := by
  cases e <;> first | rfl | contradiction
theorem stores_plain {ts : List Expr} {e : Expr} {env : PySem.Env} (h : notTup e = true) : swappedStores ts e env = pure none := by
  unfold swappedStores
  cases e <;> first | contradiction | (rcases ts with _ | ⟨t, _ | ⟨t2, r⟩⟩ <;> first | rfl | (cases t <;> rfl))
theorem true_plain {e : Expr} {env : PySem.Env} (h : notTest e = true) : ∀ whole, isTrue e env whole = (do let v ← whole; standAt e.pos; holding [v] (truthy v)) := by
  intro whole
  cases e <;> first | rfl | contradiction | (rename_i op _ _; cases op <;> first | rfl | contradiction)
theorem each_cons {a : Expr} {es : List Expr} {env : PySem.Env} (h : notStar a = true) : assignEach (a :: es) env = (false, assign a env) :: assignEach es env := by
  cases a <;> first | rfl | contradiction
theorem each_len {env : PySem.Env} : ∀ {es : List Expr}, es.all notStar = true → (assignEach es env).length = es.length ∧ (assignEach es env).findIdx? (·.1) = none
  | [], _ => ⟨rfl, rfl⟩
  | a :: es, h => by
    simp only [List.all_cons, Bool.and_eq_true] at h
    obtain ⟨h1, h2⟩ := each_len (env := env) (es := es) h.2
    rw [each_cons h.1]
    refine ⟨by rw [List.length_cons, List.length_cons, h1], ?_⟩
    rw [List.findIdx?_cons, h2]
    rfl

/-! ### names -/
def okNm (x : Str) : Bool := !(x == ("__debug__" : Str)) && !(x == ("__classdict__" : Str)) && !(x == ("__name__" : Str))
def idx (S : SEnv) (x : Str) : Option Nat := S.N.findIdx? (· == x)
def visK (S : SEnv) (x : Str) : Bool := match S.names.lookup x with | some .local => true | some .cell => true | some .free => true | _ => false
def locK (S : SEnv) (x : Str) : Bool := match S.names.lookup x with | some .local => true | some .cell => true | _ => false
def glbK (S : SEnv) (x : Str) : Bool := match S.names.lookup x with | some .globalImplicit => true | _ => false
def stoK (S : SEnv) (x : Str) : Bool := (S.fnall || S.fnl.contains x) || (match S.names.lookup x with | some .local => true | _ => false)
section
variable {X : Cx} {G : GC} {S : SEnv}
theorem idx_get {x : Str} {i : Nat} (h : idx S x = some i) : S.N[i]? = some x := by
  unfold idx at h
  obtain ⟨hl, e, _⟩ := List.findIdx?_eq_some_iff_getElem.mp h
  rw [List.getElem?_eq_getElem hl, beq_iff_eq.mp e]
theorem Good.vis (g : Good X G S) {x : Str} (h : visK S x = true) : Vis X.env.scope x := by
  unfold visK at h
  unfold Vis
  rw [g.names]
  cases e : S.names.lookup x with
  | none => rw [e] at h; cases h
  | some k => rw [e] at h; cases k <;> first | contradiction | simp
theorem Good.loc (g : Good X G S) {x : Str} (h : locK S x = true) : L2.Loc X.env.scope x := by
  unfold locK at h
  unfold L2.Loc
  rw [g.names]
  cases e : S.names.lookup x with
  | none => rw [e] at h; cases h
  | some k => rw [e] at h; cases k <;> first | contradiction | simp
theorem Good.gl (g : Good X G S) {x : Str} (h : glbK S x = true) : Gl X x := by
  unfold glbK at h
  show X.env.scope.names.lookup x = _
  rw [g.names]
  cases e : S.names.lookup x with
  | none => rw [e] at h; cases h
  | some k => rw [e] at h; cases k <;> first | contradiction | rfl
theorem Good.sto (g : Good X G S) {x : Str} (h : stoK S x = true) : X.fn x = true ∨ X.env.scope.names.lookup x = some .local := by
  unfold stoK at h
  rw [g.names]
  rcases Bool.or_eq_true_iff.mp h with h | h
  · exact .inl (g.fn x h)
  · refine .inr ?_
    cases e : S.names.lookup x with
    | none => rw [e] at h; cases h
    | some k => rw [e] at h; cases k <;> first | contradiction | rfl
theorem okNm1 {x : Str} (h : okNm x = true) : (x == ("__debug__" : Str)) = false := by
  unfold okNm at h; simp only [Bool.and_eq_true, Bool.not_eq_true'] at h; exact h.1.1
theorem okNm2 {x : Str} (h : okNm x = true) : (x == ("__classdict__" : Str)) = false := by
  unfold okNm at h; simp only [Bool.and_eq_true, Bool.not_eq_true'] at h; exact h.1.2
theorem okNm3 {x : Str} (h : okNm x = true) : x ≠ "__name__" := by
  unfold okNm at h; simp only [Bool.and_eq_true, Bool.not_eq_true'] at h; exact fun z => by rw [z] at h; simp at h
theorem Good.units (g : Good X G S) : X.A.units + 65 < cLine := by have := g.room.un; omega
theorem Good.nox {js : List Nat} (g : Good X G S) (h : (match S.xi with | none => true | some i => !js.contains i) = true) : NoX G js := by
  intro n e
  rw [g.xn n e] at h
  simp only [Bool.not_eq_true', List.contains_eq_mem, decide_eq_false_iff_not] at h
  exact h
def noxB (S : SEnv) (js : List Nat) : Bool := match S.xi with | none => true | some i => !js.contains i
def cName (S : SEnv) (x : Str) : Option SE :=
  if okNm x then
    if visK S x then (idx S x).map eVar
    else if glbK S x then match S.Γ.lookup x with | some (.const d) => some (eC d) | _ => none
    else none
  else none
theorem cName_ok {x : Str} {pos : Pos} {t : SE} (g : Good X G S) (h : cName S x = some t) : ME X G (.Name x pos) t := by
  unfold cName at h
  by_cases ho : okNm x = true
  · rw [if_pos ho] at h
    by_cases hv : visK S x = true
    · rw [if_pos hv] at h
      cases e : idx S x with
      | none => rw [e] at h; cases h
      | some i =>
        rw [e] at h; cases h
        exact me_var (by rw [g.N]; exact idx_get e) (g.vis hv) (okNm1 ho) (okNm2 ho)
    · rw [if_neg hv] at h
      by_cases hg : glbK S x = true
      · rw [if_pos hg] at h
        cases e : S.Γ.lookup x with
        | none => rw [e] at h; cases h
        | some ge =>
          rw [e] at h
          cases ge with
          | const d =>
            cases h
            obtain ⟨u, v, e1, rv, rd⟩ := g.g x _ e
            exact me_of_tC (pe_glob (g.gl hg) (by rw [g.mg]; exact e1) rv (okNm1 ho)) rd
          | _ => cases h
      · rw [if_neg hg] at h; cases h
  · rw [if_neg ho] at h; cases h
def cConst : Const → Option SE
  | .int i => some (eC (.int i))
  | .bool b => some (eC (.bl b))
  | .none => some (eC .non)
  | .str x => some (eC (.str x))
  | _ => none
theorem cConst_ok {c : Const} {k : Nat} {pos : Pos} {t : SE} (h : cConst c = some t) : ME X G (.Constant c k pos) t := by
  cases c <;> first | (cases h; first | exact me_int | exact me_bl | exact me_non | exact me_str) | cases h
def binOp : Operator → Option Op2
  | .Add => some opAdd | .Sub => some opSub | .Mult => some opMul | .FloorDiv => some opDiv | .Mod => some opMod | .Pow => some opPow
  | _ => none
theorem binOp_ok {op : Operator} {f : Op2} (g : Good X G S) (h : binOp op = some f) : OpR X (binaryOp op) (LR G f) := by
  cases op <;> first | (cases h; first | exact or_add g.K | exact or_sub | exact or_mul | exact or_div | exact or_mod | exact or_pow) | cases h
def cmpOp : CmpOp → Op2
  | .Eq => opEq | .NotEq => opNe | .Lt => opLt | .LtE => opLe | .Gt => opGt | .GtE => opGe | .Is => opIs | .IsNot => opIsNot | .In => opIn | .NotIn => opNotIn
theorem cmpOp_ok {op : CmpOp} (g : Good X G S) : OpR X (compareOp op) (LR G (cmpOp op)) := by
  have hu := g.units
  cases op
  · exact or_eq g.K (by omega)
  · exact or_ne g.K (by omega)
  · exact or_lt
  · exact or_le
  · exact or_gt
  · exact or_ge
  · exact or_is
  · exact or_isNot
  · exact or_in g.K hu
  · exact or_notIn g.K hu
variable {r : Rec}
/-! ### argument lists -/
def cArgs (r : Rec) (S : SEnv) : List Expr → Option SA
  | [] => some aNil
  | a :: es => if notStar a then match r.e S a, cArgs r S es with | some ta, some tt => some (aCons ta tt) | _, _ => none else none
theorem cArgs_ok (ro : RecOk r) (g : Good X G S) : ∀ {es : List Expr} {tt : SA}, cArgs r S es = some tt → MA X G es tt ∧ es.all notStar = true
  | [], tt, h => by cases h; exact ⟨ma_nil, rfl⟩
  | a :: es, tt, h => by
    unfold cArgs at h
    by_cases hs : notStar a = true
    · rw [if_pos hs] at h
      cases e1 : r.e S a with
      | none => simp [e1] at h
      | some ta =>
        cases e2 : cArgs r S es with
        | none => simp [e1, e2] at h
        | some t2 =>
          simp only [e1, e2, Option.some.injEq] at h
          subst h
          obtain ⟨h1, h2⟩ := cArgs_ok ro g e2
          exact ⟨ma_cons (ro.e g e1) h1 (star_cons hs), by simp [hs, h2]⟩
    · rw [if_neg hs] at h; cases h

/-! ### calls by name -/
inductive Blt where
  | b (id : String) (g : OpN)
  | t (T : String) (g : OpN)
def bltOp (f : Str) (n : Nat) : Option Blt :=
  if f = "len" then (if n = 1 then some (.b "len" cnLen) else none)
  else if f = "int" then (if n = 1 then some (.t "int" cnInt) else none)
  else if f = "tuple" then (if n = 1 then some (.t "tuple" cnTuple) else none)
  else if f = "list" then (if n = 1 then some (.t "list" cnList) else none)
  else if f = "abs" then (if n = 1 then some (.b "abs" cnAbs) else none)
  else if f = "ord" then (if n = 1 then some (.b "ord" cnOrd) else none)
  else if f = "sum" then (if n = 1 then some (.b "sum" cnSum) else none)
  else if f = "min" then (if n = 2 then some (.b "min" cnMin) else none)
  else if f = "max" then (if n = 2 then some (.b "max" cnMax) else none)
  else none
def BltOk (X : Cx) (G : GC) (f : Str) : Blt → Prop
  | .b id g => bootBuiltins f = some (.builtin id) ∧ CallR X (.builtin id) (LCall G g)
  | .t T g => bootBuiltins f = some (.type T) ∧ CallR X (.type T) (LCall G g)
theorem bltOp_ok {f : Str} {n : Nat} {b : Blt} (g : Good X G S) (h : bltOp f n = some b) : BltOk X G f b := by
  unfold bltOp at h
  repeat' (split at h)
  all_goals (cases h)
  all_goals subst_vars
  all_goals first
    | exact ⟨by decide +kernel, cr_len g.K⟩
    | exact ⟨by decide +kernel, cr_int⟩
    | exact ⟨by decide +kernel, cr_tuple g.K⟩
    | exact ⟨by decide +kernel, cr_list g.K⟩
    | exact ⟨by decide +kernel, cr_abs⟩
    | exact ⟨by decide +kernel, cr_ord⟩
    | exact ⟨by decide +kernel, cr_sumL g.K g.calm⟩
    | exact ⟨by decide +kernel, cr_min2 g.calm⟩
    | exact ⟨by decide +kernel, cr_max2 g.calm⟩
end
end DN

set_option maxHeartbeats 4000000
/-! the reading of expressions, statements, defs by computation -/
namespace DN
open PySem PySem.Spec L2

structure Mtd where
  T : String
  id : String
  g : OpM
def mtOp (m : Str) (n : Nat) : Option Mtd :=
  if m = "append" then (if n = 1 then some ⟨"list", "list.append", mAppend⟩ else none)
  else if m = "extend" then (if n = 1 then some ⟨"list", "list.extend", mExtend⟩ else none)
  else if m = "pop" then (if n ≤ 1 then some ⟨"list", "list.pop", mPop⟩ else none)
  else if m = "reverse" then (if n = 0 then some ⟨"list", "list.reverse", mReverse⟩ else none)
  else if m = "join" then (if n = 1 then some ⟨"str", "str.join", mJoin⟩ else none)
  else none
section
variable {X : Cx} {G : GC} {S : SEnv} {r : Rec}
theorem mtOp_ok {m : Str} {n : Nat} {b : Mtd} (g : Good X G S) (h : mtOp m n = some b) : PlainAttrs b.T ∧ Slot b.T m b.id ∧ typeOf (.builtin b.id) = pure (.type "method_descriptor") ∧ MtR X b.id (LMt G b.g) := by
  unfold mtOp at h
  repeat' (split at h)
  all_goals (cases h)
  all_goals subst_vars
  all_goals first
    | exact ⟨PySem.F.plainAttrs_list, PySem.F.slot_list_append, PySem.F.type_list_append, mr_append⟩
    | exact ⟨PySem.F.plainAttrs_list, PySem.F.slot_list_extend, PySem.F.type_list_extend, mr_extend g.K⟩
    | exact ⟨PySem.F.plainAttrs_list, PySem.F.slot_list_pop, PySem.F.type_list_pop, mr_pop⟩
    | exact ⟨PySem.F.plainAttrs_list, PySem.F.slot_list_reverse, PySem.F.type_list_reverse, mr_reverse⟩
    | exact ⟨PySem.F.plainAttrs_str, PySem.F.slot_str_join, PySem.F.type_str_join, mr_join g.K⟩

/-! ### calls -/
def isiT (T : Str) : Option String := if T = "int" then some "int" else if T = "bool" then some "bool" else if T = "str" then some "str" else if T = "tuple" then some "tuple" else if T = "list" then some "list" else none
theorem isiT_ok {T : Str} {TS : String} (h : isiT T = some TS) : bootBuiltins T = some (.type TS) ∧ T ≠ "__name__" ∧ (T == ("__debug__" : Str)) = false := by
  unfold isiT at h
  repeat' (split at h)
  all_goals (cases h)
  all_goals subst_vars
  all_goals exact ⟨by decide +kernel, by decide +kernel, by decide +kernel⟩
def isBlt (S : SEnv) (x : Str) : Bool := glbK S x && (match S.Γ.lookup x with | some .blt => true | _ => false)
theorem isBlt_ok {x : Str} (g : Good X G S) (h : isBlt S x = true) : Gl X x ∧ X.mg x = none := by
  unfold isBlt at h
  rw [Bool.and_eq_true] at h
  refine ⟨g.gl h.1, ?_⟩
  have h2 := h.2
  cases e : S.Γ.lookup x with
  | none => rw [e] at h2; cases h2
  | some ge =>
    rw [e] at h2
    cases ge with
    | blt => rw [g.mg]; exact g.g x _ e
    | _ => cases h2
def cIsi (r : Rec) (S : SEnv) (args : List Expr) : Option SE := match args with
  | [a, .Name T _] => if isBlt S "isinstance" && isBlt S T && notStar a then match isiT T, r.e S a with | some TS, some ta => some (eIsi TS ta) | _, _ => none else none
  | _ => none
def cCallN (r : Rec) (S : SEnv) (f : Str) (args : List Expr) : Option SE :=
  if okNm f && glbK S f then
    if f = "isinstance" then cIsi r S args else
    match S.Γ.lookup f with
    | some (.fn k np F) => if k ≤ S.lv ∧ args.length = np then (cArgs r S args).map (eCall F) else none
    | some .blt => match args with
      | [] => none
      | _ => match bltOp f args.length, cArgs r S args with
        | some (.b _ g), some tt => some (eCallB g tt)
        | some (.t _ g), some tt => some (eCallB g tt)
        | _, _ => none
    | _ => none
  else none
theorem cIsi_ok {args : List Expr} {p pos : Pos} {t : SE} (ro : RecOk r) (g : Good X G S) (h : cIsi r S args = some t) : ME X G (.Call (.Name "isinstance" p) args [] pos) t := by
  unfold cIsi at h
  split at h
  · rename_i a T pT
    split at h
    · rename_i hb
      rw [Bool.and_eq_true, Bool.and_eq_true] at hb
      obtain ⟨⟨b1, b2⟩, b3⟩ := hb
      cases e1 : isiT T with
      | none => simp [e1] at h
      | some TS =>
        cases e2 : r.e S a with
        | none => simp [e1, e2] at h
        | some ta =>
          simp only [e1, e2, Option.some.injEq] at h
          subst h
          obtain ⟨g1, m1⟩ := isBlt_ok g b1
          obtain ⟨g2, m2⟩ := isBlt_ok g b2
          obtain ⟨v1, v2, v3⟩ := isiT_ok e1
          exact me_isi g.K g1 m1 g2 m2 v1 v2 v3 (ro.e g e2) (star_cons b3) (star_any (es := [.Name T pT]) rfl)
    · cases h
  · cases h
theorem cCallN_ok {f : Str} {args : List Expr} {p pos : Pos} {t : SE} (ro : RecOk r) (g : Good X G S) (h : cCallN r S f args = some t) : ME X G (.Call (.Name f p) args [] pos) t := by
  unfold cCallN at h
  by_cases ho : (okNm f && glbK S f) = true
  · rw [if_pos ho] at h
    rw [Bool.and_eq_true] at ho
    obtain ⟨o1, o2⟩ := ho
    by_cases hi : f = "isinstance"
    · rw [if_pos hi] at h
      subst hi
      exact cIsi_ok ro g h
    · rw [if_neg hi] at h
      cases e : S.Γ.lookup f with
      | none => simp [e] at h
      | some ge =>
        cases ge with
        | const d => simp [e] at h
        | fn k np F =>
          simp only [e] at h
          by_cases hk : k ≤ S.lv ∧ args.length = np
          · rw [if_pos hk] at h
            cases ea : cArgs r S args with
            | none => rw [ea] at h; cases h
            | some tt =>
              rw [ea] at h; cases h
              obtain ⟨h1, h2⟩ := cArgs_ok ro g ea
              obtain ⟨fa, fd, ps, hps, hm, hkp, hF, hb⟩ := g.g f _ e
              have hF' : FnOk X.prog X.w X.K X.mg X.base (CX X.prog X.w) k fa fd ps (LSp G F np) := by rw [g.P, g.w, g.K, g.mg, g.base]; exact hF
              cases args with
              | nil =>
                cases ea
                have : np = 0 := hk.2.symm
                subst this
                exact me_call0 hF' (g.room.mono hk.1) (g.gl o2) (by rw [g.mg]; exact hm) (by rw [g.K]; exact hkp) (by rw [g.K]; exact hb) (okNm1 o1)
              | cons a es =>
                simp only [List.all_cons, Bool.and_eq_true] at h2
                exact me_call hF' (g.room.mono hk.1) (g.gl o2) (by rw [g.mg]; exact hm) (by rw [g.K]; exact hkp) (by rw [g.K]; exact hb) h1 hk.2 (okNm1 o1) (star_cons h2.1) (star_any h2.2)
          · rw [if_neg hk] at h; cases h
        | blt =>
          simp only [e] at h
          have hm : X.mg f = none := by rw [g.mg]; exact g.g f _ e
          cases args with
          | nil => simp at h
          | cons a es =>
            simp only at h
            cases eb : bltOp f (a :: es).length with
            | none => rw [eb] at h; contradiction
            | some b =>
              cases ea : cArgs r S (a :: es) with
              | none => rw [eb, ea] at h; cases b <;> contradiction
              | some tt =>
                obtain ⟨h1, h2⟩ := cArgs_ok ro g ea
                simp only [List.all_cons, Bool.and_eq_true] at h2
                have bo := bltOp_ok (X := X) (G := G) g eb
                cases b with
                | b id gg =>
                  simp only [eb, ea, Option.some.injEq] at h
                  subst h
                  exact me_callB bo.2 (g.gl o2) hm bo.1 h1 (okNm3 o1) (okNm1 o1) (star_cons h2.1) (star_any h2.2)
                | t T gg =>
                  simp only [eb, ea, Option.some.injEq] at h
                  subst h
                  exact me_callTy bo.2 (g.gl o2) hm bo.1 h1 (okNm3 o1) (okNm1 o1) (star_cons h2.1) (star_any h2.2)
  · rw [if_neg ho] at h; cases h
def cCallM (r : Rec) (S : SEnv) (o : Expr) (m : Str) (apos cpos : Pos) (args : List Expr) : Option SE :=
  if notCall o && (apos.endLine == cpos.line) && decide (args.length < 20) then match mtOp m args.length, r.e S o, cArgs r S args with
    | some b, some to, some tt => some (eBm b.T b.g to tt)
    | _, _, _ => none
  else none
theorem cCallM_ok {o : Expr} {m : Str} {apos cpos : Pos} {args : List Expr} {t : SE} (ro : RecOk r) (g : Good X G S) (h : cCallM r S o m apos cpos args = some t) : ME X G (.Call (.Attribute o m apos) args [] cpos) t := by
  unfold cCallM at h
  by_cases hb : (notCall o && (apos.endLine == cpos.line) && decide (args.length < 20)) = true
  · rw [if_pos hb] at h
    rw [Bool.and_eq_true, Bool.and_eq_true] at hb
    obtain ⟨⟨b1, b2⟩, b3⟩ := hb
    cases em : mtOp m args.length with
    | none => simp [em] at h
    | some b =>
      cases eo : r.e S o with
      | none => simp [em, eo] at h
      | some to =>
        cases ea : cArgs r S args with
        | none => simp [em, eo, ea] at h
        | some tt =>
          simp only [em, eo, ea, Option.some.injEq] at h
          subst h
          obtain ⟨pa, sl, ty, mr⟩ := mtOp_ok (X := X) (G := G) g em
          obtain ⟨h1, h2⟩ := cArgs_ok ro g ea
          cases args with
          | nil => cases ea; exact me_bm0 g.K pa sl ty mr (ro.e g eo) (attr_plain b1) b2
          | cons a es =>
            have h3 := h2
            simp only [List.all_cons, Bool.and_eq_true] at h3
            refine me_bm g.K pa sl ty mr (ro.e g eo) h1 (attr_plain b1) ?_ b2 (star_cons h3.1) (star_any h3.2)
            rw [star_all h2]
            have : (a :: es).length < 20 := of_decide_eq_true b3
            simp [keywordEach, backToKw] at this ⊢
            omega
  · rw [if_neg hb] at h; cases h

/-! ### targets -/
def cTgN (S : SEnv) (x : Str) : Option Tg := if locK S x && stoK S x then match idx S x with | some i => if noxB S [i] then some (.nm i) else none | none => none else none
def cTgs1 (S : SEnv) : List Expr → Option (List Tg)
  | [] => some []
  | .Name x _ :: es => match cTgN S x, cTgs1 S es with | some t, some ts => some (t :: ts) | _, _ => none
  | _ :: _ => none
def cTgs2 (S : SEnv) : List Expr → Option (List Tg)
  | [] => some []
  | .Name x _ :: es => match cTgN S x, cTgs2 S es with | some t, some ts => some (t :: ts) | _, _ => none
  | .Tuple es1 _ _ :: es => match cTgs1 S es1, cTgs2 S es with | some t, some ts => some (.tp t :: ts) | _, _ => none
  | _ :: _ => none
def cTg (S : SEnv) : Expr → Option Tg
  | .Name x _ => cTgN S x
  | .Tuple es _ _ => (cTgs2 S es).map .tp
  | _ => none
theorem cTgN_ok {x : Str} {pos : Pos} {t : Tg} (g : Good X G S) (h : cTgN S x = some t) : MG X G (.Name x pos) t := by
  unfold cTgN at h
  by_cases hb : (locK S x && stoK S x) = true
  · rw [if_pos hb] at h
    rw [Bool.and_eq_true] at hb
    cases e : idx S x with
    | none => rw [e] at h; cases h
    | some i =>
      simp only [e] at h
      by_cases hx : noxB S [i] = true
      · rw [if_pos hx] at h; cases h
        exact mg_name (by rw [g.N]; exact g.nd) (by rw [g.N]; exact idx_get e) (g.loc hb.1) (g.sto hb.2) (g.nox hx)
      · rw [if_neg hx] at h; cases h
  · rw [if_neg hb] at h; cases h
theorem cTgs1_ok (g : Good X G S) : ∀ {es : List Expr} {ts : List Tg}, cTgs1 S es = some ts → MGs X G es ts ∧ es.length = ts.length ∧ es.all notStar = true
  | [], ts, h => by cases h; exact ⟨mgs_nil, rfl, rfl⟩
  | e :: es, ts, h => by
    cases e <;> first
      | (simp [cTgs1] at h; done)
      | skip
    rename_i x pos
    simp only [cTgs1] at h
    cases e1 : cTgN S x with
    | none => simp [e1] at h
    | some t =>
      cases e2 : cTgs1 S es with
      | none => simp [e1, e2] at h
      | some ts2 =>
        simp only [e1, e2, Option.some.injEq] at h
        subst h
        obtain ⟨h1, h2, h3⟩ := cTgs1_ok g e2
        exact ⟨mgs_cons (cTgN_ok g e1) h1 (by rw [each_cons rfl]; rfl), by rw [List.length_cons, List.length_cons, h2], by simp [notStar, h3]⟩
theorem cTgs2_ok (g : Good X G S) : ∀ {es : List Expr} {ts : List Tg}, cTgs2 S es = some ts → MGs X G es ts ∧ es.length = ts.length ∧ es.all notStar = true
  | [], ts, h => by cases h; exact ⟨mgs_nil, rfl, rfl⟩
  | e :: es, ts, h => by
    cases e <;> first
      | (simp [cTgs2] at h; done)
      | skip
    · rename_i x pos
      simp only [cTgs2] at h
      cases e1 : cTgN S x with
      | none => simp [e1] at h
      | some t =>
        cases e2 : cTgs2 S es with
        | none => simp [e1, e2] at h
        | some ts2 =>
          simp only [e1, e2, Option.some.injEq] at h
          subst h
          obtain ⟨h1, h2, h3⟩ := cTgs2_ok g e2
          exact ⟨mgs_cons (cTgN_ok g e1) h1 (by rw [each_cons rfl]; rfl), by rw [List.length_cons, List.length_cons, h2], by simp [notStar, h3]⟩
    · rename_i es1 k pos
      simp only [cTgs2] at h
      cases e1 : cTgs1 S es1 with
      | none => simp [e1] at h
      | some t =>
        cases e2 : cTgs2 S es with
        | none => simp [e1, e2] at h
        | some ts2 =>
          simp only [e1, e2, Option.some.injEq] at h
          subst h
          obtain ⟨h1, h2, h3⟩ := cTgs2_ok g e2
          obtain ⟨q1, q2, q3⟩ := cTgs1_ok g e1
          obtain ⟨l1, l2⟩ := each_len (env := X.env) q3
          exact ⟨mgs_cons (mg_tup g.K g.calm q1 q2 l1 l2) h1 (by rw [each_cons rfl]; rfl), by rw [List.length_cons, List.length_cons, h2], by simp [notStar, h3]⟩
theorem cTg_ok {e : Expr} {t : Tg} (g : Good X G S) (h : cTg S e = some t) : MG X G e t := by
  cases e <;> first
    | (simp [cTg] at h; done)
    | skip
  · exact cTgN_ok g h
  · rename_i es k pos
    simp only [cTg] at h
    cases e1 : cTgs2 S es with
    | none => rw [e1] at h; cases h
    | some ts =>
      rw [e1] at h; cases h
      obtain ⟨q1, q2, q3⟩ := cTgs2_ok g e1
      obtain ⟨l1, l2⟩ := each_len (env := X.env) q3
      exact mg_tup g.K g.calm q1 q2 l1 l2

/-! ### what is walked -/
def isTup : Expr → Bool | .Tuple _ _ _ => true | _ => false
def cIt (r : Rec) (S : SEnv) (tg iter : Expr) : Option SI := match iter with
  | .Call (.Name f _) args [] _ =>
    if f = "range" then
      if isBlt S "range" then match args with
        | [a] => (cArgs r S [a]).map iRange1
        | [a, b] => (cArgs r S [a, b]).map iRange2
        | _ => none
      else none
    else if f = "enumerate" then
      if isBlt S "enumerate" && isTup tg then match args with
        | [a] => (cArgs r S [a]).map iEnum1
        | _ => none
      else none
    else (r.e S iter).map iSeq
  | _ => (r.e S iter).map iSeq
theorem cIt_ok {tg iter : Expr} {t : SI} (ro : RecOk r) (g : Good X G S) (h : cIt r S tg iter = some t) : MI X G tg iter t := by
  have plain : (r.e S iter).map iSeq = some t → MI X G tg iter t := fun h => by
    cases e : r.e S iter with
    | none => rw [e] at h; cases h
    | some te => rw [e] at h; cases h; exact mi_seq g.K (ro.e g e)
  unfold cIt at h
  split at h
  · rename_i f p args pos
    by_cases h1 : f = "range"
    · rw [if_pos h1] at h
      subst h1
      by_cases hb : isBlt S "range" = true
      · rw [if_pos hb] at h
        obtain ⟨g1, m1⟩ := isBlt_ok g hb
        split at h
        · rename_i a
          cases ea : cArgs r S [a] with
          | none => rw [ea] at h; cases h
          | some tt =>
            rw [ea] at h; cases h
            obtain ⟨q1, q2⟩ := cArgs_ok ro g ea
            simp only [List.all_cons, Bool.and_eq_true] at q2
            exact mi_range1 g1 m1 q1 (by rw [star_cons q2.1]; rfl)
        · rename_i a b
          cases ea : cArgs r S [a, b] with
          | none => rw [ea] at h; cases h
          | some tt =>
            rw [ea] at h; cases h
            obtain ⟨q1, q2⟩ := cArgs_ok ro g ea
            simp only [List.all_cons, Bool.and_eq_true] at q2
            exact mi_range2 g1 m1 q1 (by rw [star_cons q2.1, star_cons q2.2.1]; rfl) (by rw [star_cons q2.2.1]; rfl)
        · cases h
      · rw [if_neg hb] at h; cases h
    · rw [if_neg h1] at h
      by_cases h2 : f = "enumerate"
      · rw [if_pos h2] at h
        subst h2
        by_cases hb : (isBlt S "enumerate" && isTup tg) = true
        · rw [if_pos hb] at h
          rw [Bool.and_eq_true] at hb
          obtain ⟨g1, m1⟩ := isBlt_ok g hb.1
          split at h
          · rename_i a
            cases ea : cArgs r S [a] with
            | none => rw [ea] at h; cases h
            | some tt =>
              rw [ea] at h; cases h
              obtain ⟨q1, q2⟩ := cArgs_ok ro g ea
              simp only [List.all_cons, Bool.and_eq_true] at q2
              have ht := hb.2
              cases tg <;> first
                | (simp [isTup] at ht; done)
                | exact mi_enum g.K g1 m1 q1 (by rw [star_cons q2.1]; rfl)
          · cases h
        · rw [if_neg hb] at h; cases h
      · rw [if_neg h2] at h
        exact plain h
  · exact plain h
end
end DN

set_option maxHeartbeats 4000000
namespace DN
open PySem PySem.Spec L2
section
variable {X : Cx} {G : GC} {S : SEnv} {r : Rec}

/-! ### comprehensions -/
def scopeOf (S : SEnv) : Scope := ⟨.function, S.names, false, false, []⟩
def ownOf (S : SEnv) (scope : Scope) : List (Str × Nat) := scope.names.filterMap fun (n, k) => match k with
  | .local => (idx S n).map fun i => (n, i)
  | .cell => (idx S n).map fun i => (n, i)
  | _ => none
def blkS (S : SEnv) (scope : Scope) : SEnv :=
  { S with names := scope.names.map (fun (n, k) => if (k == NameKind.free && S.names.lookup n == some NameKind.cell) then (n, NameKind.cell) else (n, k)), fnall := false,
           fnl := scope.names.filterMap fun (n, _) => if scope.names.lookup n == some NameKind.cell then some n else none }
theorem blk_good (g : Good X G S) {scope : Scope} (hk : scope.kind = .function) (s : Shared) (H : Hp) (C : Addr) (cl : List (Str × Addr)) (fp : List Addr) : Good (X.blk s H scope (compEnvC scope cl C X.env) fp) G (blkS S scope) where
  P := g.P
  w := g.w
  K := g.K
  mg := g.mg
  base := g.base
  kind := hk
  names := by
    show (scope.names.map fun (n, k) => if (k == NameKind.free && X.env.scope.kind == ScopeKind.function && X.env.scope.names.lookup n == some NameKind.cell) then (n, NameKind.cell) else (n, k)) = _
    rw [g.kind, g.names]
    unfold blkS
    simp
  N := g.N
  nd := g.nd
  calm := g.calm
  room := g.room
  fn := fun x h => by
    have h : (blkS S scope).fnl.contains x = true := by
      have z : ((blkS S scope).fnall || (blkS S scope).fnl.contains x) = true := h
      have e : (blkS S scope).fnall = false := rfl
      rw [e, Bool.false_or] at z
      exact z
    show (scope.names.lookup x == some .cell) = true
    unfold blkS at h
    simp only [List.contains_eq_mem, decide_eq_true_eq, List.mem_filterMap] at h
    obtain ⟨⟨n, k⟩, _, h⟩ := h
    simp only at h
    split at h
    · rename_i hc; cases h; exact hc
    · cases h
  xn := g.xn
  g := g.g
def cLc (r : Rec) (S : SEnv) (elt tg iter : Expr) (ifs : List Expr) (scope : Scope) : Option SE :=
  match cIt r S tg iter, cTg (blkS S scope) tg, r.e (blkS S scope) elt, (match ifs with | [] => some cYes | [c] => r.c (blkS S scope) c | _ => none) with
  | some ti, some t, some te, some tt =>
    if blkC S.N (scopeOf S) scope (ownOf S scope) && notSet iter && (slotsT t).all (fun i => ((ownOf S scope).map (·.2)).contains i) && noxB S ((ownOf S scope).map (·.2)) then some (eLc ti t tt te ((ownOf S scope).map (·.2))) else none
  | _, _, _, _ => none
structure LcOk (X : Cx) (G : GC) (elt tg iter : Expr) (ifs : List Expr) (scope : Scope) (own : List (Str × Nat)) (ti : SI) (t : Tg) (tt : SC) (te : SE) : Prop where
  hi : MI X G tg iter ti
  ok : BlkOk X.N X.env.scope scope own
  hg : ∀ (s : Shared) (H : Hp) (C : Addr) (cl : List (Str × Addr)) (fp : List Addr), MG (X.blk s H scope (compEnvC scope cl C X.env) fp) G tg t
  ht : ∀ (s : Shared) (H : Hp) (C : Addr) (cl : List (Str × Addr)) (fp : List Addr), MTs (X.blk s H scope (compEnvC scope cl C X.env) fp) G ifs tt
  he : ∀ (s : Shared) (H : Hp) (C : Addr) (cl : List (Str × Addr)) (fp : List Addr), ME (X.blk s H scope (compEnvC scope cl C X.env) fp) G elt te
  hs : ∀ x, foldedSetIterable iter X.env x = pure x
  hsl : ∀ i ∈ slotsT t, i ∈ own.map (·.2)
  hx : NoX G (own.map (·.2))
theorem cLc_parts {elt tg iter : Expr} {ifs : List Expr} {scope : Scope} {t : SE} (ro : RecOk r) (g : Good X G S) (h : cLc r S elt tg iter ifs scope = some t) :
    ∃ ti tt te tgt, t = eLc ti tgt tt te ((ownOf S scope).map (·.2)) ∧ LcOk X G elt tg iter ifs scope (ownOf S scope) ti tgt tt te := by
  unfold cLc at h
  split at h
  · rename_i ti tgt te tt e1 e2 e3 e4
    split at h
    · rename_i hb
      cases h
      simp only [Bool.and_eq_true, List.all_eq_true, List.contains_eq_mem, decide_eq_true_eq] at hb
      obtain ⟨⟨⟨b1, b2⟩, b3⟩, b4⟩ := hb
      have hk : scope.kind = .function := (blkOk_by b1).kind
      refine ⟨ti, tt, te, tgt, rfl, cIt_ok ro g e1, ?_, fun s H C cl fp => cTg_ok (blk_good g hk s H C cl fp) e2, fun s H C cl fp => ?_, fun s H C cl fp => ro.e (blk_good g hk s H C cl fp) e3, fold_plain b2, b3, g.nox b4⟩
      · have q := blkOk_by b1
        refine ⟨q.kind, q.uniq, by rw [g.N]; exact q.ix, fun y hy e => ?_, fun y hy e => by rw [g.N]; exact q.own y hy e⟩
        rw [g.names]
        exact q.free y hy e
      · split at e4
        · cases e4; exact mts_nil
        · exact mts_one (ro.c (blk_good g hk s H C cl fp) e4)
        · cases e4
    · cases h
  · cases h
theorem cLc_ok {elt tg iter : Expr} {ifs : List Expr} {scope : Scope} {pos : Pos} {t : SE} (ro : RecOk r) (g : Good X G S) (h : cLc r S elt tg iter ifs scope = some t) : ME X G (.ListComp elt [⟨tg, iter, ifs, 0⟩] scope pos) t := by
  obtain ⟨ti, tt, te, tgt, rfl, L⟩ := cLc_parts ro g h
  exact me_lc g.calm (by rw [g.N]; exact g.nd) L.hi L.ok L.hg L.ht L.he L.hs L.hsl L.hx

/-! ### expressions -/
def cBoolV (r : Rec) (S : SEnv) (op : BoolOp) : List Expr → Option SE
  | [] => none
  | [a] => r.e S a
  | a :: b :: rest => match r.e S a, cBoolV r S op (b :: rest) with
    | some ta, some tb => match op with | .And => some (eAnd ta tb) | .Or => some (eOr ta tb)
    | _, _ => none
theorem cBoolV_ok {op : BoolOp} {pos : Pos} (ro : RecOk r) (g : Good X G S) : ∀ {es : List Expr} {t : SE}, cBoolV r S op es = some t → ME X G (.BoolOp op es pos) t
  | [], t, h => by cases h
  | [a], t, h => me_one (ro.e g h)
  | a :: b :: rest, t, h => by
    unfold cBoolV at h
    cases e1 : r.e S a with
    | none => simp [e1] at h
    | some ta =>
      cases e2 : cBoolV r S op (b :: rest) with
      | none => simp [e1, e2] at h
      | some tb =>
        simp only [e1, e2] at h
        cases op with
        | And => cases h; exact me_and g.K (ro.e g e1) (cBoolV_ok ro g e2)
        | Or => cases h; exact me_or g.K (ro.e g e1) (cBoolV_ok ro g e2)
def cPart (r : Rec) (S : SEnv) : Option Expr → Option SO
  | none => some oNo
  | some e => (r.e S e).map oSome
theorem cPart_ok {e : Option Expr} {t : SO} (ro : RecOk r) (g : Good X G S) (h : cPart r S e = some t) : MO X G e t := by
  cases e with
  | none => cases h; exact mo_none
  | some e =>
    unfold cPart at h
    cases e1 : r.e S e with
    | none => simp [e1] at h
    | some te => simp only [e1, Option.map_some, Option.some.injEq] at h; subst h; exact mo_some (ro.e g e1)
def stepE (r : Rec) (S : SEnv) : Expr → Option SE
  | .Name x _ => cName S x
  | .Constant c _ _ => cConst c
  | .BinOp a op b _ => match binOp op, r.e S a, r.e S b with | some f, some ta, some tb => some (eBin f ta tb) | _, _, _ => none
  | .UnaryOp .USub a _ => (r.e S a).map (eUn opNeg)
  | .UnaryOp .Not a _ => (r.e S a).map eNot
  | .Compare a [op] [b] _ => if notSet b then match r.e S a, r.e S b with | some ta, some tb => some (eBin (cmpOp op) ta tb) | _, _ => none else none
  | .Compare a [op, op'] [b, c] _ => if notSet c then match r.e S a, r.e S b, r.e S c with | some ta, some tb, some tc => some (eChain (cmpOp op) (cmpOp op') ta tb tc) | _, _, _ => none else none
  | .BoolOp op es _ => cBoolV r S op es
  | .IfExp c a b _ => match r.c S c, r.e S a, r.e S b with | some tc, some ta, some tb => some (eIf tc ta tb) | _, _, _ => none
  | .Tuple es _ _ => (cArgs r S es).map eTup
  | .List es _ => (cArgs r S es).map eLst
  | .Subscript a (.Slice lo hi none _) _ => match r.e S a, cPart r S lo, cPart r S hi with | some ta, some tl, some th => some (eSl ta tl th) | _, _, _ => none
  | .Subscript a b _ => if notSlice b then match r.e S a, r.e S b with | some ta, some tb => some (eBin opIx ta tb) | _, _ => none else none
  | .Call (.Name f _) args [] _ => cCallN r S f args
  | .Call (.Attribute o m apos) args [] cpos => cCallM r S o m apos cpos args
  | .ListComp elt [⟨tg, iter, ifs, 0⟩] scope _ => cLc r S elt tg iter ifs scope
  | _ => none
theorem stepE_ok {e : Expr} {t : SE} (ro : RecOk r) (g : Good X G S) (h : stepE r S e = some t) : ME X G e t := by
  unfold stepE at h
  split at h
  · exact cName_ok g h
  · exact cConst_ok h
  · split at h
    · rename_i e1 e2 e3; cases h; exact me_bin (binOp_ok g e1) (ro.e g e2) (ro.e g e3)
    · cases h
  · rename_i a _
    cases e : r.e S a with
    | none => rw [e] at h; cases h
    | some te => rw [e] at h; cases h; exact me_un ur_neg (ro.e g e)
  · rename_i a _
    cases e : r.e S a with
    | none => rw [e] at h; cases h
    | some te => rw [e] at h; cases h; exact me_not g.K (ro.e g e)
  · split at h
    · rename_i hb
      split at h
      · rename_i e1 e2; cases h; exact me_cmp (cmpOp_ok g) (ro.e g e1) (ro.e g e2) (mark_no hb)
      · cases h
    · cases h
  · split at h
    · rename_i hb
      split at h
      · rename_i e1 e2 e3; cases h; exact me_chain (cmpOp_ok g) (cmpOp_ok g) (ro.e g e1) (ro.e g e2) (ro.e g e3) (by show behindInMarks _ _ = false; exact mark_no hb)
      · cases h
    · cases h
  · exact cBoolV_ok ro g h
  · split at h
    · rename_i e1 e2 e3; cases h; exact me_ifExp (ro.c g e1) (ro.e g e2) (ro.e g e3)
    · cases h
  · rename_i es _ _
    cases e : cArgs r S es with
    | none => rw [e] at h; cases h
    | some tt => rw [e] at h; cases h; exact me_tup (cArgs_ok ro g e).1
  · rename_i es _
    cases e : cArgs r S es with
    | none => rw [e] at h; cases h
    | some tt => rw [e] at h; cases h; exact me_lst (cArgs_ok ro g e).1
  · split at h
    · rename_i e1 e2 e3; cases h; exact me_slice g.K (ro.e g e1) (cPart_ok ro g e2) (cPart_ok ro g e3)
    · cases h
  · split at h
    · rename_i hb
      split at h
      · rename_i e1 e2; cases h; exact me_ix (xr_ix g.K) (ro.e g e1) (ro.e g e2) (ix_plain hb)
      · cases h
    · cases h
  · exact cCallN_ok ro g h
  · exact cCallM_ok ro g h
  · exact cLc_ok ro g h
  · cases h

/-! ### tests -/
def cBoolT (r : Rec) (S : SEnv) (op : BoolOp) : List Expr → Option SC
  | [] => none
  | [a] => r.c S a
  | a :: b :: rest => match r.c S a, cBoolT r S op (b :: rest) with
    | some ta, some tb => match op with | .And => some (cAnd ta tb) | .Or => some (cOr ta tb)
    | _, _ => none
theorem cBoolT_ok {op : BoolOp} {pos : Pos} (ro : RecOk r) (g : Good X G S) : ∀ {es : List Expr} {t : SC}, cBoolT r S op es = some t → MW X G (.BoolOp op es pos) t
  | [], t, h => by cases h
  | [a], t, h => by
    cases op with
    | And => exact mw_and1 (ro.c g h)
    | Or => exact mw_or1 (ro.c g h)
  | a :: b :: rest, t, h => by
    unfold cBoolT at h
    cases e1 : r.c S a with
    | none => simp [e1] at h
    | some ta =>
      cases e2 : cBoolT r S op (b :: rest) with
      | none => simp [e1, e2] at h
      | some tb =>
        simp only [e1, e2] at h
        cases op with
        | And => cases h; exact mw_and (ro.c g e1) (cBoolT_ok ro g e2)
        | Or => cases h; exact mw_or (ro.c g e1) (cBoolT_ok ro g e2)
def stepC (r : Rec) (S : SEnv) : Expr → Option SC
  | .UnaryOp .Not a _ => (r.c S a).map cNot
  | .BoolOp op es _ => cBoolT r S op es
  | .Compare a [op] [b] _ => if notSet b then match r.e S a, r.e S b with | some ta, some tb => some (cB (eBin (cmpOp op) ta tb)) | _, _ => none else none
  | .Compare a [op, op'] [b, c] _ => if notSet c then match r.e S a, r.e S b, r.e S c with | some ta, some tb, some tc => some (cB (eChain (cmpOp op) (cmpOp op') ta tb tc)) | _, _, _ => none else none
  | e => if notTest e then (r.e S e).map cT else none
theorem stepC_ok {e : Expr} {t : SC} (ro : RecOk r) (g : Good X G S) (h : stepC r S e = some t) : MC X G e t := by
  unfold stepC at h
  split at h
  · rename_i a _
    cases e : r.c S a with
    | none => rw [e] at h; cases h
    | some te => rw [e] at h; cases h; exact mc_not (ro.c g e)
  · exact (cBoolT_ok ro g h).mc
  · split at h
    · rename_i hb
      split at h
      · rename_i e1 e2; cases h; exact mc_cmp (cmpOp_ok g) (ro.e g e1) (ro.e g e2) (mark_no hb)
      · cases h
    · cases h
  · split at h
    · rename_i hb
      split at h
      · rename_i e1 e2 e3; cases h; exact mc_chain (cmpOp_ok g) (cmpOp_ok g) (ro.e g e1) (ro.e g e2) (ro.e g e3) (by show behindInMarks _ _ = false; exact mark_no hb)
      · cases h
    · cases h
  · split at h
    · rename_i hb
      cases e1 : r.e S e with
      | none => rw [e1] at h; cases h
      | some te => rw [e1] at h; cases h; exact mc_tru g.K (ro.e g e1) (true_plain hb)
    · cases h

/-! ### statements -/
def cSs (r : Rec) (S : SEnv) : List Stmt → Option SS
  | [] => some sNop
  | [st] => r.s S st
  | st :: rest => match r.s S st, cSs r S rest with | some t, some u => some (sSeq t u) | _, _ => none
theorem cSs_ok (ro : RecOk r) (g : Good X G S) (hp : PassesOwn (model X.prog X.w) X.A X.env X.xe) : ∀ {sts : List Stmt} {t : SS}, cSs r S sts = some t → MSs X G sts t
  | [], t, h => by cases h; exact mss_nil
  | [st], t, h => mss_one (ro.s g hp h)
  | st :: st2 :: rest, t, h => by
    unfold cSs at h
    · cases e1 : r.s S st with
      | none => simp [e1] at h
      | some t1 =>
        cases e2 : cSs r S (st2 :: rest) with
        | none => simp [e1, e2] at h
        | some u =>
          simp only [e1, e2, Option.some.injEq] at h
          subst h
          exact mss_cons (ro.s g hp e1) (cSs_ok ro g hp e2)
def lcSw (S : SEnv) (y : Str) (py pos : Pos) (scope : Scope) : Bool := (match S.names.lookup y with | some .local => true | _ => false) && (py.line == pos.line) && !(scope.names.any fun (n, k) => n == y && (k == .local || k == .cell))
def cAsg (r : Rec) (S : SEnv) (tg value : Expr) : Option SS := match tg, value with
  | .Name y py, .ListComp elt [⟨ctg, iter, ifs, 0⟩] scope pos => if lcSw S y py pos scope then match cTgN S y, cLc r S elt ctg iter ifs scope with | some t, some te => some (sAsg te t) | _, _ => none else none
  | .Name y _, value => if notComp value then match cTgN S y, r.e S value with | some t, some te => some (sAsg te t) | _, _ => none else none
  | .Tuple es k p, value => if notComp value && notTup value then match cTg S (.Tuple es k p), r.e S value with | some t, some te => some (sAsg te t) | _, _ => none else none
  | .Subscript o i _, value => if notComp value && notSlice i then match r.e S o, r.e S i, r.e S value with | some to, some ti, some tv => some (sSet to ti tv) | _, _, _ => none else none
  | _, _ => none
theorem cTgN_nm {x : Str} {t : Tg} (g : Good X G S) (h : cTgN S x = some t) : ∃ i, t = .nm i ∧ S.N[i]? = some x ∧ L2.Loc X.env.scope x ∧ (X.fn x = true ∨ X.env.scope.names.lookup x = some .local) ∧ NoX G [i] := by
  unfold cTgN at h
  by_cases hb : (locK S x && stoK S x) = true
  · rw [if_pos hb] at h
    rw [Bool.and_eq_true] at hb
    cases e : idx S x with
    | none => rw [e] at h; cases h
    | some i =>
      simp only [e] at h
      by_cases hx : noxB S [i] = true
      · rw [if_pos hx] at h; cases h
        exact ⟨i, rfl, idx_get e, g.loc hb.1, g.sto hb.2, g.nox hx⟩
      · rw [if_neg hx] at h; cases h
  · rw [if_neg hb] at h; cases h
theorem cAsg_ok {tg value : Expr} {pos : Pos} {t : SS} (ro : RecOk r) (g : Good X G S) (h : cAsg r S tg value = some t) : MS X G (.Assign [tg] value pos) t := by
  unfold cAsg at h
  split at h
  · rename_i y py elt ctg iter ifs scope vpos
    split at h
    · rename_i hb
      unfold lcSw at hb
      simp only [Bool.and_eq_true, Bool.not_eq_true'] at hb
      obtain ⟨⟨b1, b2⟩, b3⟩ := hb
      split at h
      · rename_i t1 te e1 e2
        cases h
        obtain ⟨i, rfl, hi, hl, hs, hx⟩ := cTgN_nm g e1
        obtain ⟨ti, tt, te', tgt, rfl, L⟩ := cLc_parts ro g e2
        have hy : X.env.scope.names.lookup y = some .local := by
          rw [g.names]
          cases e : S.names.lookup y with
          | none => rw [e] at b1; cases b1
          | some k => rw [e] at b1; cases k <;> first | contradiction | rfl
        exact ms_setLc g.calm (by rw [g.N]; exact g.nd) (by rw [g.N]; exact hi) hy (sw_true g.kind hy b2 b3) L.hi L.ok L.hg L.ht L.he L.hs L.hsl L.hx hx
      · cases h
    · cases h
  · rename_i y py _
    split at h
    · rename_i hb
      split at h
      · rename_i t1 te e1 e2
        cases h
        obtain ⟨i, rfl, hi, hl, hs, hx⟩ := cTgN_nm g e1
        exact ms_set (by rw [g.N]; exact g.nd) (by rw [g.N]; exact hi) hl (ro.e g e2) (sw_plain hb) hs hx
      · cases h
    · cases h
  · split at h
    · rename_i hb
      rw [Bool.and_eq_true] at hb
      split at h
      · rename_i t1 te e1 e2
        cases h
        exact ms_asg (ro.e g e2) (cTg_ok g e1) (by unfold swapsWithSole; exact sw_plain hb.1) (stores_plain hb.2) rfl
      · cases h
    · cases h
  · rename_i o i p
    split at h
    · rename_i hb
      rw [Bool.and_eq_true] at hb
      split at h
      · rename_i to ti tv e1 e2 e3
        cases h
        refine ms_sub (ro.e g e3) (ro.e g e1) (ro.e g e2) (fun v => ?_) (by unfold swapsWithSole; exact sw_plain hb.1) ?_ rfl
        · have hi := hb.2
          cases i <;> first | rfl | contradiction
        · unfold swappedStores
          rfl
      · cases h
    · cases h
  · cases h
def stepS (r : Rec) (S : SEnv) : Stmt → Option SS
  | .Expr e _ => if notComp e then (r.e S e).map sEx else none
  | .Return none _ => some sRetN
  | .Return (some e) _ => (r.e S e).map sRet
  | .If c a b _ => match r.c S c, cSs r S a, cSs r S b with | some tc, some ta, some tb => some (sIf tc ta tb) | _, _, _ => none
  | .Assign [tg] value _ => cAsg r S tg value
  | .For tg iter body [] _ => if notSet iter then match cIt r S tg iter, cTg S tg, cSs r S body with | some ti, some g, some tb => some (sFor ti g tb) | _, _, _ => none else none
  | .While c body [] _ => match r.c S c, cSs r S body with | some tc, some tb => some (sWhile tc tb) | _, _ => none
  | .Pass _ => some sNop
  | .Break _ => some sBreak
  | .Continue _ => some sCont
  | _ => none
theorem stepS_ok {st : Stmt} {t : SS} (ro : RecOk r) (g : Good X G S) (hp : PassesOwn (model X.prog X.w) X.A X.env X.xe) (h : stepS r S st = some t) : MS X G st t := by
  unfold stepS at h
  split at h
  · rename_i e _
    split at h
    · rename_i hb
      cases e1 : r.e S e with
      | none => rw [e1] at h; cases h
      | some te => rw [e1] at h; cases h; exact ms_expr (ro.e g e1) (sw_plain hb)
    · cases h
  · cases h; exact ms_retN
  · rename_i e _
    cases e1 : r.e S e with
    | none => rw [e1] at h; cases h
    | some te => rw [e1] at h; cases h; exact ms_ret (ro.e g e1)
  · split at h
    · rename_i e1 e2 e3; cases h; exact ms_if (ro.c g e1) (cSs_ok ro g hp e2) (cSs_ok ro g hp e3)
    · cases h
  · exact cAsg_ok ro g h
  · split at h
    · rename_i hb
      split at h
      · rename_i e1 e2 e3; cases h; exact ms_for hp g.calm (cIt_ok ro g e1) (cTg_ok g e2) (cSs_ok ro g hp e3) (fold_plain hb)
      · cases h
    · cases h
  · split at h
    · rename_i e1 e2; cases h; exact ms_while hp (ro.c g e1) (cSs_ok ro g hp e2)
    · cases h
  · cases h; exact ms_pass
  · cases h; exact ms_break
  · cases h; exact ms_cont
  · cases h
end
def recN : Nat → Rec
  | 0 => ⟨fun _ _ => none, fun _ _ => none, fun _ _ => none⟩
  | n + 1 => ⟨stepE (recN n), stepC (recN n), stepS (recN n)⟩
theorem recN_ok : ∀ n, RecOk (recN n)
  | 0 => { e := fun _ h => (by cases h), c := fun _ h => (by cases h), s := fun _ _ h => (by cases h) }
  | n + 1 => ⟨fun g h => stepE_ok (recN_ok n) g h, fun g h => stepC_ok (recN_ok n) g h, fun g hp h => stepS_ok (recN_ok n) g hp h⟩
/-! ### defs -/
def senv (Γ : List (Str × GE)) (lv : Nat) (N : List Str) (sc : Scope) : SEnv := ⟨sc.names, N, true, [], lv, Γ, none⟩
/-- the reading of a def: its names N (the parameters first), the level of the defs that it calls -/
def cDef (Γ : List (Str × GE)) (lv : Nat) (N : List Str) (st : Stmt) : Option SS := cSs (recN 40) (senv Γ lv N (defScope st)) (defBody st)
theorem cDef_ok {G : GC} {Γ : List (Str × GE)} {lv : Nat} {x qual : Str} {st : Stmt} {f : Addr} {fd : FuncData} {N ps : List Str} {t : SS} (hx : G.xn = none) (hΓ : GOk G Γ) (F : Fun G.K x qual st f fd) (Sc : FnScope N ps (defScope st)) (h : cDef Γ lv N st = some t) :
    FnOk G.P G.w G.K G.mg G.base (CX G.P G.w) (lv + 1) f fd ps (LSp G (bodyF N.length t) ps.length) := by
  refine fn_body hx F Sc fun cdv A outer s H E hr => ?_
  refine cSs_ok (recN_ok 40) (S := senv Γ lv N (defScope st)) ?_ (passes_of rfl) h
  exact { P := rfl, w := rfl, K := rfl, mg := rfl, base := rfl, kind := Sc.kind, names := rfl, N := rfl, nd := Sc.nd, calm := rfl, room := hr, fn := fun _ _ => rfl, xn := fun n e => (by rw [hx] at e; cases e), g := hΓ }
end DN

set_option maxHeartbeats 4000000
/-! the ends: the law's promise over the script -/
namespace DN
open PySem PySem.Spec L2
theorem gok_nil {G : GC} : GOk G [] := fun x ge h => by cases h
theorem gok_cons {G : GC} {x : Str} {ge : GE} {Γ : List (Str × GE)} (h : GEok G x ge) (t : GOk G Γ) : GOk G ((x, ge) :: Γ) := fun y ge' e => by
  rw [List.lookup_cons] at e
  split at e
  · rename_i h1
    cases e
    rw [beq_iff_eq.mp h1]
    exact h
  · exact t y ge' e
theorem fn_bot {G : GC} {k n : Nat} {f : Addr} {fd : FuncData} {ps : List Str} : FnOk G.P G.w G.K G.mg G.base (CX G.P G.w) k f fd ps (LSp G (fun _ _ _ _ => False) n) :=
  ⟨fun vs H Q E h => by obtain ⟨_, _, _, _, _, _, _, _, h, _⟩ := h; exact h.elim, fun _ _ _ _ _ _ _ _ _ _ _ _ _ h => by obtain ⟨_, _, _, _, _, _, _, _, h, _⟩ := h; exact h.elim⟩
section
variable {G G0 : GC}
theorem RMem.re (hK : G.K = G0.K) (hc : G.cm = G0.cm) {H : Hp} {al : List Addr} {M : Mem} (m : RMem G H al M) : RMem G0 H al M :=
  ⟨m.nd, m.len, fun n o e => by rw [← hK, ← hc]; exact m.at_ n o e⟩
theorem Nxt.re (hK : G.K = G0.K) (hc : G.cm = G0.cm) {H H' : Hp} {al al' : List Addr} {M' : Mem} (n : Nxt G H al H' al' M') : Nxt G0 H al H' al' M' := ⟨n.p, n.k, n.m.re hK hc⟩
theorem lsp_re (hK : G.K = G0.K) (hc : G.cm = G0.cm) {F : Fn} {n : Nat} {vs : List V} {H : Hp} {Q : VK} {E : XK} (h : LSp G0 F n vs H Q E) : LSp G F n vs H Q E := by
  obtain ⟨al, M, ds, R, Ex, hl, m, r, hF, c, xc⟩ := h
  refine ⟨al, M, ds, R, Ex, hl, m.re hK.symm hc.symm, by rw [hK]; exact r, hF, fun H' al' M' v d n1 r1 h1 => c _ _ _ _ _ (n1.re hK hc) (by rw [← hK]; exact r1) h1, fun H' al' M' x cls dd n1 r1 h1 => xc _ _ _ _ _ _ (n1.re hK hc) (by rw [← hK, ← hc]; exact r1) h1⟩
end
theorem rmem_nil {G : GC} {H : Hp} : RMem G H [] [] := ⟨by simp, rfl, fun n o e => by simp at e⟩
theorem rints {K : PySem.W.Frag} {H : Hp} {al : List Addr} : ∀ ns : List Int, RDats K H al (ns.map D.int) (ns.map V.int)
  | [] => RDats.nil
  | n :: ns => RDats.cons (by rw [RDat]) (rints ns)
/-- the law's promise -/
abbrev lawG (P : Program) (w : World) (K : PySem.W.Frag) (cm : Str → Option Addr) : GC := ⟨P, w, K, fun _ => none, ({} : Heap), cm, none⟩
theorem sp_law {G : GC} {F : Fn} {n : Nat} (hF : ∀ ns : List Int, ns.length ≤ n → F [.con (ns.map D.int)] [] (fun d _ => d = .bl true) fun _ _ => False) {H : Hp} {a : Addr} {ns : List Int} (hl : ns.length ≤ n) (o : L2.Only H) (s : SqL G.K H a (ns.map V.int)) :
    LSp G F 1 [.ref a] H (fun v _ => v = .bl true) fun _ _ _ => False := by
  refine ⟨[], [], [.con (ns.map D.int)], fun d _ => d = .bl true, fun _ _ => False, rfl, rmem_nil, ?_, hF ns hl, fun H' al' M' v d n r e => ?_, fun _ _ _ _ _ _ _ _ h => h⟩
  · exact RDats.cons (by rw [RDat]; exact ⟨a, _, rfl, SqF.of o s, rints ns⟩) RDats.nil
  · subst e
    rw [RDat] at r
    exact r
theorem cx_end {P : Program} {w : World} {H : Hp} {s : Shared} {e : Value} {s' : Shared} (h : CX P w [] H s (fun _ _ _ => False) e s') : False := by
  obtain ⟨_, _, _, _, _, _, _, _, _, _, _, _, h⟩ := h
  exact h
end DN

set_option maxHeartbeats 4000000
/-! laws over readings: frames of the memory, loops, comprehensions, equality -/
namespace DN
open PySem PySem.Spec L2
/-- nothing but the cells S has changed, something may have come behind -/
structure Fr (S : List Nat) (M M' : Mem) : Prop where
  le : M.length ≤ M'.length
  eq : ∀ i, i < M.length → i ∉ S → M'[i]? = M[i]?
section
variable {S T : List Nat} {M M1 M2 M' : Mem} {n k : Nat} {xs ys : List D} {o : O}
theorem Fr.refl : Fr S M M := ⟨Nat.le_refl _, fun _ _ _ => rfl⟩
theorem Fr.trans (a : Fr S M M1) (b : Fr T M1 M2) (h : ∀ i ∈ T, i < M.length → i ∈ S) : Fr S M M2 :=
  ⟨Nat.le_trans a.le b.le, fun i hi hs => (b.eq i (Nat.lt_of_lt_of_le hi a.le) fun z => hs (h i z hi)).trans (a.eq i hi hs)⟩
theorem Fr.tr (a : Fr S M M1) (b : Fr S M1 M2) : Fr S M M2 := a.trans b fun _ h _ => h
theorem Fr.tr0 (a : Fr S M M1) (b : Fr [] M1 M2) : Fr S M M2 := a.trans b fun _ h => by cases h
theorem Fr.app {L : Mem} : Fr S M (M ++ L) := ⟨by simp, fun i hi _ => List.getElem?_append_left hi⟩
theorem Fr.set (a : Fr S M M1) (h : n ∈ S ∨ M.length ≤ n) : Fr S M (M1.set n o) :=
  ⟨by simpa using a.le, fun i hi hs => by
    rw [List.getElem?_set_ne]
    · exact a.eq i hi hs
    · intro e; subst e; rcases h with h | h
      · exact hs h
      · omega⟩
theorem Fr.mono (a : Fr S M M') (h : ∀ i ∈ S, i < M.length → i ∈ T) : Fr T M M' := ⟨a.le, fun i hi hs => a.eq i hi fun z => hs (h i z hi)⟩
theorem Fr.new (a : Fr [n] M M') (h : M.length ≤ n) : Fr [] M M' := a.mono fun i hi hl => by simp at hi; omega
theorem Fr.up (a : Fr [] M M') : Fr S M M' := a.mono fun _ h => by cases h
theorem mlst_lt (h : mlst M n = some xs) : n < M.length := (List.getElem?_eq_some_iff.mp (mlst_lst h)).1
theorem mlst_of (h : M[n]? = some (.lst xs)) : mlst M n = some xs := by unfold mlst; rw [h]
theorem Fr.lst (a : Fr S M M') (h : mlst M n = some xs) (hn : n ∉ S := by simp) : mlst M' n = some xs :=
  mlst_of (by rw [a.eq n (mlst_lt h) hn]; exact mlst_lst h)
theorem mlst_set (h : n < M.length) : mlst (M.set n (.lst xs)) n = some xs := mlst_of (by rw [List.getElem?_set_self h])
theorem mlst_setne (h : mlst M n = some xs) (hn : k ≠ n) : mlst (M.set k o) n = some xs := mlst_of (by rw [List.getElem?_set_ne hn]; exact mlst_lst h)
theorem mlst_new : mlst (M ++ [.lst xs]) M.length = some xs := mlst_of (by rw [List.getElem?_append_right (Nat.le_refl _), Nat.sub_self]; rfl)
theorem lstAt_of (h : mlst M n = some xs) : lstAt M n = some xs := by unfold lstAt; rw [mlst_lst h]
end
/-! ### loops -/
section
variable {ok : Mem → Prop} {tg : Tg} {b : SS} {De : SD}
theorem forL_map {α : Type} (enc : α → D) (I : List α → Env → Mem → Prop) (hok : ∀ r ρ M, I r ρ M → ok M)
    (h1 : ∀ x r ρ M (Kn : Env → Mem → Prop), I (x :: r) ρ M → (∀ ρ M, I r ρ M → Kn ρ M) → ∃ ρ1, asgD tg (enc x) ρ = some ρ1 ∧ b (De.lp Kn) ρ1 M)
    (h0 : ∀ ρ M, I [] ρ M → De.nx ρ M) : ∀ (xs : List α) (ρ : Env) (M : Mem), I xs ρ M → forL ok tg b De (xs.map enc) ρ M
  | [], ρ, M, h => ⟨hok _ _ _ h, h0 ρ M h⟩
  | x :: r, ρ, M, h => by
    obtain ⟨ρ1, e, q⟩ := h1 x r ρ M (forL ok tg b De (r.map enc)) h (forL_map enc I hok h1 h0 r)
    rw [List.map_cons]
    refine ⟨hok _ _ _ h, ?_⟩
    rw [e]
    exact q
theorem forL_ix (I : Nat → Env → Mem → Prop) (ds : List D) (hok : ∀ i ρ M, I i ρ M → ok M)
    (h1 : ∀ i d ρ M (Kn : Env → Mem → Prop), ds[i]? = some d → I i ρ M → (∀ ρ M, I (i + 1) ρ M → Kn ρ M) → ∃ ρ1, asgD tg d ρ = some ρ1 ∧ b (De.lp Kn) ρ1 M)
    (h0 : ∀ ρ M, I ds.length ρ M → De.nx ρ M) (ρ : Env) (M : Mem) (h : I 0 ρ M) : forL ok tg b De ds ρ M := by
  have key : ∀ (r : List D) (i : Nat) (ρ : Env) (M : Mem), (∀ j, r[j]? = ds[i + j]?) → i + r.length = ds.length → I i ρ M → forL ok tg b De r ρ M := by
    intro r
    induction r with
    | nil => intro i ρ M _ hl h; exact ⟨hok _ _ _ h, h0 ρ M (by rw [← hl]; exact h)⟩
    | cons x r ih =>
      intro i ρ M hr hl h
      obtain ⟨ρ1, e, q⟩ := h1 i x ρ M (forL ok tg b De r) (by have := hr 0; simpa using this.symm) h (fun ρ M h => ih (i + 1) ρ M (fun j => by have := hr (j + 1); rw [show i + 1 + j = i + (j + 1) by omega, ← this]; simp) (by rw [← hl, List.length_cons]; omega) h)
      refine ⟨hok _ _ _ h, ?_⟩
      rw [e]
      exact q
  exact key ds 0 ρ M (fun j => by simp) (by simp) h
end
theorem rngD_len {lo : Int} {n : Nat} : (rngD lo n).length = n := by simp [rngD]
theorem enumD_len : ∀ {xs : List D} {k : Int}, (enumD k xs).length = xs.length
  | [], _ => rfl
  | x :: r, k => by simp [enumD, enumD_len (xs := r)]
/-! ### comprehensions -/
section
variable {ok : Mem → Prop} {tg : Tg} {tt : SC} {te : SE} {n : Nat} {ρ : Env} {Kn : Mem → Prop}
theorem lcL_inv (I : Nat → Mem → Prop) (ds : List D) (hok : ∀ i M, I i M → ok M)
    (h1 : ∀ i d M (Kc : Mem → Prop), ds[i]? = some d → I i M → (∀ M, I (i + 1) M → Kc M) → ∃ ρ1, asgD tg d ρ = some ρ1 ∧ tt noX ρ1 M fun b M2 => match b with
      | true => te noX ρ1 M2 fun y M3 => match mlst M3 n with
        | some acc => acc.length < sizeLine ∧ Kc (M3.set n (.lst (acc ++ [y])))
        | none => False
      | false => Kc M2)
    (h0 : ∀ M, I ds.length M → Kn M) (M : Mem) (h : I 0 M) : lcL ok tg tt te n ρ ds M Kn := by
  have key : ∀ (r : List D) (i : Nat) (M : Mem), (∀ j, r[j]? = ds[i + j]?) → i + r.length = ds.length → I i M → lcL ok tg tt te n ρ r M Kn := by
    intro r
    induction r with
    | nil => intro i M _ hl h; exact ⟨hok _ _ h, h0 M (by rw [← hl]; exact h)⟩
    | cons x r ih =>
      intro i M hr hl h
      obtain ⟨ρ1, e, q⟩ := h1 i x M (fun M => lcL ok tg tt te n ρ r M Kn) (by have := hr 0; simpa using this.symm) h (fun M h => ih (i + 1) M (fun j => by have := hr (j + 1); rw [show i + 1 + j = i + (j + 1) by omega, ← this]; simp) (by rw [← hl, List.length_cons]; omega) h)
      refine ⟨hok _ _ h, ?_⟩
      rw [e]
      exact q
  exact key ds 0 M (fun j => by simp) (by simp) h
/-- a comprehension that changes nothing -/
theorem lcL_pure {α : Type} (enc : α → D) (p : α → Bool) (g : α → D) {M0 : Mem} (hn : n < M0.length) (xs : List α) (hok : ∀ M, Fr [n] M0 M → ok M)
    (h : ∀ x M (Kt : KD) (Kf : Mem → Prop), x ∈ xs → Fr [n] M0 M → (p x = true → ∀ M3, Fr [] M M3 → Kt (g x) M3) → (p x = false → ∀ M2, Fr [] M M2 → Kf M2) →
      ∃ ρ1, asgD tg (enc x) ρ = some ρ1 ∧ tt noX ρ1 M fun b M2 => match b with | true => te noX ρ1 M2 Kt | false => Kf M2)
    {acc : List D} (ha : mlst M0 n = some acc) (hl : acc.length + xs.length ≤ sizeLine) (hK : ∀ M', Fr [n] M0 M' → mlst M' n = some (acc ++ (xs.filter p).map g) → Kn M') : lcL ok tg tt te n ρ (xs.map enc) M0 Kn := by
  have key : ∀ (r : List α) (acc : List D) (M : Mem), (∀ x ∈ r, x ∈ xs) → Fr [n] M0 M → mlst M n = some acc → acc.length + r.length ≤ sizeLine → (∀ M', Fr [n] M0 M' → mlst M' n = some (acc ++ (r.filter p).map g) → Kn M') → lcL ok tg tt te n ρ (r.map enc) M Kn := by
    intro r
    induction r with
    | nil => intro acc M _ fr hm _ k; exact ⟨hok M fr, k M fr (by simpa using hm)⟩
    | cons x r ih =>
      intro acc M hs fr hm hl k
      rw [List.length_cons] at hl
      obtain ⟨ρ1, e, q⟩ := h x M (fun y M3 => match mlst M3 n with
        | some acc => acc.length < sizeLine ∧ lcL ok tg tt te n ρ (r.map enc) (M3.set n (.lst (acc ++ [y]))) Kn
        | none => False) (fun M2 => lcL ok tg tt te n ρ (r.map enc) M2 Kn) (hs x (by simp)) fr
        (fun hp M3 f3 => by
          have m3 := f3.lst hm
          simp only [m3]
          refine ⟨by omega, ih (acc ++ [g x]) _ (fun y hy => hs y (by simp [hy])) ((fr.tr0 f3).set (.inl (by simp))) (mlst_set (mlst_lt m3)) (by simp; omega) fun M' f' m' => k M' f' ?_⟩
          rw [m']; simp [List.filter_cons, hp])
        (fun hp M2 f2 => ih acc M2 (fun y hy => hs y (by simp [hy])) (fr.tr0 f2) (f2.lst hm) (by omega) fun M' f' m' => k M' f' (by rw [m']; simp [List.filter_cons, hp]))
      rw [List.map_cons]
      refine ⟨hok M fr, ?_⟩
      rw [e]
      exact q
  exact key xs acc M0 (fun _ h => h) Fr.refl ha hl hK
end
/-! ### equality -/
theorem eqS {x y : Str} : eqD (.str x) (.str y) = decide (x = y) := by
  show (x == y) = _
  exact Bool.beq_eq_decide_eq x y
theorem eqI {i j : Int} : eqD (.int i) (.int j) = decide (i = j) := Bool.beq_eq_decide_eq i j
mutual
theorem eqD_refl : ∀ d : D, noref d = true → eqD d d = true
  | .non, _ => rfl
  | .bl b, _ => by simp [eqD]
  | .int i, _ => by simp [eqD]
  | .str x, _ => by simp [eqD]
  | .tup xs, h => by
    show eqL xs xs = true
    exact eqL_refl xs (by simpa [noref] using h)
  | .ref _, h => by simp [noref] at h
  | .con _, h => by simp [noref] at h
theorem eqL_refl : ∀ ds : List D, norefs ds = true → eqL ds ds = true
  | [], _ => rfl
  | d :: ds, h => by
    simp only [norefs, Bool.and_eq_true] at h
    simp [eqL, eqD_refl d h.1, eqL_refl ds h.2]
end
theorem eqM_tup {xs ys : List D} {M : Mem} {R : Bool → Prop} (h1 : norefs xs = true) (h2 : norefs ys = true) (h3 : (toPy (.tup xs)).depth ≤ 64) (k : R (eqL xs ys)) : eqM (.tup xs) (.tup ys) M R := by
  unfold eqM
  have e1 : pyM M (.tup xs) = some (toPy (.tup xs)) := by simp [pyM, noref, h1]
  have e2 : pyM M (.tup ys) = some (toPy (.tup ys)) := by simp [pyM, noref, h2]
  have e3 : PyData.eqv (toPy (.tup xs)) (toPy (.tup ys)) = eqL xs ys := eqv_toPy (.tup xs) (.tup ys) (by simpa [noref] using h1) (by simpa [noref] using h2)
  simp only [scalD, e1, e2]
  exact ⟨Nat.le_trans (Nat.min_le_left _ _) h3, by rw [e3]; exact k⟩
/-! texts in a row -/
def txs : List D → Bool
  | [] => true
  | .str _ :: r => txs r
  | _ => false
theorem txs_norefs : ∀ {ds : List D}, txs ds = true → norefs ds = true
  | [], _ => rfl
  | d :: r, h => by
    cases d <;> first
      | (simp only [txs] at h; simp [norefs, noref, txs_norefs h]; done)
      | (simp [txs] at h; done)
theorem txs_depth : ∀ {ds : List D}, txs ds = true → PyData.depthAll (toPys ds) = 0
  | [], _ => rfl
  | d :: r, h => by
    cases d <;> first
      | (simp only [txs] at h; simp [toPys, toPy, PyData.depthAll, PyData.depth, txs_depth h]; done)
      | (simp [txs] at h; done)
theorem txs_eq : ∀ {xs ys : List D}, txs xs = true → txs ys = true → (eqL xs ys = true ↔ xs = ys)
  | [], [], _, _ => by simp [eqL]
  | [], _ :: _, _, _ => by simp [eqL]
  | _ :: _, [], _, _ => by simp [eqL]
  | x :: xs, y :: ys, h1, h2 => by
    cases x <;> cases y <;> first
      | (simp only [txs] at h1 h2; simp [eqL, eqD, txs_eq h1 h2]; done)
      | (simp [txs] at h1; done)
      | (simp [txs] at h2; done)
theorem txs_app {xs ys : List D} (h1 : txs xs = true) (h2 : txs ys = true) : txs (xs ++ ys) = true := by
  induction xs with
  | nil => exact h2
  | cons d r ih => cases d <;> first | (simp only [txs] at h1; simp [txs, ih h1]; done) | (simp [txs] at h1; done)
theorem txs_iff {ds : List D} : txs ds = true ↔ ∀ d ∈ ds, ∃ x, d = .str x := by
  induction ds with
  | nil => simp [txs]
  | cons d r ih => cases d <;> simp [txs, ih]
theorem txs_drop {xs : List D} {n : Nat} (h : txs xs = true) : txs (xs.drop n) = true := txs_iff.mpr fun d hd => txs_iff.mp h d (List.mem_of_mem_drop hd)
theorem txs_take {xs : List D} {n : Nat} (h : txs xs = true) : txs (xs.take n) = true := txs_iff.mpr fun d hd => txs_iff.mp h d (List.mem_of_mem_take hd)
theorem eqM_txs {xs ys : List D} {M : Mem} {R : Bool → Prop} (h1 : txs xs = true) (h2 : txs ys = true) (k : ∀ b, (b = true ↔ xs = ys) → R b) : eqM (.tup xs) (.tup ys) M R :=
  eqM_tup (txs_norefs h1) (txs_norefs h2) (by simp [toPy, PyData.depth, txs_depth h1]) (k _ (txs_eq h1 h2))
/-! places -/
theorem ixN_nat {n j : Nat} {i : Int} (h : i = j) (hl : j < n) : ixN n i = some j := by
  subst h; unfold ixN; rw [if_pos (by omega), if_pos (by omega)]; simp
theorem atI_int {α : Type} {xs : List α} {i : Int} (h0 : 0 ≤ i) (h1 : i < xs.length) : ∃ d, atI xs i = some d ∧ xs[i.toNat]? = some d := by
  have hl : i.toNat < xs.length := by omega
  refine ⟨xs[i.toNat], ?_, List.getElem?_eq_getElem hl⟩
  unfold atI
  rw [ixN_nat (j := i.toNat) (by omega) hl]
  exact List.getElem?_eq_getElem hl
theorem atI_get {α : Type} {xs : List α} {i : Int} {j : Nat} {d : α} (h : i = j) (h1 : xs[j]? = some d) : atI xs i = some d := by
  unfold atI
  rw [ixN_nat h (List.getElem?_eq_some_iff.mp h1).1]
  exact h1
theorem atI_end {xs : List D} {d : D} : atI (xs ++ [d]) (-1) = some d := L2.atI_last _ _
theorem ixM_lst {M : Mem} {n : Nat} {xs : List D} {i : Int} {d : D} {R : D → Prop} (h : mlst M n = some xs) (e : atI xs i = some d) (k : R d) : ixM (.ref n) (.int i) M R := by
  unfold ixM; simp only [lstAt_of h, e]; exact k
theorem sIx_lo {n : Nat} {i : Int} (h : 0 ≤ i) : HT.sIx n 0 (some i) = min i.toNat n := by
  obtain ⟨j, rfl⟩ := Int.eq_ofNat_of_zero_le h
  simpa using HT.sIx_nat n 0 j
end DN
namespace DN
open PySem PySem.Spec L2
section
variable {M : Mem} {n : Nat} {xs : List D} {y : D} {R : KD}
theorem rcv_lst (h : mlst M n = some xs) : rcv "list" (.ref n) M := by unfold rcv; simp only [mlst_lst h]
theorem mAppend_ok (h : mlst M n = some xs) (hl : xs.length < sizeLine) (k : R .non (M.set n (.lst (xs ++ [y])))) : mAppend (.ref n) [y] M R := by
  unfold mAppend; simp only [h]; exact ⟨hl, k⟩
theorem cnTuple_ok (h : mlst M n = some xs) (k : R (.tup xs) M) : cnTuple [.ref n] M R := by
  unfold cnTuple; simp only [lstAt_of h]; exact k
theorem cnList_ok (h : mlst M n = some xs) (k : R (.ref M.length) (M ++ [.lst xs])) : cnList [.ref n] M R := by
  unfold cnList; simp only [lstAt_of h]; exact k
theorem cnLen_ok (h : mlst M n = some xs) (k : R (.int xs.length) M) : cnLen [.ref n] M R := by
  unfold cnLen; simp only [lstAt_of h]; exact k
theorem opIx_tup {i : Int} {d : D} (e : atI xs i = some d) (k : R d M) : opIx (.tup xs) (.int i) M R := by
  unfold opIx ixM; simp only [e]; exact k
theorem opIx_con {i : Int} {d : D} (e : atI xs i = some d) (k : R d M) : opIx (.con xs) (.int i) M R := by
  unfold opIx ixM; simp only [e]; exact k
theorem opIx_lst {i : Int} {d : D} (h : mlst M n = some xs) (e : atI xs i = some d) (k : R d M) : opIx (.ref n) (.int i) M R := ixM_lst h e k
theorem setM_of {i : Int} {j : Nat} {R : Mem → Prop} (h : mlst M n = some xs) (e : ixN xs.length i = some j) (k : R (M.set n (.lst (xs.set j y)))) : setM (.ref n) (.int i) y M R := by
  unfold setM; simp only [h, e]; exact k
theorem intsD_map : ∀ ns : List Int, intsD (ns.map D.int) = some ns
  | [] => rfl
  | n :: ns => by simp [intsD, intsD_map ns]
theorem cnSum_ok {ns : List Int} (h : mlst M n = some (ns.map D.int)) (k : R (.int ns.sum) M) : cnSum [.ref n] M R := by
  unfold cnSum; simp only [lstAt_of h, Option.bind_some, intsD_map]; exact k
end
end DN
namespace DN
open PySem PySem.Spec L2
section
variable {ok : Mem → Prop} {tg : Tg} {b : SS} {De : SD}
theorem forL_en {α : Type} (enc : α → D) (I : List α → List α → Env → Mem → Prop) (hok : ∀ p r ρ M, I p r ρ M → ok M)
    (h1 : ∀ p x r ρ M (Kn : Env → Mem → Prop), I p (x :: r) ρ M → (∀ ρ M, I (p ++ [x]) r ρ M → Kn ρ M) → ∃ ρ1, asgD tg (.tup [.int p.length, enc x]) ρ = some ρ1 ∧ b (De.lp Kn) ρ1 M)
    (h0 : ∀ p ρ M, I p [] ρ M → De.nx ρ M) (xs : List α) (ρ : Env) (M : Mem) (h : I [] xs ρ M) : forL ok tg b De (enumD 0 (xs.map enc)) ρ M := by
  have key : ∀ (r p : List α) (k : Int) (ρ : Env) (M : Mem), k = p.length → I p r ρ M → forL ok tg b De (enumD k (r.map enc)) ρ M := by
    intro r
    induction r with
    | nil => intro p k ρ M _ h; exact ⟨hok _ _ _ _ h, h0 p ρ M h⟩
    | cons x r ih =>
      intro p k ρ M hk h
      obtain ⟨ρ1, e, q⟩ := h1 p x r ρ M (forL ok tg b De (enumD (k + 1) (r.map enc))) h (fun ρ M h => ih (p ++ [x]) (k + 1) ρ M (by rw [hk]; simp) h)
      show ok M ∧ _
      refine ⟨hok _ _ _ _ h, ?_⟩
      rw [hk, e]
      rw [hk] at q
      exact q
  exact key xs [] 0 ρ M rfl h
end
section
variable {ok : Mem → Prop} {tg : Tg} {tt : SC} {te : SE} {n : Nat} {ρ : Env} {Kn : Mem → Prop}
/-- a comprehension over enumerate that changes nothing -/
theorem lcL_en {α : Type} (enc : α → D) (g : List α → α → D) {M0 : Mem} (hn : n < M0.length) (xs : List α) (hok : ∀ M, Fr [n] M0 M → ok M)
    (res : List α → List D) (hres : ∀ p x, res (p ++ [x]) = res p ++ [g p x])
    (h : ∀ p x r M (Kt : KD), xs = p ++ x :: r → Fr [n] M0 M → (∀ M3, Fr [] M M3 → Kt (g p x) M3) →
      ∃ ρ1, asgD tg (.tup [.int p.length, enc x]) ρ = some ρ1 ∧ tt noX ρ1 M fun b M2 => match b with | true => te noX ρ1 M2 Kt | false => False)
    {acc : List D} (ha : mlst M0 n = some (acc ++ res [])) (hl : (acc ++ res []).length + xs.length ≤ sizeLine) (hK : ∀ M', Fr [n] M0 M' → mlst M' n = some (acc ++ res xs) → Kn M')
    (mono : ∀ ρ M (f f' : Bool → Mem → Prop), (∀ b M2, f b M2 → f' b M2) → tt noX ρ M f → tt noX ρ M f') : lcL ok tg tt te n ρ (enumD 0 (xs.map enc)) M0 Kn := by
  have key : ∀ (r p : List α) (k : Int) (M : Mem), k = p.length → xs = p ++ r → Fr [n] M0 M → mlst M n = some (acc ++ res p) → (acc ++ res p).length + r.length ≤ sizeLine → lcL ok tg tt te n ρ (enumD k (r.map enc)) M Kn := by
    intro r
    induction r with
    | nil => intro p k M _ e fr hm _; exact ⟨hok M fr, hK M fr (by rw [e]; simpa using hm)⟩
    | cons x r ih =>
      intro p k M hk e fr hm hl
      rw [List.length_cons] at hl
      obtain ⟨ρ1, e1, q⟩ := h p x r M (fun y M3 => match mlst M3 n with
        | some acc => acc.length < sizeLine ∧ lcL ok tg tt te n ρ (enumD (k + 1) (r.map enc)) (M3.set n (.lst (acc ++ [y]))) Kn
        | none => False) e fr
        (fun M3 f3 => by
          have m3 := f3.lst hm
          simp only [m3]
          refine ⟨by omega, ih (p ++ [x]) (k + 1) _ (by rw [hk]; simp) (by rw [e]; simp) ((fr.tr0 f3).set (.inl (by simp))) (by rw [mlst_set (mlst_lt m3), hres, List.append_assoc]) (by rw [hres]; simp only [List.length_append, List.length_cons, List.length_nil] at hl ⊢; omega)⟩)
      show ok M ∧ _
      refine ⟨hok M fr, ?_⟩
      rw [hk, e1]
      rw [hk] at q
      refine mono ρ1 M _ _ (fun b M2 h => ?_) q
      cases b with
      | true => exact h
      | false => exact h.elim
  exact key xs [] 0 M0 rfl rfl Fr.refl ha hl
end
end DN
namespace DN
theorem bm {b : Bool} {A B : Prop} (h1 : b = true → A) (h2 : b = false → B) : (match (generalizing := false) b with | true => A | false => B) := by cases b <;> simp_all
theorem sz {n : Nat} (h : Nat.ble n 1000 = true) : n ≤ PySem.sizeLine := Nat.le_trans (Nat.le_of_ble_eq_true h) (by decide)
end DN
namespace DN
open PySem PySem.Spec L2
section
variable {M : Mem} {xs ys : List D}
theorem pyM_tup (h : norefs xs = true) : pyM M (.tup xs) = some (.tuple (toPys xs)) := by simp [pyM, noref, h, toPy]
theorem pyM_txs (h : txs xs = true) : pyM M (.tup xs) = some (.tuple (toPys xs)) := pyM_tup (txs_norefs h)
theorem dep_txs {p : PyData} (h : txs xs = true) : min (PyData.tuple (toPys xs)).depth p.depth ≤ 64 := Nat.le_trans (Nat.min_le_left _ _) (by simp [PyData.depth, txs_depth h])
theorem eqv_tup (h1 : norefs xs = true) (h2 : norefs ys = true) : PyData.eqv (.tuple (toPys xs)) (.tuple (toPys ys)) = eqL xs ys := eqv_toPy (.tup xs) (.tup ys) (by simpa [noref] using h1) (by simpa [noref] using h2)
theorem eqv_txs (h1 : txs xs = true) (h2 : txs ys = true) : ∃ b, PyData.eqv (.tuple (toPys xs)) (.tuple (toPys ys)) = b ∧ (b = true ↔ xs = ys) := ⟨_, eqv_tup (txs_norefs h1) (txs_norefs h2), txs_eq h1 h2⟩
end
end DN
namespace DN
theorem cm {b : Bool} {A B : Prop} (h1 : b = true → A) (h2 : b = false → B) : (match (generalizing := false) D.bl b with | .bl true => A | .bl false => B | _ => False) := by cases b <;> simp_all
end DN
namespace DN
/-- a def's reading, shut -/
theorem op (F : Fn) : ∃ F', F' = F := ⟨F, rfl⟩
end DN

set_option maxHeartbeats 0
namespace K28
open PySem PySem.Spec L2 DN
/-- _law_pool: 0 script, 1 k, 2 cell, 3 number, 4 total, 5 turn -/
def b_law_pool_1 : SS := (sSeq (sAsg (eBin opMod (eCallB cnInt (aCons (eBin opAdd (eBin opAdd (eBin opAdd (eBin opMul (eVar 3) (eC (.int 48271))) (eBin opMul (eC (.int 11)) (eVar 5))) (eVar 1)) (eC (.int 1))) aNil)) (eC (.int 2147483647))) (.nm 3))
  (sSeq (sAsg (eBin opMod (eCallB cnInt (aCons (eBin opAdd (eBin opAdd (eBin opMul (eVar 3) (eVar 3)) (eBin opMul (eC (.int 69621)) (eVar 5))) (eC (.int 5))) aNil)) (eC (.int 2147483399))) (.nm 3))
  (sAsg (eBin opAdd (eBin opMul (eVar 4) (eC (.int 2147483399))) (eVar 3)) (.nm 4))))
def r_law_pool_2 : SS := (sSeq (sIf (cAnd (cB (eBin opLt (eVar 1) (eCallB cnLen (aCons (eVar 0) aNil)))) (cB (eBin opGe (eVar 2) (eBin opPow (eC (.int 10)) (eC (.int 18)))))) (sRet (eLst (aCons (eVar 2) aNil))) sNop)
  (sSeq (sAsg (eBin opMod (eCallB cnInt (aCons (eBin opAdd (eVar 2) (eBin opMul (eC (.int 1009)) (eVar 1))) aNil)) (eC (.int 2147483647))) (.nm 3))
  (sSeq (sAsg (eC (.int 0)) (.nm 4))
  (sSeq (sFor (iRange1 (aCons (eC (.int 10)) aNil)) (.nm 5) (b_law_pool_1))
  (sRet (eLst (aCons (eVar 4) aNil)))))))
def t_law_pool : SS := (sSeq (sAsg (eC (.int 0)) (.nm 2))
  (sSeq (sIf (cB (eBin opGt (eCallB cnLen (aCons (eVar 0) aNil)) (eC (.int 0)))) (sAsg (eBin opMod (eCallB cnInt (aCons (eBin opIx (eVar 0) (eBin opMod (eCallB cnInt (aCons (eVar 1) aNil)) (eCallB cnLen (aCons (eVar 0) aNil)))) aNil)) (eBin opMul (eBin opPow (eC (.int 10)) (eC (.int 60))) (eBin opPow (eC (.int 10)) (eC (.int 30))))) (.nm 2)) sNop)
  (r_law_pool_2)))
/-- _law_draw: 0 pool, 1 count, 2 value -/
def t_law_draw : SS := (sSeq (sAsg (eBin opMod (eCallB cnInt (aCons (eBin opIx (eVar 0) (eC (.int 0))) aNil)) (eVar 1)) (.nm 2))
  (sSeq (sSet (eVar 0) (eC (.int 0)) (eBin opDiv (eCallB cnInt (aCons (eBin opIx (eVar 0) (eC (.int 0))) aNil)) (eVar 1)))
  (sRet (eVar 2))))
/-- _law_line: 0 pool, 1 plain, 2 signs, 3 size, 4 n -/
def t_law_line (F_law_draw : Fn) : SS := (sSeq (sIf (cT (eVar 1)) (sRet (eBin opIx (eLst (aCons (eC (.str "a")) (aCons (eC (.str "b")) (aCons (eC (.str "")) (aCons (eC (.str "a b")) (aCons (eC (.str "c")) (aCons (eC (.str "aa")) aNil))))))) (eCall F_law_draw (aCons (eVar 0) (aCons (eC (.int 6)) aNil))))) sNop)
  (sSeq (sAsg (eC (.str " !\"#$&'()*+,-./0123456789:;<=>?@ABCDEFGHIJKLMNOPQRSTUVWXYZ[\\]^_`")) (.nm 2))
  (sSeq (sAsg (eBin opAdd (eVar 2) (eC (.str "abcdefghijklmnopqrstuvwxyz{|}~"))) (.nm 2))
  (sSeq (sAsg (eBin opIx (eLst (aCons (eC (.int 0)) (aCons (eC (.int 1)) (aCons (eC (.int 1)) (aCons (eC (.int 2)) (aCons (eC (.int 3)) (aCons (eC (.int 40)) aNil))))))) (eCall F_law_draw (aCons (eVar 0) (aCons (eC (.int 6)) aNil)))) (.nm 3))
  (sSeq (sIf (cB (eBin opEq (eVar 3) (eC (.int 40)))) (sRet (eBin opMul (eBin opIx (eVar 2) (eCall F_law_draw (aCons (eVar 0) (aCons (eC (.int 94)) aNil)))) (eC (.int 40)))) sNop)
  (sRet (eBm "str" mJoin (eC (.str "")) (aCons (eLc (iRange1 (aCons (eVar 3) aNil)) (.nm 4) cYes (eBin opIx (eVar 2) (eCall F_law_draw (aCons (eVar 0) (aCons (eC (.int 94)) aNil)))) [4]) aNil))))))))
/-- _law_text: 0 pool, 1 size, 2 plain, 3 n -/
def t_law_text (F_law_line : Fn) : SS := (sRet (eCallB cnTuple (aCons (eLc (iRange1 (aCons (eVar 1) aNil)) (.nm 3) cYes (eCall F_law_line (aCons (eVar 0) (aCons (eVar 2) aNil))) [3]) aNil)))
/-- _law_edit: 0 pool, 1 text, 2 plain, 3 great, 4 most, 5 hunks, 6 low, 7 many, 8 cut, 9 put, 10 turn, 11 room, 12 step, 13 start, 14 gone, 15 added, 16 removed -/
def r_law_edit_1 (F_law_draw F_law_text F_law_line : Fn) : SS := (sSeq (sEx (eBm "list" mAppend (eVar 5) (aCons (eTup (aCons (eVar 13) (aCons (eVar 16) (aCons (eVar 15) aNil)))) aNil)))
  (sAsg (eBin opAdd (eBin opAdd (eVar 13) (eVar 14)) (eC (.int 1))) (.nm 6)))
def b_law_edit_2 (F_law_draw F_law_text F_law_line : Fn) : SS := (sIf (cB (eBin opLe (eVar 6) (eCallB cnLen (aCons (eVar 1) aNil)))) (sSeq (sAsg (eBin opSub (eCallB cnLen (aCons (eVar 1) aNil)) (eVar 6)) (.nm 11))
  (sSeq (sAsg (eBin opIx (eLst (aCons (eCallB cnMin (aCons (eVar 11) (aCons (eC (.int 1)) aNil))) (aCons (eCallB cnMin (aCons (eVar 11) (aCons (eC (.int 3)) aNil))) (aCons (eVar 11) aNil)))) (eCall F_law_draw (aCons (eVar 0) (aCons (eC (.int 3)) aNil)))) (.nm 12))
  (sSeq (sAsg (eBin opAdd (eVar 6) (eCall F_law_draw (aCons (eVar 0) (aCons (eBin opAdd (eVar 12) (eC (.int 1))) aNil)))) (.nm 13))
  (sSeq (sAsg (eCall F_law_draw (aCons (eVar 0) (aCons (eBin opAdd (eCallB cnMin (aCons (eBin opSub (eCallB cnLen (aCons (eVar 1) aNil)) (eVar 13)) (aCons (eVar 8) aNil))) (eC (.int 1))) aNil))) (.nm 14))
  (sSeq (sAsg (eCall F_law_text (aCons (eVar 0) (aCons (eCall F_law_draw (aCons (eVar 0) (aCons (eBin opAdd (eVar 9) (eC (.int 1))) aNil))) (aCons (eVar 2) aNil)))) (.nm 15))
  (sSeq (sAsg (eSl (eVar 1) (oSome (eVar 13)) (oSome (eBin opAdd (eVar 13) (eVar 14)))) (.nm 16))
  (sSeq (sIf (cB (eBin opEq (eVar 16) (eVar 15))) (sAsg (eBin opAdd (eVar 15) (eTup (aCons (eCall F_law_line (aCons (eVar 0) (aCons (eVar 2) aNil))) aNil))) (.nm 15)) sNop)
  (r_law_edit_1 F_law_draw F_law_text F_law_line)))))))) sNop)
def r_law_edit_3 (F_law_draw F_law_text F_law_line : Fn) : SS := (sSeq (sFor (iRange1 (aCons (eVar 7) aNil)) (.nm 10) (b_law_edit_2 F_law_draw F_law_text F_law_line))
  (sRet (eCallB cnTuple (aCons (eVar 5) aNil))))
def t_law_edit (F_law_draw F_law_text F_law_line : Fn) : SS := (sSeq (sAsg (eLst aNil) (.nm 5))
  (sSeq (sAsg (eC (.int 0)) (.nm 6))
  (sSeq (sAsg (eCallB cnMin (aCons (eVar 4) (aCons (eBin opIx (eLst (aCons (eC (.int 1)) (aCons (eC (.int 2)) (aCons (eC (.int 1)) (aCons (eC (.int 3)) (aCons (eC (.int 1)) (aCons (eC (.int 2)) (aCons (eC (.int 4)) (aCons (eC (.int 6)) aNil))))))))) (eCall F_law_draw (aCons (eVar 0) (aCons (eC (.int 8)) aNil)))) aNil))) (.nm 7))
  (sSeq (sAsg (eC (.int 3)) (.nm 8))
  (sSeq (sAsg (eC (.int 2)) (.nm 9))
  (sSeq (sIf (cT (eVar 3)) (sSeq (sAsg (eC (.int 1)) (.nm 7))
  (sSeq (sAsg (eC (.int 20)) (.nm 8))
  (sAsg (eC (.int 19)) (.nm 9)))) sNop)
  (r_law_edit_3 F_law_draw F_law_text F_law_line)))))))
/-- _law_apply: 0 edit, 1 text, 2 lines, 3 done, 4 piece -/
def b_law_apply_1 : SS := (sSeq (sIf (cOr (cB (eBin opGt (eBin opAdd (eBin opIx (eVar 4) (eC (.int 0))) (eCallB cnLen (aCons (eBin opIx (eVar 4) (eC (.int 1))) aNil))) (eCallB cnLen (aCons (eVar 1) aNil)))) (cB (eBin opNe (eSl (eVar 1) (oSome (eBin opIx (eVar 4) (eC (.int 0)))) (oSome (eBin opAdd (eBin opIx (eVar 4) (eC (.int 0))) (eCallB cnLen (aCons (eBin opIx (eVar 4) (eC (.int 1))) aNil))))) (eBin opIx (eVar 4) (eC (.int 1)))))) (sRet (eC .non)) sNop)
  (sSeq (sAsg (eBin opAdd (eBin opAdd (eVar 2) (eCallB cnList (aCons (eSl (eVar 1) (oSome (eVar 3)) (oSome (eBin opIx (eVar 4) (eC (.int 0))))) aNil))) (eCallB cnList (aCons (eBin opIx (eVar 4) (eC (.int 2))) aNil))) (.nm 2))
  (sAsg (eBin opAdd (eBin opIx (eVar 4) (eC (.int 0))) (eCallB cnLen (aCons (eBin opIx (eVar 4) (eC (.int 1))) aNil))) (.nm 3))))
def t_law_apply : SS := (sSeq (sAsg (eLst aNil) (.nm 2))
  (sSeq (sAsg (eC (.int 0)) (.nm 3))
  (sSeq (sFor (iSeq (eVar 0)) (.nm 4) (b_law_apply_1))
  (sRet (eBin opAdd (eCallB cnTuple (aCons (eVar 2) aNil)) (eSl (eVar 1) (oSome (eVar 3)) oNo))))))
/-- _law_near: 0 pool, 1 size, 2 word, 3 number, 4 kind, 5 odd -/
def t_law_near (F_law_draw : Fn) : SS := (sSeq (sAsg (eBin opIx (eLst (aCons (eC (.str "line")) (aCons (eC (.str "gap")) aNil))) (eCall F_law_draw (aCons (eVar 0) (aCons (eC (.int 2)) aNil)))) (.nm 2))
  (sSeq (sAsg (eBin opIx (eLst (aCons (eUn opNeg (eC (.int 1))) (aCons (eC (.int 0)) (aCons (eBin opSub (eVar 1) (eC (.int 1))) (aCons (eVar 1) (aCons (eBin opAdd (eVar 1) (eC (.int 1))) (aCons (eBin opPow (eC (.int 10)) (eC (.int 20))) aNil))))))) (eCall F_law_draw (aCons (eVar 0) (aCons (eC (.int 6)) aNil)))) (.nm 3))
  (sSeq (sAsg (eCall F_law_draw (aCons (eVar 0) (aCons (eC (.int 9)) aNil))) (.nm 4))
  (sSeq (sAsg (eLst (aCons (eTup (aCons (eVar 2) (aCons (eC (.bl true)) aNil))) (aCons (eTup (aCons (eVar 2) (aCons (eC (.str "0")) aNil))) (aCons (eTup (aCons (eVar 2) (aCons (eC .non) aNil))) (aCons (eTup (aCons (eVar 2) (aCons (eTup (aCons (eC (.int 0)) aNil)) aNil))) (aCons (eTup (aCons (eVar 2) aNil)) (aCons (eTup (aCons (eVar 2) (aCons (eC (.int 0)) (aCons (eC (.int 0)) aNil)))) (aCons (eVar 2) (aCons (eTup aNil) (aCons (eC .non) aNil)))))))))) (.nm 5))
  (sSeq (sIf (cB (eBin opEq (eVar 4) (eC (.int 0)))) (sRet (eBin opIx (eVar 5) (eCall F_law_draw (aCons (eVar 0) (aCons (eC (.int 9)) aNil))))) sNop)
  (sSeq (sIf (cB (eBin opEq (eVar 4) (eC (.int 1)))) (sRet (eTup (aCons (eBin opIx (eLst (aCons (eC (.str "")) (aCons (eC (.str "lines")) (aCons (eC (.str "GAP")) (aCons (eC (.int 0)) (aCons (eC .non) (aCons (eTup (aCons (eC (.str "line")) aNil)) aNil))))))) (eCall F_law_draw (aCons (eVar 0) (aCons (eC (.int 6)) aNil)))) (aCons (eC (.int 0)) aNil)))) sNop)
  (sRet (eTup (aCons (eVar 2) (aCons (eVar 3) aNil))))))))))
/-- _law_same: 0 actual, 1 due, 2 n -/
def b_law_same_1 (F_law_same : Fn) : SS := (sIf (cNot (cT (eCall F_law_same (aCons (eBin opIx (eVar 0) (eVar 2)) (aCons (eBin opIx (eVar 1) (eVar 2)) aNil))))) (sRet (eC (.bl false))) sNop)
def t_law_same (F_law_same : Fn) : SS := (sSeq (sIf (cT (eIsi "tuple" (eVar 1))) (sSeq (sIf (cOr (cNot (cT (eIsi "tuple" (eVar 0)))) (cB (eBin opNe (eCallB cnLen (aCons (eVar 0) aNil)) (eCallB cnLen (aCons (eVar 1) aNil))))) (sRet (eC (.bl false))) sNop)
  (sSeq (sFor (iRange1 (aCons (eCallB cnLen (aCons (eVar 1) aNil)) aNil)) (.nm 2) (b_law_same_1 F_law_same))
  (sRet (eC (.bl true))))) sNop)
  (sSeq (sIf (cB (eBin opIs (eVar 1) (eC .non))) (sRet (eBin opIs (eVar 0) (eC .non))) sNop)
  (sSeq (sIf (cOr (cT (eIsi "bool" (eVar 1))) (cT (eIsi "bool" (eVar 0)))) (sRet (eAnd (eIsi "bool" (eVar 1)) (eAnd (eIsi "bool" (eVar 0)) (eBin opEq (eVar 0) (eVar 1))))) sNop)
  (sSeq (sIf (cT (eIsi "int" (eVar 1))) (sRet (eAnd (eIsi "int" (eVar 0)) (eBin opEq (eVar 0) (eVar 1)))) sNop)
  (sRet (eAnd (eIsi "str" (eVar 0)) (eBin opEq (eVar 0) (eVar 1))))))))
/-- _law_is_anchor: 0 size, 1 value -/
def t_law_is_anchor : SS := (sSeq (sIf (cOr (cNot (cT (eIsi "tuple" (eVar 1)))) (cB (eBin opNe (eCallB cnLen (aCons (eVar 1) aNil)) (eC (.int 2))))) (sRet (eC (.bl false))) sNop)
  (sSeq (sIf (cOr (cNot (cT (eIsi "int" (eBin opIx (eVar 1) (eC (.int 1)))))) (cOr (cT (eIsi "bool" (eBin opIx (eVar 1) (eC (.int 1))))) (cB (eBin opLt (eBin opIx (eVar 1) (eC (.int 1))) (eC (.int 0)))))) (sRet (eC (.bl false))) sNop)
  (sRet (eOr (eAnd (eBin opEq (eBin opIx (eVar 1) (eC (.int 0))) (eC (.str "line"))) (eBin opLt (eBin opIx (eVar 1) (eC (.int 1))) (eVar 0))) (eAnd (eBin opEq (eBin opIx (eVar 1) (eC (.int 0))) (eC (.str "gap"))) (eBin opLe (eBin opIx (eVar 1) (eC (.int 1))) (eVar 0)))))))
/-- is_tuple_of: 0 value, 1 size -/
def t_is_tuple_of : SS := (sRet (eAnd (eIsi "tuple" (eVar 0)) (eBin opEq (eCallB cnLen (aCons (eVar 0) aNil)) (eVar 1))))
/-- is_whole: 0 value -/
def t_is_whole : SS := (sRet (eAnd (eIsi "int" (eVar 0)) (eNot (eIsi "bool" (eVar 0)))))
/-- is_index: 0 value, 1 count -/
def t_is_index (F_is_whole : Fn) : SS := (sRet (eAnd (eCall F_is_whole (aCons (eVar 0) aNil)) (eChain opLe opLt (eC (.int 0)) (eVar 0) (eVar 1))))
/-- is_anchor: 0 size, 1 value -/
def t_is_anchor (F_is_tuple_of F_is_index : Fn) : SS := (sSeq (sIf (cNot (cT (eCall F_is_tuple_of (aCons (eVar 1) (aCons (eC (.int 2)) aNil))))) (sRet (eC (.bl false))) sNop)
  (sSeq (sIf (cB (eBin opEq (eBin opIx (eVar 1) (eC (.int 0))) (eC (.str "line")))) (sRet (eCall F_is_index (aCons (eBin opIx (eVar 1) (eC (.int 1))) (aCons (eVar 0) aNil)))) sNop)
  (sRet (eAnd (eBin opEq (eBin opIx (eVar 1) (eC (.int 0))) (eC (.str "gap"))) (eCall F_is_index (aCons (eBin opIx (eVar 1) (eC (.int 1))) (aCons (eBin opAdd (eVar 0) (eC (.int 1))) aNil)))))))
/-- _law_any_anchor: 0 pool, 1 size, 2 number -/
def t_law_any_anchor (F_law_draw : Fn) : SS := (sSeq (sAsg (eCall F_law_draw (aCons (eVar 0) (aCons (eBin opAdd (eBin opMul (eC (.int 2)) (eVar 1)) (eC (.int 1))) aNil))) (.nm 2))
  (sSeq (sIf (cB (eBin opLt (eVar 2) (eVar 1))) (sRet (eTup (aCons (eC (.str "line")) (aCons (eVar 2) aNil)))) sNop)
  (sRet (eTup (aCons (eC (.str "gap")) (aCons (eBin opSub (eVar 2) (eVar 1)) aNil))))))
/-- _law_follow: 0 anchor, 1 edit, 2 carrier, 3 grown, 4 piece, 5 stop -/
def b_law_follow_1 : SS := (sSeq (sAsg (eBin opAdd (eBin opIx (eVar 4) (eC (.int 0))) (eCallB cnLen (aCons (eBin opIx (eVar 4) (eC (.int 1))) aNil))) (.nm 5))
  (sSeq (sIf (cAnd (cB (eBin opLe (eBin opIx (eVar 4) (eC (.int 0))) (eVar 2))) (cB (eBin opLt (eVar 2) (eVar 5)))) (sRet (eTup (aCons (eC (.str "gap")) (aCons (eBin opAdd (eBin opIx (eVar 4) (eC (.int 0))) (eVar 3)) aNil)))) sNop)
  (sIf (cB (eBin opLe (eVar 5) (eVar 2))) (sAsg (eBin opSub (eBin opAdd (eVar 3) (eCallB cnLen (aCons (eBin opIx (eVar 4) (eC (.int 2))) aNil))) (eCallB cnLen (aCons (eBin opIx (eVar 4) (eC (.int 1))) aNil))) (.nm 3)) sNop)))
def r_law_follow_2 : SS := (sSeq (sAsg (eC (.int 0)) (.nm 3))
  (sSeq (sFor (iSeq (eVar 1)) (.nm 4) (b_law_follow_1))
  (sRet (eTup (aCons (eBin opIx (eVar 0) (eC (.int 0))) (aCons (eBin opAdd (eBin opIx (eVar 0) (eC (.int 1))) (eVar 3)) aNil))))))
def t_law_follow : SS := (sSeq (sAsg (eBin opIx (eVar 0) (eC (.int 1))) (.nm 2))
  (sSeq (sIf (cB (eBin opEq (eBin opIx (eVar 0) (eC (.int 0))) (eC (.str "gap")))) (sAsg (eBin opSub (eVar 2) (eC (.int 1))) (.nm 2)) sNop)
  (r_law_follow_2)))
/-- hunk_growth: 0 hunk -/
def t_hunk_growth : SS := (sRet (eBin opSub (eCallB cnLen (aCons (eBin opIx (eVar 0) (eC (.int 2))) aNil)) (eCallB cnLen (aCons (eBin opIx (eVar 0) (eC (.int 1))) aNil))))
/-- edit_starts: 0 edit, 1 starts, 2 growth, 3 hunk -/
def b_edit_starts_1 (F_hunk_growth : Fn) : SS := (sSeq (sEx (eBm "list" mAppend (eVar 1) (aCons (eBin opAdd (eBin opIx (eVar 3) (eC (.int 0))) (eVar 2)) aNil)))
  (sAsg (eBin opAdd (eVar 2) (eCall F_hunk_growth (aCons (eVar 3) aNil))) (.nm 2)))
def t_edit_starts (F_hunk_growth : Fn) : SS := (sSeq (sAsg (eLst aNil) (.nm 1))
  (sSeq (sAsg (eC (.int 0)) (.nm 2))
  (sSeq (sFor (iSeq (eVar 0)) (.nm 3) (b_edit_starts_1 F_hunk_growth))
  (sRet (eCallB cnTuple (aCons (eVar 1) aNil))))))
/-- hunk_end: 0 hunk -/
def t_hunk_end : SS := (sRet (eBin opAdd (eBin opIx (eVar 0) (eC (.int 0))) (eCallB cnLen (aCons (eBin opIx (eVar 0) (eC (.int 1))) aNil))))
/-- is_hit: 0 anchor, 1 hunk -/
def t_is_hit (F_hunk_end : Fn) : SS := (sSeq (sIf (cB (eBin opEq (eBin opIx (eVar 0) (eC (.int 0))) (eC (.str "line")))) (sRet (eAnd (eBin opLe (eBin opIx (eVar 1) (eC (.int 0))) (eBin opIx (eVar 0) (eC (.int 1)))) (eBin opLt (eBin opIx (eVar 0) (eC (.int 1))) (eCall F_hunk_end (aCons (eVar 1) aNil))))) sNop)
  (sRet (eAnd (eBin opLt (eBin opIx (eVar 1) (eC (.int 0))) (eBin opIx (eVar 0) (eC (.int 1)))) (eBin opLe (eBin opIx (eVar 0) (eC (.int 1))) (eCall F_hunk_end (aCons (eVar 1) aNil))))))
/-- growth_before: 0 edit, 1 limit, 2 hunk -/
def t_growth_before (F_hunk_end F_hunk_growth : Fn) : SS := (sRet (eCallB cnSum (aCons (eLc (iSeq (eVar 0)) (.nm 2) (cB (eBin opLt (eCall F_hunk_end (aCons (eVar 2) aNil)) (eVar 1))) (eCall F_hunk_growth (aCons (eVar 2) aNil)) [2]) aNil)))
/-- follow: 0 anchor, 1 edit, 2 starts, 3 index, 4 hunk, 5 limit -/
def b_follow_1 (F_edit_starts F_is_hit F_growth_before : Fn) : SS := (sIf (cT (eCall F_is_hit (aCons (eVar 0) (aCons (eVar 4) aNil)))) (sRet (eTup (aCons (eC (.str "gap")) (aCons (eBin opIx (eVar 2) (eVar 3)) aNil)))) sNop)
def r_follow_2 (F_edit_starts F_is_hit F_growth_before : Fn) : SS := (sRet (eTup (aCons (eBin opIx (eVar 0) (eC (.int 0))) (aCons (eBin opAdd (eBin opIx (eVar 0) (eC (.int 1))) (eCall F_growth_before (aCons (eVar 1) (aCons (eVar 5) aNil)))) aNil))))
def t_follow (F_edit_starts F_is_hit F_growth_before : Fn) : SS := (sSeq (sAsg (eCall F_edit_starts (aCons (eVar 1) aNil)) (.nm 2))
  (sSeq (sFor (iEnum1 (aCons (eVar 1) aNil)) (.tp [.nm 3, .nm 4]) (b_follow_1 F_edit_starts F_is_hit F_growth_before))
  (sSeq (sAsg (eBin opIx (eVar 0) (eC (.int 1))) (.nm 5))
  (sSeq (sIf (cB (eBin opEq (eBin opIx (eVar 0) (eC (.int 0))) (eC (.str "line")))) (sAsg (eBin opAdd (eVar 5) (eC (.int 1))) (.nm 5)) sNop)
  (r_follow_2 F_edit_starts F_is_hit F_growth_before)))))
/-- inverse_edit: 0 edit, 1 starts, 2 index, 3 hunk -/
def t_inverse_edit (F_edit_starts : Fn) : SS := (sSeq (sAsg (eCall F_edit_starts (aCons (eVar 0) aNil)) (.nm 1))
  (sRet (eCallB cnTuple (aCons (eLc (iEnum1 (aCons (eVar 0) aNil)) (.tp [.nm 2, .nm 3]) cYes (eTup (aCons (eBin opIx (eVar 1) (eVar 2)) (aCons (eBin opIx (eVar 3) (eC (.int 2))) (aCons (eBin opIx (eVar 3) (eC (.int 1))) aNil)))) [2, 3]) aNil))))
/-- follow_back: 0 anchor, 1 edit -/
def t_follow_back (F_follow F_inverse_edit : Fn) : SS := (sRet (eCall F_follow (aCons (eVar 0) (aCons (eCall F_inverse_edit (aCons (eVar 1) aNil)) aNil))))
/-- _law_one_edit: 0 anchor, 1 edit, 2 old, 3 new, 4 due, 5 gone, 6 piece -/
def t_law_one_edit (F_law_follow F_law_is_anchor F_law_same F_follow F_follow_back : Fn) : SS := (sSeq (sAsg (eCall F_law_follow (aCons (eVar 0) (aCons (eVar 1) aNil))) (.nm 4))
  (sSeq (sIf (cOr (cNot (cT (eCall F_law_same (aCons (eCall F_follow (aCons (eVar 0) (aCons (eVar 1) aNil))) (aCons (eVar 4) aNil))))) (cNot (cT (eCall F_law_is_anchor (aCons (eCallB cnLen (aCons (eVar 3) aNil)) (aCons (eVar 4) aNil)))))) (sRet (eC (.bl false))) sNop)
  (sSeq (sIf (cB (eBin opEq (eBin opIx (eVar 4) (eC (.int 0))) (eC (.str "gap")))) (sSeq (sAsg (eLc (iSeq (eVar 1)) (.nm 6) (cAnd (cB (eBin opLe (eBin opIx (eVar 6) (eC (.int 0))) (eBin opIx (eVar 0) (eC (.int 1))))) (cB (eBin opLt (eBin opIx (eVar 0) (eC (.int 1))) (eBin opAdd (eBin opIx (eVar 6) (eC (.int 0))) (eCallB cnLen (aCons (eBin opIx (eVar 6) (eC (.int 1))) aNil)))))) (eVar 6) [6]) (.nm 5))
  (sRet (eOr (eBin opEq (eBin opIx (eVar 0) (eC (.int 0))) (eC (.str "gap"))) (eBin opEq (eCallB cnLen (aCons (eVar 5) aNil)) (eC (.int 1)))))) sNop)
  (sSeq (sIf (cOr (cB (eBin opNe (eBin opIx (eVar 0) (eC (.int 0))) (eC (.str "line")))) (cB (eBin opNe (eBin opIx (eVar 2) (eBin opIx (eVar 0) (eC (.int 1)))) (eBin opIx (eVar 3) (eBin opIx (eVar 4) (eC (.int 1))))))) (sRet (eC (.bl false))) sNop)
  (sRet (eCall F_law_same (aCons (eCall F_follow_back (aCons (eVar 4) (aCons (eVar 1) aNil))) (aCons (eVar 0) aNil))))))))
/-- follow_all: 0 anchor, 1 edits, 2 found, 3 edit -/
def b_follow_all_1 (F_follow : Fn) : SS := (sEx (eBm "list" mAppend (eVar 2) (aCons (eCall F_follow (aCons (eBin opIx (eVar 2) (eUn opNeg (eC (.int 1)))) (aCons (eVar 3) aNil))) aNil)))
def t_follow_all (F_follow : Fn) : SS := (sSeq (sAsg (eLst (aCons (eVar 0) aNil)) (.nm 2))
  (sSeq (sFor (iSeq (eVar 1)) (.nm 3) (b_follow_all_1 F_follow))
  (sRet (eCallB cnTuple (aCons (eVar 2) aNil)))))
/-- _law_back: 0 anchor, 1 edit, 2 turned, 3 grown, 4 piece -/
def b_law_back_1 (F_law_follow : Fn) : SS := (sSeq (sEx (eBm "list" mAppend (eVar 2) (aCons (eTup (aCons (eBin opAdd (eBin opIx (eVar 4) (eC (.int 0))) (eVar 3)) (aCons (eBin opIx (eVar 4) (eC (.int 2))) (aCons (eBin opIx (eVar 4) (eC (.int 1))) aNil)))) aNil)))
  (sAsg (eBin opSub (eBin opAdd (eVar 3) (eCallB cnLen (aCons (eBin opIx (eVar 4) (eC (.int 2))) aNil))) (eCallB cnLen (aCons (eBin opIx (eVar 4) (eC (.int 1))) aNil))) (.nm 3)))
def t_law_back (F_law_follow : Fn) : SS := (sSeq (sAsg (eLst aNil) (.nm 2))
  (sSeq (sAsg (eC (.int 0)) (.nm 3))
  (sSeq (sFor (iSeq (eVar 1)) (.nm 4) (b_law_back_1 F_law_follow))
  (sRet (eCall F_law_follow (aCons (eVar 0) (aCons (eCallB cnTuple (aCons (eVar 2) aNil)) aNil)))))))
/-- law: 0 script, 1 pool, 2 plain, 3 great, 4 size, 5 many, 6 text, 7 texts, 8 edits, 9 n, 10 turn, 11 value, 12 anchor, 13 due, 14 edit, 15 late -/
def b_law_1 (F_law_pool F_law_draw F_law_text F_law_edit F_law_apply F_law_near F_law_same F_law_is_anchor F_is_anchor F_law_any_anchor F_law_one_edit F_law_follow F_follow_all F_law_back F_follow_back : Fn) : SS := (sSeq (sEx (eBm "list" mAppend (eVar 8) (aCons (eCall F_law_edit (aCons (eCall F_law_pool (aCons (eVar 0) (aCons (eBin opAdd (eC (.int 2)) (eVar 9)) aNil))) (aCons (eBin opIx (eVar 7) (eUn opNeg (eC (.int 1)))) (aCons (eVar 2) (aCons (eVar 3) (aCons (eC (.int 6)) aNil)))))) aNil)))
  (sEx (eBm "list" mAppend (eVar 7) (aCons (eCall F_law_apply (aCons (eBin opIx (eVar 8) (eUn opNeg (eC (.int 1)))) (aCons (eBin opIx (eVar 7) (eUn opNeg (eC (.int 1)))) aNil))) aNil))))
def b_law_2 (F_law_pool F_law_draw F_law_text F_law_edit F_law_apply F_law_near F_law_same F_law_is_anchor F_is_anchor F_law_any_anchor F_law_one_edit F_law_follow F_follow_all F_law_back F_follow_back : Fn) : SS := (sSeq (sAsg (eCall F_law_near (aCons (eVar 1) (aCons (eVar 4) aNil))) (.nm 11))
  (sIf (cNot (cT (eCall F_law_same (aCons (eCall F_is_anchor (aCons (eVar 4) (aCons (eVar 11) aNil))) (aCons (eCall F_law_is_anchor (aCons (eVar 4) (aCons (eVar 11) aNil))) aNil))))) (sRet (eC (.bl false))) sNop))
def b_law_3 (F_law_pool F_law_draw F_law_text F_law_edit F_law_apply F_law_near F_law_same F_law_is_anchor F_is_anchor F_law_any_anchor F_law_one_edit F_law_follow F_follow_all F_law_back F_follow_back : Fn) : SS := (sEx (eBm "list" mAppend (eVar 13) (aCons (eCall F_law_follow (aCons (eBin opIx (eVar 13) (eUn opNeg (eC (.int 1)))) (aCons (eVar 14) aNil))) aNil)))
def b_law_4 (F_law_pool F_law_draw F_law_text F_law_edit F_law_apply F_law_near F_law_same F_law_is_anchor F_is_anchor F_law_any_anchor F_law_one_edit F_law_follow F_follow_all F_law_back F_follow_back : Fn) : SS := (sSeq (sAsg (eCall F_law_any_anchor (aCons (eVar 1) (aCons (eVar 4) aNil))) (.nm 12))
  (sSeq (sIf (cOr (cNot (cT (eCall F_law_same (aCons (eCall F_is_anchor (aCons (eVar 4) (aCons (eVar 12) aNil))) (aCons (eC (.bl true)) aNil))))) (cNot (cT (eCall F_law_one_edit (aCons (eVar 12) (aCons (eBin opIx (eVar 8) (eC (.int 0))) (aCons (eVar 6) (aCons (eBin opIx (eVar 7) (eC (.int 1))) aNil)))))))) (sRet (eC (.bl false))) sNop)
  (sSeq (sAsg (eLst (aCons (eVar 12) aNil)) (.nm 13))
  (sSeq (sFor (iSeq (eVar 8)) (.nm 14) (b_law_3 F_law_pool F_law_draw F_law_text F_law_edit F_law_apply F_law_near F_law_same F_law_is_anchor F_is_anchor F_law_any_anchor F_law_one_edit F_law_follow F_follow_all F_law_back F_follow_back))
  (sSeq (sIf (cNot (cT (eCall F_law_same (aCons (eCall F_follow_all (aCons (eVar 12) (aCons (eCallB cnTuple (aCons (eVar 8) aNil)) aNil))) (aCons (eCallB cnTuple (aCons (eVar 13) aNil)) aNil))))) (sRet (eC (.bl false))) sNop)
  (sSeq (sAsg (eCall F_law_any_anchor (aCons (eVar 1) (aCons (eCallB cnLen (aCons (eBin opIx (eVar 7) (eC (.int 1))) aNil)) aNil))) (.nm 15))
  (sIf (cNot (cT (eCall F_law_same (aCons (eCall F_follow_back (aCons (eVar 15) (aCons (eBin opIx (eVar 8) (eC (.int 0))) aNil))) (aCons (eCall F_law_back (aCons (eVar 15) (aCons (eBin opIx (eVar 8) (eC (.int 0))) aNil))) aNil))))) (sRet (eC (.bl false))) sNop)))))))
def r_law_5 (F_law_pool F_law_draw F_law_text F_law_edit F_law_apply F_law_near F_law_same F_law_is_anchor F_is_anchor F_law_any_anchor F_law_one_edit F_law_follow F_follow_all F_law_back F_follow_back : Fn) : SS := (sSeq (sAsg (eCall F_law_text (aCons (eCall F_law_pool (aCons (eVar 0) (aCons (eC (.int 1)) aNil))) (aCons (eVar 4) (aCons (eVar 2) aNil)))) (.nm 6))
  (sSeq (sAsg (eLst (aCons (eVar 6) aNil)) (.nm 7))
  (sSeq (sAsg (eLst aNil) (.nm 8))
  (sSeq (sFor (iRange1 (aCons (eVar 5) aNil)) (.nm 9) (b_law_1 F_law_pool F_law_draw F_law_text F_law_edit F_law_apply F_law_near F_law_same F_law_is_anchor F_is_anchor F_law_any_anchor F_law_one_edit F_law_follow F_follow_all F_law_back F_follow_back))
  (sSeq (sAsg (eCall F_law_pool (aCons (eVar 0) (aCons (eC (.int 7)) aNil))) (.nm 1))
  (sSeq (sFor (iRange1 (aCons (eC (.int 6)) aNil)) (.nm 10) (b_law_2 F_law_pool F_law_draw F_law_text F_law_edit F_law_apply F_law_near F_law_same F_law_is_anchor F_is_anchor F_law_any_anchor F_law_one_edit F_law_follow F_follow_all F_law_back F_follow_back))
  (sSeq (sAsg (eCall F_law_pool (aCons (eVar 0) (aCons (eC (.int 8)) aNil))) (.nm 1))
  (sSeq (sFor (iRange1 (aCons (eC (.int 3)) aNil)) (.nm 10) (b_law_4 F_law_pool F_law_draw F_law_text F_law_edit F_law_apply F_law_near F_law_same F_law_is_anchor F_is_anchor F_law_any_anchor F_law_one_edit F_law_follow F_follow_all F_law_back F_follow_back))
  (sRet (eCall F_law_same (aCons (eCall F_follow_all (aCons (eTup (aCons (eC (.str "gap")) (aCons (eC (.int 0)) aNil))) (aCons (eTup aNil) aNil))) (aCons (eTup (aCons (eTup (aCons (eC (.str "gap")) (aCons (eC (.int 0)) aNil))) aNil)) aNil))))))))))))
def t_law (F_law_pool F_law_draw F_law_text F_law_edit F_law_apply F_law_near F_law_same F_law_is_anchor F_is_anchor F_law_any_anchor F_law_one_edit F_law_follow F_follow_all F_law_back F_follow_back : Fn) : SS := (sSeq (sAsg (eCall F_law_pool (aCons (eVar 0) (aCons (eC (.int 0)) aNil))) (.nm 1))
  (sSeq (sAsg (eBin opEq (eCall F_law_draw (aCons (eVar 1) (aCons (eC (.int 2)) aNil))) (eC (.int 0))) (.nm 2))
  (sSeq (sAsg (eBin opEq (eCall F_law_draw (aCons (eVar 1) (aCons (eC (.int 8)) aNil))) (eC (.int 1))) (.nm 3))
  (sSeq (sAsg (eBin opIx (eLst (aCons (eC (.int 0)) (aCons (eC (.int 1)) (aCons (eC (.int 2)) (aCons (eC (.int 4)) (aCons (eC (.int 7)) (aCons (eC (.int 12)) aNil))))))) (eCall F_law_draw (aCons (eVar 1) (aCons (eC (.int 6)) aNil)))) (.nm 4))
  (sSeq (sAsg (eBin opAdd (eC (.int 1)) (eCall F_law_draw (aCons (eVar 1) (aCons (eC (.int 5)) aNil)))) (.nm 5))
  (sSeq (sIf (cT (eVar 3)) (sAsg (eC (.int 60)) (.nm 4)) sNop)
  (r_law_5 F_law_pool F_law_draw F_law_text F_law_edit F_law_apply F_law_near F_law_same F_law_is_anchor F_is_anchor F_law_any_anchor F_law_one_edit F_law_follow F_follow_all F_law_back F_follow_back)))))))
def F_law_pool : Fn := bodyF 6 (t_law_pool)
def F_law_draw : Fn := bodyF 3 (t_law_draw)
def F_law_line : Fn := bodyF 5 (t_law_line F_law_draw)
def F_law_text : Fn := bodyF 4 (t_law_text F_law_line)
def F_law_edit : Fn := bodyF 17 (t_law_edit F_law_draw F_law_text F_law_line)
def F_law_apply : Fn := bodyF 5 (t_law_apply)
def F_law_near : Fn := bodyF 6 (t_law_near F_law_draw)
def R_law_same : Nat → Fn
  | 0 => fun _ _ _ _ => False
  | r + 1 => bodyF 3 (t_law_same (R_law_same r))
def F_law_same : Fn := R_law_same 6
def F_law_is_anchor : Fn := bodyF 2 (t_law_is_anchor)
def F_is_tuple_of : Fn := bodyF 2 (t_is_tuple_of)
def F_is_whole : Fn := bodyF 1 (t_is_whole)
def F_is_index : Fn := bodyF 2 (t_is_index F_is_whole)
def F_is_anchor : Fn := bodyF 2 (t_is_anchor F_is_tuple_of F_is_index)
def F_law_any_anchor : Fn := bodyF 3 (t_law_any_anchor F_law_draw)
def F_law_follow : Fn := bodyF 6 (t_law_follow)
def F_hunk_growth : Fn := bodyF 1 (t_hunk_growth)
def F_edit_starts : Fn := bodyF 4 (t_edit_starts F_hunk_growth)
def F_hunk_end : Fn := bodyF 1 (t_hunk_end)
def F_is_hit : Fn := bodyF 2 (t_is_hit F_hunk_end)
def F_growth_before : Fn := bodyF 3 (t_growth_before F_hunk_end F_hunk_growth)
def F_follow : Fn := bodyF 6 (t_follow F_edit_starts F_is_hit F_growth_before)
def F_inverse_edit : Fn := bodyF 4 (t_inverse_edit F_edit_starts)
def F_follow_back : Fn := bodyF 2 (t_follow_back F_follow F_inverse_edit)
def F_law_one_edit : Fn := bodyF 7 (t_law_one_edit F_law_follow F_law_is_anchor F_law_same F_follow F_follow_back)
def F_follow_all : Fn := bodyF 4 (t_follow_all F_follow)
def F_law_back : Fn := bodyF 5 (t_law_back F_law_follow)
def F_law : Fn := bodyF 16 (t_law F_law_pool F_law_draw F_law_text F_law_edit F_law_apply F_law_near F_law_same F_law_is_anchor F_is_anchor F_law_any_anchor F_law_one_edit F_law_follow F_follow_all F_law_back F_follow_back)
end K28

set_option maxHeartbeats 400000
namespace K28
open PySem PySem.Spec L2 DN
structure Hk where
  s : Int
  o : List D
  n : List D
def Hk.d (h : Hk) : D := .tup [.int h.s, .tup h.o, .tup h.n]
def Hk.e (h : Hk) : Int := h.s + h.o.length
def Hk.g (h : Hk) : Int := h.n.length - h.o.length
theorem w_hunk_end {h : Hk} {M R Ex} (k : R (.int h.e) M) : F_hunk_end [h.d] M R Ex := k
theorem w_hunk_growth {h : Hk} {M R Ex} (k : R (.int h.g) M) : F_hunk_growth [h.d] M R Ex := k
def hit (w : Str) (a : Int) (h : Hk) : Bool := if w = "line" then decide (h.s ≤ a) && decide (a < h.e) else decide (h.s < a) && decide (a ≤ h.e)
theorem w_is_hit {w : Str} {a : Int} {h : Hk} {M R Ex} (k : R (.bl (hit w a h)) M) : F_is_hit [.tup [.str w, .int a], h.d] M R Ex := by
  conv => whnf
  rw [eqS]
  unfold hit at k
  by_cases e : w = "line"
  · rw [if_pos e] at k
    rw [decide_eq_true e]
    conv => whnf
    cases e2 : decide (h.s ≤ a) with
    | true => rw [e2] at k; exact k
    | false => rw [e2] at k; exact k
  · rw [if_neg e] at k
    rw [decide_eq_false e]
    conv => whnf
    cases e2 : decide (h.s < a) with
    | true => rw [e2] at k; exact k
    | false => rw [e2] at k; exact k
def sts (g : Int) : List Hk → List D
  | [] => []
  | h :: r => .int (h.s + g) :: sts (g + h.g) r
theorem w_edit_starts {hs : List Hk} {M R Ex} (hl : hs.length ≤ 100) (k : ∀ M', Fr [] M M' → R (.tup (sts 0 hs)) M') : F_edit_starts [.tup (hs.map Hk.d)] M R Ex := by
  refine ⟨by decide, ?_⟩
  refine forL_map Hk.d (fun r ρ M' => ∃ acc g x, ρ = [some (.tup (hs.map Hk.d)), some (.ref M.length), some (.int g), x] ∧ Fr [] M M' ∧ mlst M' M.length = some acc ∧ acc ++ sts g r = sts 0 hs ∧ acc.length + r.length = hs.length) (fun _ _ _ _ => trivial) ?_ ?_ _ _ _ ⟨[], 0, none, rfl, Fr.app, mlst_new, rfl, by simp⟩
  · rintro h r ρ M1 Kn ⟨acc, g, x, rfl, fr, hm, he, hc⟩ hK
    simp only [List.length_cons] at hc
    refine ⟨_, rfl, rcv_lst hm, ?_⟩
    conv => whnf
    rw [hm]
    refine ⟨Nat.lt_of_le_of_lt (show acc.length ≤ 100 by omega) (by decide), ?_⟩
    conv => whnf
    exact hK _ _ ⟨_, _, _, rfl, fr.set (.inr (Nat.le_refl _)), mlst_set (mlst_lt hm), by rw [← he]; simp [sts]; rfl, by simp; omega⟩
  · rintro ρ M1 ⟨acc, g, x, rfl, fr, hm, he, hc⟩
    refine cnTuple_ok hm ?_
    have : acc = sts 0 hs := by rw [← he]; simp [sts]
    rw [this]
    exact k _ fr

def gs (hs : List Hk) : Int := (hs.map Hk.g).sum
def gB (lim : Int) (hs : List Hk) : Int := gs (hs.filter fun h => decide (h.e < lim))
theorem w_growth_before {hs : List Hk} {lim : Int} {M R Ex} (hl : hs.length ≤ 100) (k : ∀ M', Fr [] M M' → R (.int (gB lim hs)) M') : F_growth_before [.tup (hs.map Hk.d), .int lim] M R Ex := by
  conv => whnf
  refine lcL_pure Hk.d (fun h => decide (h.e < lim)) (fun h => .int h.g) (by simp) hs (fun _ _ => trivial) (fun h M1 Kt Kf _ fr hT hF => ?_) (acc := []) mlst_new (Nat.le_trans (show ([] : List D).length + hs.length ≤ 100 by simpa using hl) (by decide)) (fun M' fr hm => ?_)
  · refine ⟨_, rfl, ?_⟩
    conv => whnf
    refine bm (fun e => ?_) (fun e => ?_)
    · exact hT e _ Fr.refl
    · exact hF e _ Fr.refl
  · refine cnSum_ok (ns := (hs.filter fun h => decide (h.e < lim)).map Hk.g) (by rw [hm]; simp) ?_
    exact k _ ((Fr.app.trans fr fun i hi hl => by simp at hi; omega))
/-! following -/
def folG (w : Str) (a g : Int) : List Hk → Option Int
  | [] => none
  | h :: r => if hit w a h then some (h.s + g) else folG w a (g + h.g) r
def fol (w : Str) (a : Int) (hs : List Hk) : D := match folG w a 0 hs with
  | some s => .tup [.str "gap", .int s]
  | none => .tup [.str w, .int (a + gB (if w = "line" then a + 1 else a) hs)]
theorem sts_get : ∀ (p : List Hk) (h : Hk) (r : List Hk) (g : Int), (sts g (p ++ h :: r))[p.length]? = some (.int (h.s + (g + gs p)))
  | [], h, r, g => by simp [sts, gs]
  | x :: p, h, r, g => by
    have := sts_get p h r (g + x.g)
    simp only [List.cons_append, sts, List.length_cons, List.getElem?_cons_succ, this]
    simp [gs]; omega
theorem w_follow {w : Str} {a : Int} {hs : List Hk} {M R Ex} (hl : hs.length ≤ 100) (k : ∀ M', Fr [] M M' → R (fol w a hs) M') : F_follow [.tup [.str w, .int a], .tup (hs.map Hk.d)] M R Ex := by
  have w1 := @w_edit_starts
  have w2 := @w_is_hit
  have w3 := @w_growth_before
  unfold F_follow
  obtain ⟨F1, qF1⟩ := op F_edit_starts; rw [← qF1] at w1 ⊢; clear qF1
  obtain ⟨F2, qF2⟩ := op F_is_hit; rw [← qF2] at w2 ⊢; clear qF2
  obtain ⟨F3, qF3⟩ := op F_growth_before; rw [← qF3] at w3 ⊢; clear qF3
  refine w1 hl fun M1 f1 => ?_
  refine forL_en Hk.d (fun p r ρ M' => ∃ x y, ρ = [some (.tup [.str w, .int a]), some (.tup (hs.map Hk.d)), some (.tup (sts 0 hs)), x, y, none] ∧ Fr [] M M' ∧ hs = p ++ r ∧ folG w a 0 hs = folG w a (gs p) r) (fun _ _ _ _ _ => trivial) ?_ ?_ _ _ _ ⟨none, none, rfl, f1, rfl, rfl⟩
  · rintro p h r ρ M2 Kn ⟨x, y, rfl, fr, he, hf⟩ hK
    refine ⟨_, rfl, ?_⟩
    refine w2 ?_
    conv => whnf
    cases e : hit w a h with
    | true =>
      conv => whnf
      rw [atI_get rfl (by rw [he]; exact sts_get p h r 0)]
      refine ⟨sz rfl, ?_⟩
      have : fol w a hs = .tup [.str "gap", .int (h.s + (0 + gs p))] := by
        unfold fol; rw [hf]; simp [folG, e]
      rw [← this]
      exact k _ fr
    | false =>
      refine hK _ _ ⟨_, _, rfl, fr, by rw [he]; simp, ?_⟩
      rw [hf]
      simp [folG, e, gs]
  · rintro p ρ M2 ⟨x, y, rfl, fr, he, hf⟩
    conv => whnf
    rw [eqS]
    have hn : folG w a 0 hs = none := hf
    have fin : ∀ M', Fr [] M2 M' → ∀ lim, lim = (if w = "line" then a + 1 else a) → R (.tup [.str w, .int (a + gB lim hs)]) M' := fun M' f' lim hlm => by
      have : fol w a hs = .tup [.str w, .int (a + gB lim hs)] := by unfold fol; rw [hn, hlm]
      rw [← this]
      exact k _ (fr.tr f')
    by_cases e : w = "line"
    · rw [decide_eq_true e]
      refine w3 hl fun M3 f3 => ⟨sz rfl, ?_⟩
      exact fin M3 f3 _ (by rw [if_pos e])
    · rw [decide_eq_false e]
      refine w3 hl fun M3 f3 => ⟨sz rfl, ?_⟩
      exact fin M3 f3 _ (by rw [if_neg e])
end K28

set_option maxHeartbeats 400000
namespace K28
open PySem PySem.Spec L2 DN
def inv (g : Int) : List Hk → List Hk
  | [] => []
  | h :: r => ⟨h.s + g, h.n, h.o⟩ :: inv (g + h.g) r
theorem inv_len : ∀ (hs : List Hk) (g : Int), (inv g hs).length = hs.length
  | [], _ => rfl
  | h :: r, g => by simp [inv, inv_len r]
theorem inv_snoc : ∀ (p : List Hk) (h : Hk) (g : Int), inv g (p ++ [h]) = inv g p ++ [⟨h.s + (g + gs p), h.n, h.o⟩]
  | [], h, g => by simp [inv, gs]
  | x :: p, h, g => by
    simp only [List.cons_append, inv, inv_snoc p h]
    simp [gs]; omega
theorem w_inverse_edit {hs : List Hk} {M R Ex} (hl : hs.length ≤ 100) (k : ∀ M', Fr [] M M' → R (.tup ((inv 0 hs).map Hk.d)) M') : F_inverse_edit [.tup (hs.map Hk.d)] M R Ex := by
  have w1 := @w_edit_starts
  unfold F_inverse_edit
  obtain ⟨F1, qF1⟩ := op F_edit_starts; rw [← qF1] at w1 ⊢; clear qF1
  refine w1 hl fun M1 f1 => ?_
  conv => whnf
  refine lcL_en Hk.d (fun p h => Hk.d ⟨h.s + (0 + gs p), h.n, h.o⟩) (by simp) hs (fun _ _ => trivial) (fun p => (inv 0 p).map Hk.d) (fun p x => by rw [inv_snoc]; simp) (fun p h r M2 Kt he fr hT => ?_) (acc := []) (by simpa [inv] using mlst_new) (by simpa [inv] using sz (n := hs.length) (Nat.ble_eq_true_of_le (by omega))) (fun M' fr hm => ?_) (fun ρ M f f' h q => h _ _ q)
  · refine ⟨_, rfl, ?_⟩
    conv => whnf
    rw [atI_get rfl (by rw [he]; exact sts_get p h r 0)]
    refine ⟨sz rfl, ?_⟩
    exact hT _ Fr.refl
  · refine cnTuple_ok hm ?_
    exact k _ (f1.tr (Fr.app.trans fr fun i hi hl => by simp at hi; omega))
theorem w_follow_back {w : Str} {a : Int} {hs : List Hk} {M R Ex} (hl : hs.length ≤ 100) (k : ∀ M', Fr [] M M' → R (fol w a (inv 0 hs)) M') : F_follow_back [.tup [.str w, .int a], .tup (hs.map Hk.d)] M R Ex := by
  have w1 := @w_inverse_edit
  have w2 := @w_follow
  unfold F_follow_back
  obtain ⟨F1, qF1⟩ := op F_inverse_edit; rw [← qF1] at w1 ⊢; clear qF1
  obtain ⟨F2, qF2⟩ := op F_follow; rw [← qF2] at w2 ⊢; clear qF2
  refine w1 hl fun M1 f1 => ?_
  refine w2 (by rw [inv_len]; exact hl) fun M2 f2 => ?_
  exact k _ (f1.tr f2)
/-! anchors as pairs -/
abbrev An := Str × Int
def An.d (a : An) : D := .tup [.str a.1, .int a.2]
def folA (a : An) (hs : List Hk) : An := match folG a.1 a.2 0 hs with
  | some s => ("gap", s)
  | none => (a.1, a.2 + gB (if a.1 = "line" then a.2 + 1 else a.2) hs)
theorem fol_A {a : An} {hs : List Hk} : fol a.1 a.2 hs = An.d (folA a hs) := by
  unfold fol folA
  cases folG a.1 a.2 0 hs <;> rfl
def folS (a : An) : List (List Hk) → List An
  | [] => []
  | e :: r => folA a e :: folS (folA a e) r
def E.d (e : List Hk) : D := .tup (e.map Hk.d)
theorem w_follow_all {a : An} {es : List (List Hk)} {M R Ex} (hl : es.length ≤ 100) (hh : ∀ e ∈ es, e.length ≤ 100) (k : ∀ M', Fr [] M M' → R (.tup ((a :: folS a es).map An.d)) M') : F_follow_all [An.d a, .tup (es.map E.d)] M R Ex := by
  have w1 := @w_follow
  unfold F_follow_all
  obtain ⟨F1, qF1⟩ := op F_follow; rw [← qF1] at w1 ⊢; clear qF1
  refine ⟨sz rfl, ?_⟩
  refine forL_map E.d (fun r ρ M' => ∃ acc b x, ρ = [some (An.d a), some (.tup (es.map E.d)), some (.ref M.length), x] ∧ Fr [] M M' ∧ mlst M' M.length = some (acc ++ [An.d b]) ∧ acc ++ [An.d b] ++ (folS b r).map An.d = (a :: folS a es).map An.d ∧ acc.length + r.length = es.length ∧ ∀ e ∈ r, e.length ≤ 100) (fun _ _ _ _ => trivial) ?_ ?_ _ _ _ ⟨[], a, none, rfl, Fr.app, mlst_new, by simp, by simp, hh⟩
  · rintro e r ρ M1 Kn ⟨acc, b, x, rfl, fr, hm, he, hc, hq⟩ hK
    simp only [List.length_cons] at hc
    refine ⟨_, rfl, rcv_lst hm, ?_⟩
    conv => whnf
    rw [lstAt_of hm]
    conv => whnf
    rw [atI_end]
    refine w1 (hq e (by simp)) fun M2 f2 => ?_
    have m2 := f2.lst hm
    conv => whnf
    rw [m2]
    refine ⟨Nat.lt_of_le_of_lt (show (acc ++ [An.d b]).length ≤ 101 by simp; omega) (by decide), ?_⟩
    refine hK _ _ ⟨acc ++ [An.d b], folA b e, _, rfl, (fr.tr f2).set (.inr (Nat.le_refl _)), ?_, ?_, by simp; omega, fun e he => hq e (by simp [he])⟩
    · rw [mlst_set (mlst_lt m2), ← fol_A]
    · rw [← he]; simp [folS]
  · rintro ρ M1 ⟨acc, b, x, rfl, fr, hm, he, hc, hq⟩
    refine cnTuple_ok hm ?_
    have : acc ++ [An.d b] = (a :: folS a es).map An.d := by rw [← he]; simp [folS]
    rw [this]
    exact k _ fr
/-! the law's own following -/
def lfolG (c g : Int) : List Hk → Int ⊕ Int
  | [] => .inl g
  | h :: r => if h.s ≤ c ∧ c < h.e then .inr (h.s + g) else lfolG c (if h.e ≤ c then g + h.n.length - h.o.length else g) r
def lfol (w : Str) (a : Int) (hs : List Hk) : D := match lfolG (if w = "gap" then a - 1 else a) 0 hs with
  | .inr s => .tup [.str "gap", .int s]
  | .inl g => .tup [.str w, .int (a + g)]
theorem w_law_follow {w : Str} {a : Int} {hs : List Hk} {M R Ex} (k : ∀ M', Fr [] M M' → R (lfol w a hs) M') : F_law_follow [.tup [.str w, .int a], .tup (hs.map Hk.d)] M R Ex := by
  conv => whnf
  rw [eqS]
  have loop : ∀ c M, (∀ M', Fr [] M M' → R (match lfolG c 0 hs with | .inr s => .tup [.str "gap", .int s] | .inl g => .tup [.str w, .int (a + g)]) M') →
      (sSeq (sAsg (eC (.int 0)) (.nm 3)) (sSeq (sFor (iSeq (eVar 1)) (.nm 4) (sSeq (sAsg (eBin opAdd (eBin opIx (eVar 4) (eC (.int 0))) (eCallB cnLen (aCons (eBin opIx (eVar 4) (eC (.int 1))) aNil))) (.nm 5))
  (sSeq (sIf (cAnd (cB (eBin opLe (eBin opIx (eVar 4) (eC (.int 0))) (eVar 2))) (cB (eBin opLt (eVar 2) (eVar 5)))) (sRet (eTup (aCons (eC (.str "gap")) (aCons (eBin opAdd (eBin opIx (eVar 4) (eC (.int 0))) (eVar 3)) aNil)))) sNop)
  (sIf (cB (eBin opLe (eVar 5) (eVar 2))) (sAsg (eBin opSub (eBin opAdd (eVar 3) (eCallB cnLen (aCons (eBin opIx (eVar 4) (eC (.int 2))) aNil))) (eCallB cnLen (aCons (eBin opIx (eVar 4) (eC (.int 1))) aNil))) (.nm 3)) sNop))))
  (sRet (eTup (aCons (eBin opIx (eVar 0) (eC (.int 0))) (aCons (eBin opAdd (eBin opIx (eVar 0) (eC (.int 1))) (eVar 3)) aNil))))))
      { nx := fun _ M1 => R .non M1, rt := R, bk := fun _ _ => False, ct := fun _ _ => False, ex := fun x _ M1 => Ex x M1 } [some (.tup [.str w, .int a]), some (.tup (hs.map Hk.d)), some (.int c), none, none, none] M := by
    intro c M k
    refine forL_map Hk.d (fun r ρ M' => ∃ g x y, ρ = [some (.tup [.str w, .int a]), some (.tup (hs.map Hk.d)), some (.int c), some (.int g), x, y] ∧ M' = M ∧ lfolG c 0 hs = lfolG c g r) (fun _ _ _ _ => trivial) ?_ ?_ _ _ _ ⟨0, none, none, rfl, rfl, rfl⟩
    · rintro h r ρ M1 Kn ⟨g, x, y, rfl, rfl, he⟩ hK
      refine ⟨_, rfl, ?_⟩
      conv => whnf
      refine bm (fun e1 => ?_) (fun e1 => ?_)
      · conv => whnf
        refine bm (fun e2 => ?_) (fun e2 => ?_)
        · refine ⟨sz rfl, ?_⟩
          have k := k _ Fr.refl
          rw [he] at k
          unfold lfolG at k
          rw [if_pos ⟨of_decide_eq_true e1, of_decide_eq_true e2⟩] at k
          exact k
        · have e2 := of_decide_eq_false e2
          conv => whnf
          refine bm (fun e3 => ?_) (fun e3 => ?_)
          · refine hK _ _ ⟨_, _, _, rfl, rfl, ?_⟩
            rw [he, lfolG, if_neg (fun z => e2 z.2), if_pos (show h.e ≤ c from of_decide_eq_true e3)]
          · refine hK _ _ ⟨_, _, _, rfl, rfl, ?_⟩
            rw [he, lfolG, if_neg (fun z => e2 z.2), if_neg (show ¬h.e ≤ c from of_decide_eq_false e3)]
      · have e1 := of_decide_eq_false e1
        conv => whnf
        refine bm (fun e3 => ?_) (fun e3 => ?_)
        · refine hK _ _ ⟨_, _, _, rfl, rfl, ?_⟩
          rw [he, lfolG, if_neg (fun z => e1 z.1), if_pos (show h.e ≤ c from of_decide_eq_true e3)]
        · refine hK _ _ ⟨_, _, _, rfl, rfl, ?_⟩
          rw [he, lfolG, if_neg (fun z => e1 z.1), if_neg (show ¬h.e ≤ c from of_decide_eq_false e3)]
    · rintro ρ M1 ⟨g, x, y, rfl, rfl, he⟩
      refine ⟨sz rfl, ?_⟩
      have k := k _ Fr.refl
      rw [he] at k
      exact k
  unfold lfol at k
  by_cases e : w = "gap"
  · rw [decide_eq_true e]
    rw [if_pos e] at k
    exact loop _ _ k
  · rw [decide_eq_false e]
    rw [if_neg e] at k
    exact loop _ _ k
end K28

set_option maxHeartbeats 400000
namespace K28
open PySem PySem.Spec L2 DN
/-! ### _law_same of a thing and itself -/
def fit : Nat → D → Prop
  | 0, _ => False
  | r + 1, .tup xs => xs.length ≤ 16777216 ∧ ∀ x ∈ xs, fit r x
  | _ + 1, .ref _ => False
  | _ + 1, .con _ => False
  | _ + 1, _ => True
theorem w_same_r : ∀ (r : Nat) (d : D), fit r d → ∀ {M R Ex}, R (.bl true) M → R_law_same r [d, d] M R Ex
  | 0, d, h, _, _, _, _ => h.elim
  | r + 1, d, h, M, R, Ex, k => by
    have ih := w_same_r r
    unfold R_law_same
    generalize R_law_same r = F at ih ⊢
    cases d with
    | non => exact k
    | bl b => cases b <;> exact k
    | int i =>
      conv => whnf
      rw [eqI, decide_eq_true rfl]
      exact k
    | str i =>
      conv => whnf
      rw [eqS, decide_eq_true rfl]
      exact k
    | ref n => exact h.elim
    | con n => exact h.elim
    | tup xs =>
      have hl : (xs.length : Int) < 2 ^ 62 := by have := h.1; omega
      conv => whnf
      rw [eqI, decide_eq_true rfl]
      conv => whnf
      refine ⟨hl, by omega, ?_⟩
      refine forL_ix (fun i ρ M' => M' = M ∧ ∃ x, ρ = [some (.tup xs), some (.tup xs), x]) _ (fun _ _ _ _ => trivial) ?_ ?_ _ _ ⟨rfl, _, rfl⟩
      · rintro i d ρ M1 Kn hd ⟨rfl, x, rfl⟩ hK
        obtain ⟨hi, rfl⟩ := rngD_get hd
        have hi : i < xs.length := by simpa using hi
        refine ⟨_, rfl, ?_⟩
        conv => whnf
        rw [atI_get (j := i) (by omega) (List.getElem?_eq_getElem hi)]
        conv => whnf
        rw [atI_get (j := i) (by omega) (List.getElem?_eq_getElem hi)]
        refine ih xs[i] (h.2 _ (List.getElem_mem hi)) ?_
        exact hK _ _ ⟨rfl, _, rfl⟩
      · rintro ρ M1 ⟨rfl, x, rfl⟩
        exact k
theorem w_same {d e : D} (he : d = e) (h : fit 6 d) {M R Ex} (k : R (.bl true) M) : F_law_same [d, e] M R Ex := by subst he; exact w_same_r 6 d h k
/-! ### draws -/
theorem w_law_draw {n : Nat} {v c : Int} {M R Ex} (h : mlst M n = some [.int v]) (hc : 0 < c) (hg : c.natAbs.log2 < 9000) (k : R (.int (v % c)) (M.set n (.lst [.int (v / c)]))) : F_law_draw [.ref n, .int c] M R Ex := by
  conv => whnf
  rw [lstAt_of h]
  refine ⟨hc, ?_⟩
  conv => whnf
  rw [lstAt_of h]
  refine ⟨hc, hg, ?_⟩
  conv => whnf
  rw [h]
  exact k
/-- a pool -/
def Pool (M : Mem) (n : Nat) : Prop := ∃ v, mlst M n = some [.int v]
theorem Pool.lt {M : Mem} {n : Nat} (h : Pool M n) : n < M.length := by obtain ⟨v, h⟩ := h; exact mlst_lt h
theorem Pool.fr {M M' : Mem} {n : Nat} {S : List Nat} (h : Pool M n) (f : Fr S M M') (hn : n ∉ S := by simp) : Pool M' n := by obtain ⟨v, h⟩ := h; exact ⟨v, f.lst h hn⟩
theorem w_draw {n : Nat} {c : Int} {M R Ex} (h : Pool M n) (hc : 0 < c) (hg : c < 2 ^ 64) (k : ∀ x M', 0 ≤ x → x < c → Pool M' n → Fr [n] M M' → R (.int x) M') : F_law_draw [.ref n, .int c] M R Ex := by
  obtain ⟨v, h⟩ := h
  refine w_law_draw h hc ?_ (k _ _ (Int.emod_nonneg _ (by omega)) (Int.emod_lt_of_pos _ hc) ⟨_, mlst_set (mlst_lt h)⟩ (Fr.refl.set (.inl (by simp))))
  have : c.natAbs < 2 ^ 64 := by omega
  exact Nat.lt_of_lt_of_le ((Nat.log2_lt (by omega)).mpr this) (by decide)
theorem bits64 {i : Int} (h : i.natAbs < 2 ^ 64) : Builtin.Int.intBits i ≤ 64 := by
  unfold Builtin.Int.intBits
  by_cases h0 : i = 0
  · simp [h0]
  · have hb : (i == 0) = false := by simpa using h0
    rw [hb]
    exact Nat.succ_le_of_lt ((Nat.log2_lt (by omega)).mpr h)
theorem mul_l {a b : Int} (h : a.natAbs < 2 ^ 64) : IntMulOk a b := .of_left (bits64 h)
theorem mul_r {a b : Int} (h : b.natAbs < 2 ^ 64) : IntMulOk a b := .of_right (bits64 h)
theorem w_law_pool {ns : List Int} {i : Int} {M R Ex} (hi : 0 ≤ i) (hi2 : i < 1000) (k : ∀ M' n, M.length ≤ n → Pool M' n → Fr [] M M' → R (.ref n) M') : F_law_pool [.con (ns.map D.int), .int i] M R Ex := by
  have loop : ∀ c M, (∀ M' n, M.length ≤ n → Pool M' n → Fr [] M M' → R (.ref n) M') →
     (sSeq (sIf (cAnd (cB (eBin opLt (eVar 1) (eCallB cnLen (aCons (eVar 0) aNil)))) (cB (eBin opGe (eVar 2) (eBin opPow (eC (.int 10)) (eC (.int 18)))))) (sRet (eLst (aCons (eVar 2) aNil))) sNop)
  (sSeq (sAsg (eBin opMod (eCallB cnInt (aCons (eBin opAdd (eVar 2) (eBin opMul (eC (.int 1009)) (eVar 1))) aNil)) (eC (.int 2147483647))) (.nm 3))
  (sSeq (sAsg (eC (.int 0)) (.nm 4))
  (sSeq (sFor (iRange1 (aCons (eC (.int 10)) aNil)) (.nm 5) (sSeq (sAsg (eBin opMod (eCallB cnInt (aCons (eBin opAdd (eBin opAdd (eBin opAdd (eBin opMul (eVar 3) (eC (.int 48271))) (eBin opMul (eC (.int 11)) (eVar 5))) (eVar 1)) (eC (.int 1))) aNil)) (eC (.int 2147483647))) (.nm 3))
  (sSeq (sAsg (eBin opMod (eCallB cnInt (aCons (eBin opAdd (eBin opAdd (eBin opMul (eVar 3) (eVar 3)) (eBin opMul (eC (.int 69621)) (eVar 5))) (eC (.int 5))) aNil)) (eC (.int 2147483399))) (.nm 3))
  (sAsg (eBin opAdd (eBin opMul (eVar 4) (eC (.int 2147483399))) (eVar 3)) (.nm 4)))))
  (sRet (eLst (aCons (eVar 4) aNil)))))))
      { nx := fun _ M1 => R .non M1, rt := R, bk := fun _ _ => False, ct := fun _ _ => False, ex := fun x _ M1 => Ex x M1 } [some (.con (ns.map D.int)), some (.int i), some (.int c), none, none, none] M := by
    intro c M k
    have rest : ∀ v : Int, ([D.int v] : List D).length ≤ sizeLine ∧ R (.ref M.length) (M ++ [.lst [.int v]]) := fun v => ⟨sz rfl, k _ _ (Nat.le_refl _) ⟨v, mlst_new⟩ Fr.app⟩
    have body : (sSeq (sAsg (eBin opMod (eCallB cnInt (aCons (eBin opAdd (eVar 2) (eBin opMul (eC (.int 1009)) (eVar 1))) aNil)) (eC (.int 2147483647))) (.nm 3))
  (sSeq (sAsg (eC (.int 0)) (.nm 4))
  (sSeq (sFor (iRange1 (aCons (eC (.int 10)) aNil)) (.nm 5) (sSeq (sAsg (eBin opMod (eCallB cnInt (aCons (eBin opAdd (eBin opAdd (eBin opAdd (eBin opMul (eVar 3) (eC (.int 48271))) (eBin opMul (eC (.int 11)) (eVar 5))) (eVar 1)) (eC (.int 1))) aNil)) (eC (.int 2147483647))) (.nm 3))
  (sSeq (sAsg (eBin opMod (eCallB cnInt (aCons (eBin opAdd (eBin opAdd (eBin opMul (eVar 3) (eVar 3)) (eBin opMul (eC (.int 69621)) (eVar 5))) (eC (.int 5))) aNil)) (eC (.int 2147483399))) (.nm 3))
  (sAsg (eBin opAdd (eBin opMul (eVar 4) (eC (.int 2147483399))) (eVar 3)) (.nm 4)))))
  (sRet (eLst (aCons (eVar 4) aNil))))))
      { nx := fun _ M1 => R .non M1, rt := R, bk := fun _ _ => False, ct := fun _ _ => False, ex := fun x _ M1 => Ex x M1 } [some (.con (ns.map D.int)), some (.int i), some (.int c), none, none, none] M := by
      refine ⟨mul_l (by decide), by decide, by decide, by decide, ?_⟩
      refine forL_ix (fun j ρ M' => M' = M ∧ ∃ n t x, ρ = [some (.con (ns.map D.int)), some (.int i), some (.int c), some (.int n), some (.int t), x] ∧ 0 ≤ n ∧ n < 2147483647) _ (fun _ _ _ _ => trivial) ?_ ?_ _ _ ⟨rfl, _, _, _, rfl, Int.emod_nonneg _ (by decide), Int.emod_lt_of_pos _ (by decide)⟩
      · rintro j d ρ M1 Kn hd ⟨rfl, n, t, x, rfl, h0, h1⟩ hK
        obtain ⟨hj, rfl⟩ := rngD_get hd
        refine ⟨_, rfl, mul_r (by decide), mul_l (by decide), by decide, ?_⟩
        refine ⟨mul_l (by omega), mul_l (by decide), by decide, ?_⟩
        refine ⟨mul_r (by decide), ?_⟩
        exact hK _ _ ⟨rfl, _, _, _, rfl, Int.emod_nonneg _ (by decide), Int.lt_of_lt_of_le (Int.emod_lt_of_pos _ (by decide)) (by decide)⟩
      · rintro ρ M1 ⟨rfl, n, t, x, rfl, h0, h1⟩
        exact rest t
    conv => whnf
    refine bm (fun e1 => ?_) (fun e1 => ?_)
    · refine ⟨⟨by decide, by decide, by decide⟩, ?_⟩
      conv => whnf
      refine bm (fun e2 => ?_) (fun e2 => ?_)
      · exact rest c
      · exact body
    · exact body
  conv => whnf
  refine bm (fun e1 => ?_) (fun e1 => ?_)
  · have hl : 0 < ((ns.map D.int).length : Int) := of_decide_eq_true e1
    refine ⟨hl, ?_⟩
    have h0 : 0 ≤ i % ((ns.map D.int).length : Int) := Int.emod_nonneg _ (by omega)
    have h1 : i % ((ns.map D.int).length : Int) < (ns.map D.int).length := Int.emod_lt_of_pos _ hl
    obtain ⟨d, a1, a2⟩ := atI_int h0 h1
    rw [List.getElem?_map] at a2
    cases e3 : ns[(i % ((ns.map D.int).length : Int)).toNat]? with
    | none => rw [e3] at a2; cases a2
    | some z =>
      rw [e3] at a2; cases a2
      conv => whnf
      rw [a1]
      refine ⟨⟨by decide, by decide, by decide⟩, ⟨by decide, by decide, by decide⟩, by unfold IntMulOk; decide +kernel, by decide +kernel, ?_⟩
      exact loop _ _ k
  · exact loop _ _ k

/-! ### lines, texts -/
theorem ascii_ix {z : Str} {i : Int} (h0 : 0 ≤ i) (h1 : i < z.cps.toList.length) : ∃ c, atI z.cps.toList i = some c := by
  obtain ⟨c, e, _⟩ := atI_int h0 h1
  exact ⟨c, e⟩
theorem w_law_line {n : Nat} {p : Bool} {M R Ex} (h : Pool M n) (k : ∀ x M', Pool M' n → Fr [n] M M' → R (.str x) M') : F_law_line [.ref n, .bl p] M R Ex := by
  have w1 := @w_draw
  unfold F_law_line
  obtain ⟨F1, qF1⟩ := op F_law_draw; rw [← qF1] at w1 ⊢; clear qF1
  cases p with
  | true =>
    refine ⟨sz rfl, ?_⟩
    refine w1 (h.fr (Fr.app (S := []))) (by decide) (by decide) fun x M1 x0 x1 p1 f1 => ?_
    obtain ⟨d, a1, a2⟩ := atI_int (xs := [D.str "a", .str "b", .str "", .str "a b", .str "c", .str "aa"]) x0 x1
    conv => whnf
    rw [lstAt_of (f1.lst (mlst_new) (by simp; exact Nat.ne_of_gt h.lt))]
    conv => whnf
    rw [a1]
    have hd : txs [D.str "a", .str "b", .str "", .str "a b", .str "c", .str "aa"] = true := rfl
    obtain ⟨y, rfl⟩ := txs_iff.mp hd d (List.mem_of_getElem? a2)
    exact k y _ p1 (Fr.app.tr f1)
  | false =>
    refine ⟨by decide +kernel, sz rfl, ?_⟩
    refine w1 (h.fr (Fr.app (S := []))) (by decide) (by decide) fun x M1 x0 x1 p1 f1 => ?_
    obtain ⟨d, a1, a2⟩ := atI_int (xs := [D.int 0, .int 1, .int 1, .int 2, .int 3, .int 40]) x0 x1
    conv => whnf
    rw [lstAt_of (f1.lst (mlst_new) (by simp; exact Nat.ne_of_gt h.lt))]
    conv => whnf
    rw [a1]
    have f2 := (Fr.app (S := [n])).tr f1
    have hd : ∃ j : Int, d = .int j ∧ 0 ≤ j ∧ j ≤ 40 := by
      have := List.mem_of_getElem? a2
      simp at this
      rcases this with rfl | rfl | rfl | rfl | rfl <;> exact ⟨_, rfl, by decide, by decide⟩
    obtain ⟨j, rfl, j0, j1⟩ := hd
    conv => whnf
    rw [eqI]
    refine bm (fun e => ?_) (fun e => ?_)
    · refine w1 p1 (by decide) (by decide) fun x M2 x0 x1 p2 f3 => ?_
      refine ⟨by decide +kernel, ?_⟩
      obtain ⟨c, ec⟩ := ascii_ix (z := (Str.ofString " !\"#$&'()*+,-./0123456789:;<=>?@ABCDEFGHIJKLMNOPQRSTUVWXYZ[\\]^_`" ++ Str.ofString "abcdefghijklmnopqrstuvwxyz{|}~")) x0 (Int.lt_of_lt_of_le x1 (by decide +kernel))
      conv => whnf
      rw [ec]
      refine ⟨by decide, by decide, by show 1 * 40 ≤ 1000000; decide, ?_⟩
      exact k _ _ p2 (f2.tr f3)
    · conv => whnf
      refine ⟨rfl, by omega, by omega, ?_⟩
      refine lcL_inv (fun i M' => ∃ acc, mlst M' M1.length = some acc ∧ acc.length = i ∧ txs acc = true ∧ (∀ d ∈ acc, ∃ z, d = .str z ∧ z.length = 1) ∧ Pool M' n ∧ Fr [n] M M') _ (fun _ _ _ => trivial) ?_ ?_ _ ?_
      · rintro i d M2 Kc hd ⟨acc, hm, hl, ht, h1, p2, f3⟩ hK
        obtain ⟨hi, rfl⟩ := rngD_get hd
        refine ⟨_, rfl, ?_⟩
        refine w1 p2 (by decide) (by decide) fun x M3 x0 x1 p3 f4 => ?_
        refine ⟨by decide +kernel, ?_⟩
        obtain ⟨c, ec⟩ := ascii_ix (z := (Str.ofString " !\"#$&'()*+,-./0123456789:;<=>?@ABCDEFGHIJKLMNOPQRSTUVWXYZ[\\]^_`" ++ Str.ofString "abcdefghijklmnopqrstuvwxyz{|}~")) x0 (Int.lt_of_lt_of_le x1 (by decide +kernel))
        have hne : M1.length ≠ n := by have := p1.lt; omega
        have m3 := f4.lst hm (by simpa using hne)
        conv => whnf
        rw [ec]
        conv => whnf
        rw [m3]
        refine ⟨Nat.lt_of_lt_of_le (show acc.length < 41 by omega) (by decide), hK _ ⟨_, mlst_set (mlst_lt m3), by simp [hl], txs_app ht rfl, ?_, ?_, ?_⟩⟩
        · intro d hd
          rcases List.mem_append.mp hd with hd | hd
          · exact h1 d hd
          · simp at hd; subst hd; exact ⟨_, rfl, rfl⟩
        · obtain ⟨v, p3⟩ := p3; exact ⟨v, mlst_setne p3 hne⟩
        · exact (f3.tr f4).set (.inr (Nat.le_trans f2.le (Nat.le_refl _)))
      · rintro M2 ⟨acc, hm, hl, ht, h1, p2, f3⟩
        rw [rngD_len] at hl
        conv => whnf
        rw [lstAt_of hm]
        conv => whnf
        obtain ⟨ys, ey, el⟩ : ∃ ys, strsD acc = some ys ∧ (ys.map (·.length)).sum = acc.length ∧ ys.length = acc.length := by
          clear hm hl ht
          induction acc with
          | nil => exact ⟨[], rfl, rfl, rfl⟩
          | cons a r ih =>
            obtain ⟨ys, e1, e2, e3⟩ := ih fun d hd => h1 d (by simp [hd])
            obtain ⟨z, rfl, hz⟩ := h1 a (by simp)
            exact ⟨z :: ys, by simp [strsD, e1], by simp [e2, hz]; omega, by simp [e3]⟩
        rw [show (some acc).bind strsD = some ys from ey]
        refine ⟨?_, k _ _ p2 f3⟩
        rw [el.1, el.2]
        show acc.length + acc.length * 0 ≤ 16777216
        omega
      · exact ⟨[], mlst_new, rfl, rfl, fun _ h => by simp at h, p1.fr (Fr.app (S := [])), f2.tr Fr.app⟩
end K28

set_option maxHeartbeats 400000
namespace K28
open PySem PySem.Spec L2 DN
theorem w_law_text {n : Nat} {p : Bool} {c : Int} {M R Ex} (h : Pool M n) (hc : 0 ≤ c) (hc2 : c ≤ 1000) (k : ∀ xs M', txs xs = true → xs.length = c.toNat → Pool M' n → Fr [n] M M' → R (.tup xs) M') : F_law_text [.ref n, .int c, .bl p] M R Ex := by
  have w1 := @w_law_line
  unfold F_law_text
  obtain ⟨F1, qF1⟩ := op F_law_line; rw [← qF1] at w1 ⊢; clear qF1
  refine ⟨by omega, by omega, ?_⟩
  refine lcL_inv (fun i M' => ∃ acc, mlst M' M.length = some acc ∧ acc.length = i ∧ txs acc = true ∧ Pool M' n ∧ Fr [n] M M') _ (fun _ _ _ => trivial) ?_ ?_ _ ⟨[], mlst_new, rfl, rfl, h.fr (Fr.app (S := [])), Fr.app⟩
  · rintro i d M2 Kc hd ⟨acc, hm, hl, ht, p2, f3⟩ hK
    obtain ⟨hi, rfl⟩ := rngD_get hd
    refine ⟨_, rfl, ?_⟩
    refine w1 p2 fun x M3 p3 f4 => ?_
    have hne : M.length ≠ n := Nat.ne_of_gt h.lt
    have m3 := f4.lst hm (by simpa using hne)
    conv => whnf
    rw [m3]
    refine ⟨Nat.lt_of_lt_of_le (show acc.length < 1001 by omega) (by decide), hK _ ⟨_, mlst_set (mlst_lt m3), by simp [hl], txs_app ht rfl, ?_, ?_⟩⟩
    · obtain ⟨v, p3⟩ := p3; exact ⟨v, mlst_setne p3 hne⟩
    · exact (f3.tr f4).set (.inr (Nat.le_refl _))
  · rintro M2 ⟨acc, hm, hl, ht, p2, f3⟩
    rw [rngD_len] at hl
    exact cnTuple_ok hm (k _ _ ht hl p2 f3)
/-! ### edits that are right -/
def cut (xs : List D) (a b : Nat) : List D := (xs.drop a).take (b - a)
theorem cutL_int {xs : List D} {a b : Int} (h0 : 0 ≤ a) (h1 : 0 ≤ b) (h2 : b ≤ xs.length) : cutL xs (some a) (some b) = cut xs a.toNat b.toNat := by
  unfold cutL cut
  rw [sIx_lo h0]
  have hb : HT.sIx xs.length xs.length (some b) = b.toNat := by
    obtain ⟨j, rfl⟩ := Int.eq_ofNat_of_zero_le h1
    rw [HT.sIx_nat]; simp; omega
  rw [hb]
  by_cases h : a.toNat ≤ xs.length
  · rw [Nat.min_eq_left h]
  · have e1 : b.toNat - min a.toNat xs.length = 0 := by omega
    have e2 : b.toNat - a.toNat = 0 := by omega
    rw [e1, e2]; simp
/-- the hunks lie in order from low, in the text -/
def Valid (t : List D) : Int → List Hk → Prop
  | _, [] => True
  | low, h :: r => low ≤ h.s ∧ h.e ≤ t.length ∧ h.o = cut t h.s.toNat h.e.toNat ∧ txs h.n = true ∧ h.n.length ≤ 30 ∧ Valid t (h.e + 1) r
theorem Valid.snoc {t : List D} {h : Hk} : ∀ {hs : List Hk} {low : Int}, Valid t low hs → (∀ x ∈ hs, x.e + 1 ≤ h.s) → low ≤ h.s → h.e ≤ t.length → h.o = cut t h.s.toNat h.e.toNat → txs h.n = true → h.n.length ≤ 30 → Valid t low (hs ++ [h])
  | [], low, _, _, h1, h2, h3, h4, h5 => ⟨h1, h2, h3, h4, h5, trivial⟩
  | x :: r, low, v, hx, h1, h2, h3, h4, h5 => by
    obtain ⟨v1, v2, v3, v4, v5, v6⟩ := v
    exact ⟨v1, v2, v3, v4, v5, Valid.snoc v6 (fun y hy => hx y (by simp [hy])) (hx x (by simp)) h2 h3 h4 h5⟩
theorem cut_len {t : List D} {a b : Nat} (h : b ≤ t.length) : (cut t a b).length = b - a := by
  unfold cut
  rw [List.length_take, List.length_drop]
  omega
theorem w_law_edit {n : Nat} {t : List D} {p q : Bool} {M R Ex} (h : Pool M n) (ht : txs t = true) (hl : t.length ≤ 100000) (k : ∀ hs M', Valid t 0 hs → hs.length ≤ 6 → Pool M' n → Fr [n] M M' → R (.tup (hs.map Hk.d)) M') :
    F_law_edit [.ref n, .tup t, .bl p, .bl q, .int 6] M R Ex := by
  have w1 := @w_draw
  have w2 := @w_law_text
  have w3 := @w_law_line
  unfold F_law_edit
  obtain ⟨F1, qF1⟩ := op F_law_draw; rw [← qF1] at w1 ⊢; clear qF1
  obtain ⟨F2, qF2⟩ := op F_law_text; rw [← qF2] at w2 ⊢; clear qF2
  obtain ⟨F3, qF3⟩ := op F_law_line; rw [← qF3] at w3 ⊢; clear qF3
  have hlt := h.lt
  -- behind the choice of the numbers
  have rest : ∀ (many cu pu : Int) (M1 : Mem), 0 ≤ many → many ≤ 6 → 0 ≤ cu → cu ≤ 20 → 0 ≤ pu → pu ≤ 20 → Pool M1 n → Fr [n] M M1 → mlst M1 M.length = some [] →
      r_law_edit_3 F1 F2 F3 (SD.top R Ex) [some (.ref n), some (.tup t), some (.bl p), some (.bl q), some (.int 6), some (.ref M.length), some (.int 0), some (.int many), some (.int cu), some (.int pu), none, none, none, none, none, none, none] M1 := by
    intro many cu pu M1 m0 m1 c0 c1 u0 u1 p1 f1 hm
    refine ⟨by omega, by omega, ?_⟩
    refine forL_ix (fun i ρ M' => ∃ hs low x10 x11 x12 x13 x14 x15 x16, ρ = [some (.ref n), some (.tup t), some (.bl p), some (.bl q), some (.int 6), some (.ref M.length), some (.int low), some (.int many), some (.int cu), some (.int pu), x10, x11, x12, x13, x14, x15, x16] ∧
      mlst M' M.length = some (hs.map Hk.d) ∧ Valid t 0 hs ∧ (∀ x ∈ hs, x.e + 1 ≤ low) ∧ 0 ≤ low ∧ hs.length ≤ i ∧ Pool M' n ∧ Fr [n] M M') _ (fun _ _ _ _ => trivial) ?_ ?_ _ _ ⟨[], 0, none, none, none, none, none, none, none, rfl, hm, trivial, by simp, by omega, by simp, p1, f1⟩
    · rintro i d ρ M2 Kn hd ⟨hs, low, x10, x11, x12, x13, x14, x15, x16, rfl, hm, hv, hx, h0, hi, p2, f2⟩ hK
      obtain ⟨hj, rfl⟩ := rngD_get hd
      refine ⟨_, rfl, ?_⟩
      conv => whnf
      refine bm (fun e1 => ?_) (fun e1 => ?_)
      · have e1 : low ≤ t.length := of_decide_eq_true e1
        refine ⟨sz rfl, ?_⟩
        refine w1 (p2.fr (Fr.app (S := []))) (by decide) (by decide) fun x M3 y0 y1 p3 f3 => ?_
        have g3 := f2.tr (Fr.app.tr f3)
        have hm3 : mlst M3 M.length = some (hs.map Hk.d) := (Fr.app.tr f3).lst hm (by simp; omega)
        conv => whnf
        rw [lstAt_of (f3.lst mlst_new (by simp; have := f2.le; omega))]
        obtain ⟨d, a1, a2⟩ := atI_int (xs := [D.int (if 1 < (t.length : Int) - low then 1 else (t.length : Int) - low), D.int (if 3 < (t.length : Int) - low then 3 else (t.length : Int) - low), D.int ((t.length : Int) - low)]) y0 y1
        conv => whnf
        rw [a1]
        have hd : ∃ j : Int, d = .int j ∧ 0 ≤ j ∧ j ≤ (t.length : Int) - low := by
          have := List.mem_of_getElem? a2
          simp only [List.mem_cons, List.not_mem_nil, or_false] at this
          rcases this with rfl | rfl | rfl
          · refine ⟨_, rfl, ?_, ?_⟩ <;> split <;> omega
          · refine ⟨_, rfl, ?_, ?_⟩ <;> split <;> omega
          · exact ⟨_, rfl, by omega, by omega⟩
        obtain ⟨step, rfl, s0, s1⟩ := hd
        refine w1 p3 (by omega) (by omega) fun z M4 z0 z1 p4 f4 => ?_
        have g4 := g3.tr f4
        have hm4 := f4.lst hm3 (by simp; omega)
        obtain ⟨lim, hlim⟩ : ∃ lim : Int, lim = (if cu < (t.length : Int) - (low + z) then cu else (t.length : Int) - (low + z)) := ⟨_, rfl⟩
        have l0 : 0 ≤ lim := by rw [hlim]; split <;> omega
        have l1 : lim ≤ (t.length : Int) - (low + z) := by rw [hlim]; split <;> omega
        conv => whnf
        show F1 [.ref n, .int ((if cu < (t.length : Int) - (low + z) then cu else (t.length : Int) - (low + z)) + 1)] M4 _ _
        rw [← hlim]
        refine w1 p4 (by omega) (by omega) fun gone M5 b0 b1 p5 f5 => ?_
        have g5 := g4.tr f5
        have hm5 := f5.lst hm4 (by simp; omega)
        refine w1 p5 (by omega) (by omega) fun ta M6 ta0 ta1 p6 f6 => ?_
        have g6 := g5.tr f6
        have hm6 := f6.lst hm5 (by simp; omega)
        refine w2 p6 ta0 (by omega) fun xs M7 tx hxl p7 f7 => ?_
        have g7 := g6.tr f7
        have hm7 := f7.lst hm6 (by simp; omega)
        have ec : cutL t (some (low + z)) (some (low + z + gone)) = cut t (low + z).toNat (low + z + gone).toNat := cutL_int (by omega) (by omega) (by omega)
        have lc : (cut t (low + z).toNat (low + z + gone).toNat).length = gone.toNat := by rw [cut_len (by omega)]; omega
        -- behind the extra line
        have last : ∀ (ys : List D) (M8 : Mem), txs ys = true → ys.length ≤ 30 → Pool M8 n → Fr [n] M M8 → mlst M8 M.length = some (hs.map Hk.d) →
            r_law_edit_1 F1 F2 F3 ((SD.top R Ex).sq (sRet (eCallB cnTuple (aCons (eVar 5) aNil))) |>.lp Kn) [some (.ref n), some (.tup t), some (.bl p), some (.bl q), some (.int 6), some (.ref M.length), some (.int low), some (.int many), some (.int cu), some (.int pu), some (.int (0 + (i : Int))), some (.int ((t.length : Int) - low)), some (.int step), some (.int (low + z)), some (.int gone), some (.tup ys), some (.tup (cut t (low + z).toNat (low + z + gone).toNat))] M8 := by
          intro ys M8 ty ly p8 f8 hm8
          refine ⟨rcv_lst hm8, sz rfl, ?_⟩
          conv => whnf
          rw [hm8]
          refine ⟨Nat.lt_of_lt_of_le (show (hs.map Hk.d).length < 100 by simp; omega) (by decide), ?_⟩
          have he : ∀ h : Hk, h.s = low + z → h.o.length = gone.toNat → h.e = low + z + gone := fun h e1 e2 => by unfold Hk.e; rw [e1, e2]; omega
          have hne : M.length ≠ n := by omega
          refine hK _ _ ⟨hs ++ [⟨low + z, cut t (low + z).toNat (low + z + gone).toNat, ys⟩], low + z + gone + 1, _, _, _, _, _, _, _, rfl, ?_, ?_, ?_, by omega, by simp; omega, ?_, f8.set (.inr (Nat.le_refl _))⟩
          · rw [mlst_set (mlst_lt hm8)]; simp; rfl
          · refine hv.snoc (fun x hx' => ?_) (by show (0 : Int) ≤ low + z; omega) (by rw [he _ rfl lc]; omega) (by rw [he _ rfl lc]) ty ly
            have := hx x hx'
            show x.e + 1 ≤ low + z
            omega
          · intro x hx'
            rcases List.mem_append.mp hx' with hx' | hx'
            · have := hx x hx'; omega
            · simp at hx'; subst hx'; rw [he _ rfl lc]; omega
          · obtain ⟨v, p8⟩ := p8; exact ⟨v, mlst_setne p8 hne⟩
        conv => whnf
        rw [ec]
        have tc : txs (cut t (low + z).toNat (low + z + gone).toNat) = true := txs_take (txs_drop ht)
        rw [pyM_txs tc, pyM_txs tx]
        refine ⟨dep_txs tc, ?_⟩
        obtain ⟨b, eb, _⟩ := eqv_txs tc tx
        rw [eb]
        conv => whnf
        refine bm (fun e2 => ?_) (fun e2 => ?_)
        · refine w3 p7 fun l M8 p8 f8 => ?_
          refine ⟨sz rfl, ?_⟩
          refine ⟨Nat.le_trans (show xs.length + [D.str l].length ≤ 100 by simp; omega) (by decide), ?_⟩
          exact last _ _ (txs_app tx rfl) (by simp; omega) p8 (g7.tr f8) (f8.lst hm7 (by simp; omega))
        · exact last _ _ tx (by omega) p7 g7 hm7
      · exact hK _ _ ⟨hs, low, _, _, _, _, _, _, _, rfl, hm, hv, hx, h0, by omega, p2, f2⟩
    · rintro ρ M2 ⟨hs, low, x10, x11, x12, x13, x14, x15, x16, rfl, hm, hv, hx, h0, hi, p2, f2⟩
      rw [rngD_len] at hi
      exact cnTuple_ok hm (k _ _ hv (by omega) p2 f2)
  refine ⟨sz rfl, sz rfl, ?_⟩
  refine w1 (h.fr (Fr.app (S := [])) |>.fr (Fr.app (S := []))) (by decide) (by decide) fun x M1 x0 x1 p1 f1 => ?_
  have f0 : Fr [n] M M1 := Fr.app.tr (Fr.app.tr f1)
  have hm1 : mlst M1 M.length = some [] := (Fr.app.tr f1).lst mlst_new (by simp; omega)
  conv => whnf
  rw [lstAt_of (f1.lst mlst_new (by simp; omega))]
  obtain ⟨d, a1, a2⟩ := atI_int (xs := [D.int 1, D.int 2, D.int 1, D.int 3, D.int 1, D.int 2, D.int 4, D.int 6]) x0 x1
  conv => whnf
  rw [a1]
  have hd : ∃ j : Int, d = .int j ∧ 0 ≤ j := by
    have := List.mem_of_getElem? a2
    simp only [List.mem_cons, List.not_mem_nil, or_false] at this
    rcases this with rfl | rfl | rfl | rfl | rfl | rfl | rfl | rfl <;> exact ⟨_, rfl, by decide⟩
  obtain ⟨j, rfl, j0⟩ := hd
  cases q with
  | true => exact rest _ _ _ _ (by decide) (by decide) (by decide) (by decide) (by decide) (by decide) p1 f0 hm1
  | false => exact rest (if j < 6 then j else 6) 3 2 _ (by split <;> omega) (by split <;> omega) (by decide) (by decide) (by decide) (by decide) p1 f0 hm1
end K28

set_option maxHeartbeats 400000
namespace K28
open PySem PySem.Spec L2 DN
/-! ### an edit applied -/
def ap (t : List D) : Int → List Hk → List D
  | d, [] => t.drop d.toNat
  | d, h :: r => cut t d.toNat h.s.toNat ++ h.n ++ ap t h.e r
theorem ap_len {t : List D} : ∀ (hs : List Hk) (low d : Int), 0 ≤ d → d ≤ low → low ≤ t.length + 1 → d ≤ t.length → Valid t low hs → ((ap t d hs).length : Int) = t.length - d + gs hs
  | [], low, d, h0, h1, h2, h3, _ => by simp [ap, gs]; omega
  | h :: r, low, d, h0, h1, h2, h3, v => by
    obtain ⟨v1, v2, v3, v4, v5, v6⟩ := v
    have e0 : h.s ≤ h.e := by unfold Hk.e; omega
    have ih := ap_len r (h.e + 1) h.e (by omega) (by omega) (by omega) v2 v6
    have c := cut_len (t := t) (a := d.toNat) (b := h.s.toNat) (by omega)
    simp only [ap, List.length_append, c]
    simp only [gs, List.map_cons, List.sum_cons, Int.natCast_add] at ih ⊢
    unfold Hk.g Hk.e at *
    omega
theorem gs_le {t : List D} : ∀ (hs : List Hk) (low : Int), Valid t low hs → gs hs ≤ 30 * hs.length
  | [], _, _ => by simp [gs]
  | h :: r, low, v => by
    obtain ⟨v1, v2, v3, v4, v5, v6⟩ := v
    have ih := gs_le r _ v6
    have e : gs (h :: r) = h.g + gs r := by simp [gs]
    rw [e, List.length_cons]
    unfold Hk.g
    omega
theorem ap_txs {t : List D} (ht : txs t = true) : ∀ (hs : List Hk) (low d : Int), Valid t low hs → txs (ap t d hs) = true
  | [], _, _, _ => txs_drop ht
  | h :: r, low, d, v => by
    obtain ⟨v1, v2, v3, v4, v5, v6⟩ := v
    exact txs_app (txs_app (txs_take (txs_drop ht)) v4) (ap_txs ht r _ _ v6)
theorem w_law_apply {t : List D} {hs : List Hk} {M R Ex} (ht : txs t = true) (hl : t.length ≤ 100000) (hv : Valid t 0 hs) (hn : hs.length ≤ 6) (k : ∀ M', Fr [] M M' → R (.tup (ap t 0 hs)) M') : F_law_apply [.tup (hs.map Hk.d), .tup t] M R Ex := by
  have total : ((ap t 0 hs).length : Int) ≤ t.length + 180 := by
    rw [ap_len hs 0 0 (by omega) (by omega) (by omega) (by omega) hv]
    have := gs_le hs 0 hv
    omega
  refine ⟨sz rfl, ?_⟩
  refine forL_map Hk.d (fun r ρ M' => ∃ m acc dn x, ρ = [some (.tup (hs.map Hk.d)), some (.tup t), some (.ref m), some (.int dn), x] ∧ mlst M' m = some acc ∧ acc ++ ap t dn r = ap t 0 hs ∧ 0 ≤ dn ∧ dn ≤ t.length ∧ (∃ low, dn ≤ low ∧ Valid t low r) ∧ Fr [] M M') (fun _ _ _ _ => trivial) ?_ ?_ _ _ _ ⟨_, [], 0, none, rfl, mlst_new, by simp, by omega, by omega, ⟨0, by omega, hv⟩, Fr.app⟩
  · rintro h r ρ M1 Kn ⟨m, acc, dn, x, rfl, hm, he, h0, h1, ⟨low, hlow, v⟩, fr⟩ hK
    obtain ⟨v1, v2, v3, v4, v5, v6⟩ := v
    have e0 : h.s ≤ h.e := by unfold Hk.e; omega
    have lt : ((acc ++ (cut t dn.toNat h.s.toNat ++ h.n ++ ap t h.e r)).length : Int) ≤ t.length + 180 := by rw [← he] at total; exact total
    simp only [List.length_append, Int.natCast_add] at lt
    refine ⟨_, rfl, ?_⟩
    conv => whnf
    have c1 : decide ((t.length : Int) < h.s + (h.o.length : Int)) = false := decide_eq_false (by have : h.s + (h.o.length : Int) = h.e := rfl; omega)
    rw [c1]
    conv => whnf
    have ec : cutL t (some h.s) (some (h.s + (h.o.length : Int))) = h.o := by rw [show h.s + (h.o.length : Int) = h.e from rfl, cutL_int (by omega) (by omega) v2]; exact v3.symm
    have to : txs h.o = true := by rw [v3]; exact txs_take (txs_drop ht)
    rw [ec, pyM_txs to]
    refine ⟨dep_txs to, ?_⟩
    obtain ⟨b, eb, hb⟩ := eqv_txs to to
    rw [eb, hb.mpr rfl]
    have ed : cutL t (some dn) (some h.s) = cut t dn.toNat h.s.toNat := cutL_int h0 (by omega) (by omega)
    conv => whnf
    rw [ed, Fr.app.lst (S := []) hm, mlst_new]
    refine ⟨Nat.le_trans (show _ ≤ 200000 by omega) (by decide), ?_⟩
    conv => whnf
    rw [Fr.app.lst (S := []) mlst_new, mlst_new]
    refine ⟨Nat.le_trans (show _ ≤ 200000 by simp; omega) (by decide), ?_⟩
    refine hK _ _ ⟨_, _, _, _, rfl, mlst_new, ?_, ?_, v2, ⟨h.e + 1, ?_, v6⟩, fr.tr (Fr.app.tr (Fr.app.tr (Fr.app.tr Fr.app)))⟩
    · rw [← he]
      show (acc ++ cut t dn.toNat h.s.toNat ++ h.n) ++ ap t h.e r = acc ++ (cut t dn.toNat h.s.toNat ++ h.n ++ ap t h.e r)
      simp
    · show 0 ≤ h.e; omega
    · show h.e ≤ h.e + 1; omega
  · rintro ρ M1 ⟨m, acc, dn, x, rfl, hm, he, h0, h1, hw, fr⟩
    have ed : cutL t (some dn) none = t.drop dn.toNat := by
      unfold cutL
      rw [sIx_lo h0, HT.sIx_none, Nat.min_eq_left (by omega)]
      exact List.take_of_length_le (by simp)
    have he : acc ++ t.drop dn.toNat = ap t 0 hs := he
    conv => whnf
    rw [lstAt_of hm]
    conv => whnf
    rw [ed]
    refine ⟨Nat.le_trans (show _ ≤ 200000 by rw [← List.length_append, he]; omega) (by decide), ?_⟩
    show R (.tup (acc ++ t.drop dn.toNat)) M1
    rw [he]
    exact k _ fr
/-! ### anchors -/
def isA (size : Int) : D → Bool
  | .tup [.str w, .int j] => (decide (0 ≤ j)) && (if w = "line" then decide (j < size) else if w = "gap" then decide (j ≤ size) else false)
  | _ => false
inductive Near : D → Prop
  | mk (w : Str) (j : Int) : w = "line" ∨ w = "gap" → Near (.tup [.str w, .int j])
  | odd (w : Str) (d : D) : w = "line" ∨ w = "gap" → d ∈ [D.tup [.str w, .bl true], .tup [.str w, .str "0"], .tup [.str w, .non], .tup [.str w, .tup [.int 0]], .tup [.str w], .tup [.str w, .int 0, .int 0], .str w, .tup [], .non] → Near d
  | kd (y : D) : y ∈ [D.str "", .str "lines", .str "GAP", .int 0, .non, .tup [.str "line"]] → Near (.tup [y, .int 0])
theorem w_is_index {j c : Int} {M R Ex} (k : R (.bl (decide (0 ≤ j) && decide (j < c))) M) : F_is_index [.int j, .int c] M R Ex := by
  conv => whnf
  refine cm (fun e => ?_) (fun e => ?_)
  · rw [e] at k; exact k
  · rw [e] at k; exact k
theorem isA_line {size j : Int} : isA size (.tup [.str "line", .int j]) = (decide (0 ≤ j) && decide (j < size)) := by simp [isA]
theorem isA_gap {size j : Int} : isA size (.tup [.str "gap", .int j]) = (decide (0 ≤ j) && decide (j ≤ size)) := by simp [isA, show ¬ (Str.ofString "gap" = Str.ofString "line") by decide]
theorem w_is_anchor {size : Int} {v : D} (hv : Near v) {M R Ex} (k : R (.bl (isA size v)) M) : F_is_anchor [.int size, v] M R Ex := by
  cases hv with
  | mk w j hw =>
    have w1 := @w_is_index
    unfold F_is_anchor
    obtain ⟨F1, qF1⟩ := op F_is_index; rw [← qF1] at w1 ⊢; clear qF1
    rcases hw with rfl | rfl
    · rw [isA_line] at k; exact w1 k
    · rw [isA_gap] at k
      refine w1 ?_
      have e : decide (j < size + 1) = decide (j ≤ size) := by simp [Int.lt_add_one_iff]
      rw [e]; exact k
  | odd w d hw hd =>
    simp only [List.mem_cons, List.not_mem_nil, or_false] at hd
    rcases hw with rfl | rfl <;> rcases hd with rfl | rfl | rfl | rfl | rfl | rfl | rfl | rfl | rfl <;> exact k
  | kd y hy =>
    simp only [List.mem_cons, List.not_mem_nil, or_false] at hy
    rcases hy with rfl | rfl | rfl | rfl | rfl | rfl
    all_goals first | exact k | skip
    conv => whnf
    refine ⟨by decide, ?_⟩
    conv => whnf
    refine ⟨by decide, ?_⟩
    exact k
theorem w_law_is_anchor {size : Int} {v : D} (hv : Near v) {M R Ex} (k : R (.bl (isA size v)) M) : F_law_is_anchor [.int size, v] M R Ex := by
  cases hv with
  | mk w j hw =>
    conv => whnf
    refine bm (fun e => ?_) (fun e => ?_)
    · have e0 : decide (0 ≤ j) = false := decide_eq_false (by have := of_decide_eq_true e; omega)
      rcases hw with rfl | rfl
      · rw [isA_line, e0] at k; exact k
      · rw [isA_gap, e0] at k; exact k
    · have e0 : decide (0 ≤ j) = true := decide_eq_true (by have := of_decide_eq_false e; omega)
      rcases hw with rfl | rfl
      · rw [isA_line, e0] at k
        cases e2 : decide (j < size) with
        | true => 
          rw [e2] at k
          conv => whnf
          rw [e2]
          exact k
        | false =>
          rw [e2] at k
          conv => whnf
          rw [e2]
          exact k
      · rw [isA_gap, e0] at k; exact k
  | odd w d hw hd =>
    simp only [List.mem_cons, List.not_mem_nil, or_false] at hd
    rcases hw with rfl | rfl <;> rcases hd with rfl | rfl | rfl | rfl | rfl | rfl | rfl | rfl | rfl <;> exact k
  | kd y hy =>
    simp only [List.mem_cons, List.not_mem_nil, or_false] at hy
    rcases hy with rfl | rfl | rfl | rfl | rfl | rfl
    all_goals first | exact k | skip
    conv => whnf
    refine ⟨by decide, ?_⟩
    conv => whnf
    refine ⟨by decide, ?_⟩
    exact k
end K28

set_option maxHeartbeats 400000
namespace K28
open PySem PySem.Spec L2 DN
/-! ### the mathematics of following -/
def Srt : Int → List Hk → Prop
  | _, [] => True
  | low, h :: r => low ≤ h.s ∧ Srt h.e r
theorem Srt.mono : ∀ {hs : List Hk} {a b : Int}, Srt b hs → a ≤ b → Srt a hs
  | [], _, _, _, _ => trivial
  | h :: r, a, b, s, l => ⟨by have := s.1; omega, s.2⟩
theorem Hk.se (h : Hk) : h.s ≤ h.e := by unfold Hk.e; omega
theorem Valid.srt {t : List D} : ∀ {hs : List Hk} {low : Int}, Valid t low hs → Srt low hs
  | [], _, _ => trivial
  | h :: r, low, v => ⟨v.1, v.2.2.2.2.2.srt.mono (by omega)⟩
def inside (c : Int) (h : Hk) : Bool := decide (h.s ≤ c) && decide (c < h.e)
theorem low_none : ∀ {hs : List Hk} {low c g : Int}, Srt low hs → c < low → lfolG c g hs = .inl g ∧ hs.filter (inside c) = [] ∧ hs.filter (fun h => decide (h.e ≤ c)) = []
  | [], _, _, _, _, _ => ⟨rfl, rfl, rfl⟩
  | h :: r, low, c, g, s, l => by
    have := s.1
    have se := h.se
    obtain ⟨i1, i2, i3⟩ := low_none (g := g) s.2 (show c < h.e by omega)
    refine ⟨?_, ?_, ?_⟩
    · rw [lfolG, if_neg (by omega), if_neg (by omega)]; exact i1
    · rw [List.filter_cons, if_neg (by simp [inside]; omega)]; exact i2
    · rw [List.filter_cons, if_neg (by simp; omega)]; exact i3
theorem folG_none {w : Str} {a c : Int} (hc : ∀ h, hit w a h = inside c h) : ∀ {hs : List Hk} {low g : Int}, Srt low hs → c < low → folG w a g hs = none
  | [], _, _, _, _ => rfl
  | h :: r, low, g, s, l => by
    have := s.1
    have se := h.se
    rw [folG, hc, if_neg (by simp [inside]; omega)]
    exact folG_none hc s.2 (by omega)
theorem gs_cons {h : Hk} {r : List Hk} : gs (h :: r) = h.g + gs r := by simp [gs]
theorem fol_l {w : Str} {a c : Int} (hc : ∀ h, hit w a h = inside c h) : ∀ {hs : List Hk} {low g : Int}, Srt low hs →
    lfolG c g hs = match folG w a g hs with | some s => .inr s | none => .inl (g + gs (hs.filter fun h => decide (h.e ≤ c)))
  | [], _, _, _ => by simp [folG, lfolG, gs]
  | h :: r, low, g, s => by
    have := s.1
    have se := h.se
    by_cases e1 : h.s ≤ c ∧ c < h.e
    · rw [lfolG, if_pos e1, folG, hc, if_pos (by simp [inside]; exact e1)]
    · have ei : inside c h = false := by simp [inside]; omega
      rw [lfolG, if_neg e1, folG, hc, ei]
      simp only [Bool.false_eq_true, if_false]
      by_cases e2 : h.e ≤ c
      · rw [if_pos e2, List.filter_cons, if_pos (by simpa using e2), gs_cons]
        have ih := fol_l hc (g := g + h.g) s.2
        rw [show g + h.n.length - h.o.length = g + h.g by unfold Hk.g; omega, ih]
        cases folG w a (g + h.g) r with
        | some _ => rfl
        | none => simp; omega
      · rw [if_neg e2, List.filter_cons, if_neg (by simpa using e2)]
        obtain ⟨i1, i2, i3⟩ := low_none (g := g) s.2 (show c < h.e by omega)
        rw [i1, folG_none hc s.2 (show c < h.e by omega), i3]
        simp [gs]
def car (w : Str) (a : Int) : Int := if w = "gap" then a - 1 else a
theorem ne_lg : ¬ (("line" : Str) = "gap") := by decide
theorem ne_gl : ¬ (("gap" : Str) = "line") := by decide
theorem hit_car {w : Str} (hw : w = "line" ∨ w = "gap") {a : Int} (h : Hk) : hit w a h = inside (car w a) h := by
  rcases hw with rfl | rfl
  · unfold hit inside car; rw [if_pos rfl, if_neg ne_lg]
  · unfold hit inside car; rw [if_neg ne_gl, if_pos rfl]
    rw [show decide (h.s < a) = decide (h.s ≤ a - 1) by simp; omega, show decide (a ≤ h.e) = decide (a - 1 < h.e) by simp; omega]
theorem fol_eq {w : Str} (hw : w = "line" ∨ w = "gap") {a low : Int} {hs : List Hk} (s : Srt low hs) : fol w a hs = lfol w a hs := by
  unfold fol lfol
  have e := fol_l (hit_car hw (a := a)) (g := 0) s
  unfold car at e
  rw [e]
  cases folG w a 0 hs with
  | some _ => rfl
  | none =>
    have : (hs.filter fun h => decide (h.e < (if w = "line" then a + 1 else a))) = hs.filter fun h => decide (h.e ≤ (if w = "gap" then a - 1 else a)) := by
      congr 1; funext h
      rcases hw with rfl | rfl
      · rw [if_pos rfl, if_neg ne_lg]; simp; omega
      · rw [if_neg ne_gl, if_pos rfl]; simp; omega
    unfold gB
    rw [this]
    simp
theorem inv_srt : ∀ {hs : List Hk} {low g : Int}, Srt low hs → Srt (low + g) (inv g hs)
  | [], _, _, _ => trivial
  | h :: r, low, g, s => by
    refine ⟨by show low + g ≤ h.s + g; have := s.1; omega, ?_⟩
    have := inv_srt (g := g + h.g) s.2
    have e : (⟨h.s + g, h.n, h.o⟩ : Hk).e = h.e + (g + h.g) := by unfold Hk.e Hk.g; show h.s + g + (h.n.length : Int) = _; omega
    rw [e]
    exact this
/-- the carried place never falls before the text's start -/
theorem carried : ∀ {hs : List Hk} {low d c g G : Int}, Srt low hs → d ≤ low → d ≤ c → lfolG c g hs = .inl G → 0 ≤ c - d + G - g
  | [], _, _, _, _, _, _, _, _, e => by cases e; omega
  | h :: r, low, d, c, g, G, s, h1, h2, e => by
    have := s.1
    have se := h.se
    by_cases e1 : h.s ≤ c ∧ c < h.e
    · rw [lfolG, if_pos e1] at e; cases e
    · rw [lfolG, if_neg e1] at e
      by_cases e2 : h.e ≤ c
      · rw [if_pos e2] at e
        have ih := carried (d := h.e) s.2 (Int.le_refl _) e2 e
        unfold Hk.e at *
        omega
      · rw [if_neg e2, (low_none s.2 (show c < h.e by omega)).1] at e
        cases e; omega
theorem back_eq : ∀ {hs : List Hk} {low c g G k : Int}, Srt low hs → lfolG c g hs = .inl G → lfolG (c + G) k (inv g hs) = .inl (k - (G - g))
  | [], _, _, _, _, k, _, e => by cases e; simp [inv, lfolG]
  | h :: r, low, c, g, G, k, s, e => by
    have := s.1
    have se := h.se
    by_cases e1 : h.s ≤ c ∧ c < h.e
    · rw [lfolG, if_pos e1] at e; cases e
    · rw [lfolG, if_neg e1] at e
      by_cases e2 : h.e ≤ c
      · rw [if_pos e2] at e
        have eg : g + (h.n.length : Int) - h.o.length = g + h.g := by unfold Hk.g; omega
        rw [eg] at e
        have p := carried (d := h.e) s.2 (Int.le_refl _) e2 e
        have e3 : (⟨h.s + g, h.n, h.o⟩ : Hk).e ≤ c + G := by unfold Hk.e Hk.g at *; show h.s + g + (h.n.length : Int) ≤ _; omega
        rw [inv, lfolG, if_neg (by omega), if_pos e3]
        have ih := back_eq (k := k - h.g) s.2 e
        show lfolG (c + G) (k + (h.o.length : Int) - (h.n.length : Int)) _ = _
        rw [show k + (h.o.length : Int) - (h.n.length : Int) = k - h.g by unfold Hk.g; omega, ih]
        congr 1; omega
      · rw [if_neg e2, (low_none s.2 (show c < h.e by omega)).1] at e
        cases e
        have q := inv_srt (g := g) (hs := h :: r) (low := h.s) ⟨Int.le_refl _, s.2⟩
        rw [(low_none q (by omega)).1]
        congr 1; omega
theorem hit_in {t : List D} : ∀ {hs : List Hk} {low d c g s : Int}, Valid t low hs → 0 ≤ d → d ≤ low → lfolG c g hs = .inr s → g + d ≤ s ∧ s ≤ g + d + (ap t d hs).length
  | [], _, _, _, _, _, _, _, _, e => by cases e
  | h :: r, low, d, c, g, s, v, h0, h1, e => by
    obtain ⟨v1, v2, v3, v4, v5, v6⟩ := v
    have se := h.se
    have c1 := cut_len (t := t) (a := d.toNat) (b := h.s.toNat) (by omega)
    have cl : ((ap t d (h :: r)).length : Int) = h.s - d + h.n.length + (ap t h.e r).length := by
      simp only [ap, List.length_append, c1]; omega
    rw [cl]
    by_cases e1 : h.s ≤ c ∧ c < h.e
    · rw [lfolG, if_pos e1] at e; cases e; omega
    · rw [lfolG, if_neg e1] at e
      by_cases e2 : h.e ≤ c
      · rw [if_pos e2] at e
        have ih := hit_in (d := h.e) v6 (by omega) (by omega) e
        unfold Hk.e at *
        omega
      · rw [if_neg e2, (low_none v6.srt (show c < h.e + 1 by omega)).1] at e
        cases e
theorem cut_get {t : List D} {a b i : Nat} (h : i < b - a) : (cut t a b)[i]? = t[a + i]? := by
  unfold cut
  rw [List.getElem?_take_of_lt h, List.getElem?_drop]
theorem keep_line {t : List D} : ∀ {hs : List Hk} {low d c g G : Int}, Valid t low hs → 0 ≤ d → d ≤ low → d ≤ c → lfolG c g hs = .inl G → (ap t d hs)[(c - d + G - g).toNat]? = t[c.toNat]?
  | [], low, d, c, g, G, _, h0, h1, h2, e => by
    cases e
    simp only [ap, List.getElem?_drop]
    congr 1; omega
  | h :: r, low, d, c, g, G, v, h0, h1, h2, e => by
    obtain ⟨v1, v2, v3, v4, v5, v6⟩ := v
    have se := h.se
    have c1 := cut_len (t := t) (a := d.toNat) (b := h.s.toNat) (by omega)
    by_cases e1 : h.s ≤ c ∧ c < h.e
    · rw [lfolG, if_pos e1] at e; cases e
    · rw [lfolG, if_neg e1] at e
      by_cases e2 : h.e ≤ c
      · rw [if_pos e2] at e
        have p := carried (d := h.e) (v6.srt.mono (by omega : h.e ≤ h.e + 1)) (Int.le_refl _) e2 e
        have ih := keep_line (d := h.e) v6 (by omega) (by omega) e2 e
        rw [← ih]
        simp only [ap]
        have hl : (cut t d.toNat h.s.toNat ++ h.n).length = (h.s - d).toNat + h.n.length := by rw [List.length_append, c1]; omega
        rw [List.getElem?_append_right (by rw [hl]; unfold Hk.e at *; omega), hl]
        congr 1
        unfold Hk.e at *
        omega
      · rw [if_neg e2, (low_none v6.srt (show c < h.e + 1 by omega)).1] at e
        cases e
        simp only [ap]
        rw [List.append_assoc, List.getElem?_append_left (by rw [c1]; omega), cut_get (by omega)]
        congr 1; omega
theorem one_in : ∀ {hs : List Hk} {low c g s : Int}, Srt low hs → lfolG c g hs = .inr s → (hs.filter (inside c)).length = 1
  | [], _, _, _, _, _, e => by cases e
  | h :: r, low, c, g, s, v, e => by
    have := v.1
    have se := h.se
    by_cases e1 : h.s ≤ c ∧ c < h.e
    · rw [List.filter_cons, if_pos (by simp [inside]; exact e1), (low_none (g := 0) v.2 (show c < h.e by omega)).2.1]; rfl
    · rw [lfolG, if_neg e1] at e
      rw [List.filter_cons, if_neg (by simp [inside]; omega)]
      by_cases e2 : h.e ≤ c
      · rw [if_pos e2] at e; exact one_in v.2 e
      · rw [if_neg e2, (low_none v.2 (show c < h.e by omega)).1] at e; cases e
end K28

set_option maxHeartbeats 400000
namespace K28
open PySem PySem.Spec L2 DN
theorem w_law_back {w : Str} {a : Int} {hs : List Hk} {M R Ex} (hl : hs.length ≤ 100) (k : ∀ M', Fr [] M M' → R (lfol w a (inv 0 hs)) M') : F_law_back [.tup [.str w, .int a], .tup (hs.map Hk.d)] M R Ex := by
  have w1 := @w_law_follow
  unfold F_law_back
  obtain ⟨F1, qF1⟩ := op F_law_follow; rw [← qF1] at w1 ⊢; clear qF1
  refine ⟨sz rfl, ?_⟩
  refine forL_map Hk.d (fun r ρ M' => ∃ acc g x, ρ = [some (.tup [.str w, .int a]), some (.tup (hs.map Hk.d)), some (.ref M.length), some (.int g), x] ∧ Fr [] M M' ∧ mlst M' M.length = some acc ∧ acc ++ (inv g r).map Hk.d = (inv 0 hs).map Hk.d ∧ acc.length + r.length = hs.length) (fun _ _ _ _ => trivial) ?_ ?_ _ _ _ ⟨[], 0, none, rfl, Fr.app, mlst_new, rfl, by simp⟩
  · rintro h r ρ M1 Kn ⟨acc, g, x, rfl, fr, hm, he, hc⟩ hK
    simp only [List.length_cons] at hc
    refine ⟨_, rfl, rcv_lst hm, sz rfl, ?_⟩
    conv => whnf
    rw [hm]
    refine ⟨Nat.lt_of_le_of_lt (show acc.length ≤ 100 by omega) (by decide), ?_⟩
    refine hK _ _ ⟨_, g + h.g, some h.d, ?_, fr.set (.inr (Nat.le_refl _)), mlst_set (mlst_lt hm), by rw [← he]; simp [inv, Hk.d], by simp; omega⟩
    have e : g + (h.n.length : Int) - h.o.length = g + h.g := by unfold Hk.g; omega
    rw [← e]; rfl
  · rintro ρ M1 ⟨acc, g, x, rfl, fr, hm, he, hc⟩
    have : acc = (inv 0 hs).map Hk.d := by rw [← he]; simp [inv]
    conv => whnf
    rw [lstAt_of hm, this]
    exact w1 fun M2 f2 => k _ (fr.tr f2)
/-! anchors that stand -/
def Stand (size : Int) (a : An) : Prop := (a.1 = "line" ∧ 0 ≤ a.2 ∧ a.2 < size) ∨ (a.1 = "gap" ∧ 0 ≤ a.2 ∧ a.2 ≤ size)
theorem w_any_anchor {n : Nat} {size : Int} {M R Ex} (h : Pool M n) (h0 : 0 ≤ size) (h1 : size ≤ 1000000) (k : ∀ a M', Stand size a → Pool M' n → Fr [n] M M' → R (An.d a) M') : F_law_any_anchor [.ref n, .int size] M R Ex := by
  have w1 := @w_draw
  unfold F_law_any_anchor
  obtain ⟨F1, qF1⟩ := op F_law_draw; rw [← qF1] at w1 ⊢; clear qF1
  refine ⟨mul_l (by decide), ?_⟩
  refine w1 h (by omega) (by omega) fun x M1 x0 x1 p1 f1 => ?_
  conv => whnf
  refine bm (fun e => ?_) (fun e => ?_)
  · exact ⟨sz rfl, k ("line", x) _ (.inl ⟨rfl, x0, of_decide_eq_true e⟩) p1 f1⟩
  · have := of_decide_eq_false e
    exact ⟨sz rfl, k ("gap", x - size) _ (.inr ⟨rfl, by show 0 ≤ x - size; omega, by show x - size ≤ size; omega⟩) p1 f1⟩
theorem pick_D {xs : List D} {x : Int} (h0 : 0 ≤ x) (h1 : x < xs.length) : ∃ d ∈ xs, atI xs x = some d := by
  obtain ⟨d, a1, a2⟩ := atI_int h0 h1
  exact ⟨d, List.mem_of_getElem? a2, a1⟩
theorem w_near {n : Nat} {size : Int} {M R Ex} (h : Pool M n) (k : ∀ d M', Near d → Pool M' n → Fr [n] M M' → R d M') : F_law_near [.ref n, .int size] M R Ex := by
  have w1 := @w_draw
  unfold F_law_near
  obtain ⟨F1, qF1⟩ := op F_law_draw; rw [← qF1] at w1 ⊢; clear qF1
  have hlt := h.lt
  refine ⟨sz rfl, ?_⟩
  refine w1 (h.fr (Fr.app (S := []))) (by decide) (by decide) fun x M1 x0 x1 p1 f1 => ?_
  have g1 : Fr [n] M M1 := Fr.app.tr f1
  conv => whnf
  rw [lstAt_of (f1.lst mlst_new (by simp; omega))]
  obtain ⟨d, hd, a1⟩ := pick_D (xs := [D.str "line", .str "gap"]) x0 x1
  conv => whnf
  rw [a1]
  obtain ⟨w, rfl, hw⟩ : ∃ w : Str, d = .str w ∧ (w = "line" ∨ w = "gap") := by
    simp only [List.mem_cons, List.not_mem_nil, or_false] at hd
    rcases hd with rfl | rfl
    · exact ⟨_, rfl, .inl rfl⟩
    · exact ⟨_, rfl, .inr rfl⟩
  refine ⟨⟨by decide, by decide, by decide⟩, sz rfl, ?_⟩
  refine w1 (p1.fr (Fr.app (S := []))) (by decide) (by decide) fun x M2 x0 x1 p2 f2 => ?_
  have g2 : Fr [n] M M2 := g1.tr (Fr.app.tr f2)
  have l1 := g1.le
  conv => whnf
  rw [lstAt_of (f2.lst mlst_new (by simp; omega))]
  obtain ⟨d, hd, a1⟩ := pick_D (xs := [D.int (-1), .int 0, .int (size - 1), .int size, .int (size + 1), .int (10 ^ 20)]) x0 x1
  conv => whnf
  rw [show atI [D.int (-1), .int 0, .int (size - 1), .int size, .int (size + 1), .int ((10 : Int) ^ (20 : Int).toNat)] x = some d from a1]
  obtain ⟨num, rfl⟩ : ∃ num : Int, d = .int num := by
    simp only [List.mem_cons, List.not_mem_nil, or_false] at hd
    rcases hd with rfl | rfl | rfl | rfl | rfl | rfl <;> exact ⟨_, rfl⟩
  refine w1 p2 (by decide) (by decide) fun kind M3 y0 y1 p3 f3 => ?_
  have g3 := g2.tr f3
  refine ⟨sz rfl, sz rfl, sz rfl, sz rfl, sz rfl, sz rfl, sz rfl, sz rfl, sz rfl, ?_⟩
  have l3 := g3.le
  have hp : Pool (M3 ++ [O.lst [D.tup [.str w, .bl true], .tup [.str w, .str "0"], .tup [.str w, .non], .tup [.str w, .tup [.int 0]], .tup [.str w], .tup [.str w, .int 0, .int 0], .str w, .tup [], .non]]) n := p3.fr (Fr.app (S := []))
  have g4 : Fr [n] M (M3 ++ [O.lst [D.tup [.str w, .bl true], .tup [.str w, .str "0"], .tup [.str w, .non], .tup [.str w, .tup [.int 0]], .tup [.str w], .tup [.str w, .int 0, .int 0], .str w, .tup [], .non]]) := g3.tr Fr.app
  conv => whnf
  rw [eqI]
  refine bm (fun e => ?_) (fun e => ?_)
  · refine w1 hp (by decide) (by decide) fun x M4 x0 x1 p4 f4 => ?_
    obtain ⟨d, hd, a1⟩ := pick_D (xs := [D.tup [.str w, .bl true], .tup [.str w, .str "0"], .tup [.str w, .non], .tup [.str w, .tup [.int 0]], .tup [.str w], .tup [.str w, .int 0, .int 0], .str w, .tup [], .non]) x0 x1
    conv => whnf
    rw [lstAt_of (f4.lst mlst_new (by simp; omega))]
    conv => whnf
    rw [a1]
    exact k _ _ (.odd w d hw hd) p4 (g4.tr f4)
  · conv => whnf
    rw [eqI]
    refine bm (fun e => ?_) (fun e => ?_)
    · refine ⟨sz rfl, sz rfl, ?_⟩
      refine w1 (hp.fr (Fr.app (S := []))) (by decide) (by decide) fun x M4 x0 x1 p4 f4 => ?_
      obtain ⟨d, hd, a1⟩ := pick_D (xs := [D.str "", .str "lines", .str "GAP", .int 0, .non, .tup [.str "line"]]) x0 x1
      conv => whnf
      rw [lstAt_of (f4.lst mlst_new (by simp; omega))]
      conv => whnf
      rw [a1]
      refine ⟨sz rfl, ?_⟩
      exact k _ _ (.kd d hd) p4 (g4.tr (Fr.app.tr f4))
    · exact ⟨sz rfl, k _ _ (.mk w num hw) hp g4⟩
theorem lfol_inl {w : Str} {a G : Int} {hs : List Hk} (e : lfolG (car w a) 0 hs = .inl G) : lfol w a hs = An.d (w, a + G) := by unfold lfol; unfold car at e; rw [e]; rfl
theorem lfol_inr {w : Str} {a s : Int} {hs : List Hk} (e : lfolG (car w a) 0 hs = .inr s) : lfol w a hs = An.d ("gap", s) := by unfold lfol; unfold car at e; rw [e]; rfl
theorem fit_an {a : An} : fit 6 (An.d a) := ⟨by simp, fun x hx => by simp at hx; rcases hx with rfl | rfl <;> trivial⟩
theorem stand_word {size : Int} {a : An} (h : Stand size a) : a.1 = "line" ∨ a.1 = "gap" := h.elim (fun h => .inl h.1) fun h => .inr h.1
theorem stand_isA {size : Int} {w : Str} {j : Int} (h : Stand size (w, j)) : isA size (An.d (w, j)) = true := by
  rcases h with ⟨h1, h2, h3⟩ | ⟨h1, h2, h3⟩
  · obtain rfl : w = "line" := h1
    show isA size (.tup [.str "line", .int j]) = true
    rw [isA_line, decide_eq_true h2, decide_eq_true h3]; rfl
  · obtain rfl : w = "gap" := h1
    show isA size (.tup [.str "gap", .int j]) = true
    rw [isA_gap, decide_eq_true h2, decide_eq_true h3]; rfl
/-- where the followed anchor stands in the new text -/
theorem due_stand {t : List D} {hs : List Hk} (hv : Valid t 0 hs) {a : An} (h : Stand t.length a) :
    (∃ s, lfolG (car a.1 a.2) 0 hs = .inr s ∧ Stand (ap t 0 hs).length ("gap", s)) ∨
    (∃ G, lfolG (car a.1 a.2) 0 hs = .inl G ∧ Stand (ap t 0 hs).length (a.1, a.2 + G)) := by
  obtain ⟨w, j⟩ := a
  rcases e : lfolG (car w j) 0 hs with G | s
  rotate_left
  ·
    have := hit_in (d := 0) hv (by omega) (by omega) e
    exact .inl ⟨s, rfl, .inr ⟨rfl, by show 0 ≤ s; omega, by show s ≤ _; omega⟩⟩
  ·
    refine .inr ⟨G, rfl, ?_⟩
    have idx : ∀ c : Int, 0 ≤ c → c < t.length → car w j = c → 0 ≤ c + G ∧ c + G < (ap t 0 hs).length := fun c c0 c1 hc => by
      rw [hc] at e
      have k := keep_line (d := 0) hv (by omega) (by omega) c0 e
      have p := carried (d := 0) hv.srt (by omega) c0 e
      have hl : c.toNat < t.length := by omega
      rw [List.getElem?_eq_getElem hl] at k
      have := (List.getElem?_eq_some_iff.mp k).1
      omega
    rcases h with ⟨h1, h2, h3⟩ | ⟨h1, h2, h3⟩
    · obtain rfl : w = "line" := h1
      have h2 : 0 ≤ j := h2
      have h3 : j < t.length := h3
      have := idx j h2 h3 (by unfold car; rw [if_neg ne_lg])
      exact .inl ⟨rfl, this.1, this.2⟩
    · obtain rfl : w = "gap" := h1
      have h2 : 0 ≤ j := h2
      have h3 : j ≤ t.length := h3
      by_cases h0 : j = 0
      · subst h0
        have := (low_none (g := 0) hv.srt (show car "gap" 0 < 0 by unfold car; rw [if_pos rfl]; decide)).1
        rw [this] at e; cases e
        exact .inr ⟨rfl, by show (0 : Int) ≤ 0 + 0; decide, by show (0 : Int) + 0 ≤ _; omega⟩
      · have := idx (j - 1) (by omega) (by omega) (by unfold car; rw [if_pos rfl])
        exact .inr ⟨rfl, by show 0 ≤ j + G; omega, by show j + G ≤ _; omega⟩
theorem w_one_edit {t : List D} {hs : List Hk} {a : An} {M R Ex} (ht : txs t = true) (hv : Valid t 0 hs) (hn : hs.length ≤ 6) (hs' : Stand t.length a) (k : ∀ M', Fr [] M M' → R (.bl true) M') : F_law_one_edit [An.d a, .tup (hs.map Hk.d), .tup t, .tup (ap t 0 hs)] M R Ex := by
  have w1 := @w_law_follow
  have w2 := @w_follow
  have w3 := @w_same
  have w4 := @w_law_is_anchor
  have w5 := @w_follow_back
  unfold F_law_one_edit
  obtain ⟨F1, qF1⟩ := op F_law_follow; rw [← qF1] at w1 ⊢; clear qF1
  obtain ⟨F2, qF2⟩ := op F_follow; rw [← qF2] at w2 ⊢; clear qF2
  obtain ⟨F3, qF3⟩ := op F_law_same; rw [← qF3] at w3 ⊢; clear qF3
  obtain ⟨F4, qF4⟩ := op F_law_is_anchor; rw [← qF4] at w4 ⊢; clear qF4
  obtain ⟨F5, qF5⟩ := op F_follow_back; rw [← qF5] at w5 ⊢; clear qF5
  obtain ⟨w, j⟩ := a
  have hw : w = "line" ∨ w = "gap" := stand_word hs'
  refine w1 fun M1 f1 => ?_
  have hf := fol_eq hw (a := j) hv.srt
  refine w2 (by omega) fun M2 f2 => ?_
  have f12 := f1.tr f2
  rcases due_stand hv hs' with ⟨s, e, hd⟩ | ⟨G, e, hd⟩
  · have el := lfol_inr e
    have el : lfol w j hs = An.d ("gap", s) := el
    rw [el] at hf ⊢
    rw [hf]
    refine w3 rfl fit_an ?_
    refine w4 (.mk _ _ (.inr rfl)) ?_
    rw [show isA ((ap t 0 hs).length : Int) (.tup [.str "gap", .int s]) = true from stand_isA hd]
    conv => whnf
    refine lcL_pure Hk.d (inside j) Hk.d (by simp) hs (fun _ _ => trivial) (fun h M1 Kt Kf _ fr hT hF => ?_) (acc := []) mlst_new (Nat.le_trans (show ([] : List D).length + hs.length ≤ 100 by simp; omega) (by decide)) (fun M' fr hm => ?_)
    · refine ⟨_, rfl, ?_⟩
      conv => whnf
      refine bm (fun e1 => ?_) (fun e1 => ?_)
      · conv => whnf
        refine bm (fun e2 => ?_) (fun e2 => ?_)
        · exact hT (by unfold inside; rw [e1]; exact e2) _ Fr.refl
        · exact hF (by unfold inside; rw [e1]; exact e2) _ Fr.refl
      · exact hF (by unfold inside; rw [e1]; rfl) _ Fr.refl
    · have f3 : Fr [] M M' := f12.tr (Fr.app.trans fr fun i hi hl => by simp at hi; omega)
      rcases hw with rfl | rfl
      · have c : (hs.filter (inside j)).length = 1 := by
          have := one_in hv.srt e
          have ec : car (("line" : Str), j).1 (("line" : Str), j).2 = j := by unfold car; exact if_neg ne_lg
          rw [ec] at this; exact this
        conv => whnf
        rw [lstAt_of hm]
        conv => whnf
        rw [eqI]
        rw [show ((([] : List D) ++ List.map Hk.d (List.filter (inside j) hs)).length : Int) = 1 by simp [c]]
        exact k _ f3
      · exact k _ f3
  · have el : lfol w j hs = An.d (w, j + G) := lfol_inl e
    rw [el] at hf ⊢
    rw [hf]
    refine w3 rfl fit_an ?_
    refine w4 (.mk _ _ hw) ?_
    rw [show isA ((ap t 0 hs).length : Int) (.tup [.str w, .int (j + G)]) = true from stand_isA hd]
    rcases hw with rfl | rfl
    · have e : lfolG j 0 hs = .inl G := by
        have ec : car (("line" : Str), j).1 (("line" : Str), j).2 = j := by unfold car; exact if_neg ne_lg
        rw [ec] at e; exact e
      have hj : 0 ≤ j ∧ j < t.length := by
        rcases hs' with h | h
        · exact h.2
        · exact absurd h.1 ne_lg
      have kl := keep_line (d := 0) hv (by omega) (by omega) hj.1 e
      have ca := carried (d := 0) hv.srt (by omega) hj.1 e
      have hjl : j.toNat < t.length := by omega
      rw [List.getElem?_eq_getElem hjl] at kl
      obtain ⟨z, hz⟩ := txs_iff.mp ht _ (List.getElem_mem hjl)
      conv => whnf
      rw [atI_get (j := j.toNat) (by omega) (List.getElem?_eq_getElem hjl), hz]
      conv => whnf
      rw [atI_get (j := (j - 0 + G - 0).toNat) (by omega) kl, hz]
      conv => whnf
      rw [eqS, decide_eq_true rfl]
      refine w5 (by omega) fun M3 f3 => ?_
      have eb : fol "line" (j + G) (inv 0 hs) = An.d ("line", j) := by
        rw [fol_eq (.inl rfl) (by have := inv_srt (g := 0) hv.srt; exact this)]
        have := back_eq (k := 0) hv.srt e
        have ec : car "line" (j + G) = j + G := by unfold car; exact if_neg ne_lg
        rw [lfol_inl (G := 0 - (G - 0)) (by rw [ec]; exact this)]
        congr 2; omega
      rw [eb]
      exact w3 rfl fit_an (k _ (f12.tr f3))
    · conv => whnf
      refine lcL_pure Hk.d (inside j) Hk.d (by simp) hs (fun _ _ => trivial) (fun h M1 Kt Kf _ fr hT hF => ?_) (acc := []) mlst_new (Nat.le_trans (show ([] : List D).length + hs.length ≤ 100 by simp; omega) (by decide)) (fun M' fr hm => ?_)
      · refine ⟨_, rfl, ?_⟩
        conv => whnf
        refine bm (fun e1 => ?_) (fun e1 => ?_)
        · conv => whnf
          refine bm (fun e2 => ?_) (fun e2 => ?_)
          · exact hT (by unfold inside; rw [e1]; exact e2) _ Fr.refl
          · exact hF (by unfold inside; rw [e1]; exact e2) _ Fr.refl
        · exact hF (by unfold inside; rw [e1]; rfl) _ Fr.refl
      · exact k _ (f12.tr (Fr.app.trans fr fun i hi hl => by simp at hi; omega))
end K28

set_option maxHeartbeats 1000000
namespace K28
open PySem PySem.Spec L2 DN
def T.d (t : List D) : D := .tup t
/-- the edits and the texts go together -/
structure Go (text : List D) (es : List (List Hk)) (L : List (List D)) : Prop where
  len : L.length = es.length + 1
  h0 : L[0]? = some text
  h1 : ∀ e, es[0]? = some e → Valid text 0 e ∧ L[1]? = some (ap text 0 e)
  h2 : ∀ e ∈ es, e.length ≤ 6 ∧ Srt 0 e
theorem Go.snoc {text t : List D} {es : List (List Hk)} {pre : List (List D)} {e : List Hk} (g : Go text es (pre ++ [t])) (hv : Valid t 0 e) (hl : e.length ≤ 6) : Go text (es ++ [e]) (pre ++ [t] ++ [ap t 0 e]) := by
  refine ⟨by have := g.len; simp at this ⊢; omega, ?_, fun e' he => ?_, fun e' he => ?_⟩
  · rw [List.getElem?_append_left (by simp)]; exact g.h0
  · cases es with
    | nil =>
      have := g.len
      have hp : pre = [] := by cases pre with | nil => rfl | cons _ _ => simp at this
      subst hp
      have h0 := g.h0
      simp at h0; subst h0
      simp at he; subst he
      exact ⟨hv, by simp⟩
    | cons e0 er =>
      have he : e0 = e' := by simpa using he
      subst he
      obtain ⟨a, b⟩ := g.h1 e0 (by simp)
      refine ⟨a, ?_⟩
      rw [List.getElem?_append_left (List.getElem?_eq_some_iff.mp b).1]; exact b
  · rcases List.mem_append.mp he with he | he
    · exact g.h2 _ he
    · simp at he; subst he; exact ⟨hl, hv.srt⟩
def word (a : An) : Prop := a.1 = "line" ∨ a.1 = "gap"
theorem fol_word {a : An} (h : word a) (e : List Hk) : word (folA a e) := by
  unfold folA
  cases folG a.1 a.2 0 e with
  | some s => exact .inr rfl
  | none => exact h
theorem lfol_A {a : An} (h : word a) {e : List Hk} (s : Srt 0 e) : lfol a.1 a.2 e = An.d (folA a e) := by rw [← fol_eq h s]; exact fol_A
theorem fit_ans {as : List An} (h : as.length ≤ 1000) : fit 6 (.tup (as.map An.d)) :=
  ⟨by simp; omega, fun x hx => by
    obtain ⟨a, _, rfl⟩ := List.mem_map.mp hx
    exact ⟨by simp, fun x hx => by simp at hx; rcases hx with rfl | rfl <;> trivial⟩⟩
theorem folS_len : ∀ (es : List (List Hk)) (a : An), (folS a es).length = es.length
  | [], _ => rfl
  | e :: r, a => by simp [folS, folS_len r]
theorem law_true (ns : List Int) (h : ns.length ≤ 63) : F_law [.con (ns.map D.int)] [] (fun d _ => d = .bl true) fun _ _ => False := by
  have w1 := @w_law_pool
  have w2 := @w_draw
  have w3 := @w_law_text
  have w4 := @w_law_edit
  have w5 := @w_law_apply
  have w6 := @w_near
  have w7 := @w_same
  have w8 := @w_law_is_anchor
  have w9 := @w_is_anchor
  have wa := @w_any_anchor
  have wb := @w_one_edit
  have wc := @w_law_follow
  have wd := @w_follow_all
  have we := @w_law_back
  have wf := @w_follow_back
  unfold F_law
  obtain ⟨F1, q⟩ := op F_law_pool; rw [← q] at w1 ⊢; clear q
  obtain ⟨F2, q⟩ := op F_law_draw; rw [← q] at w2 ⊢; clear q
  obtain ⟨F3, q⟩ := op F_law_text; rw [← q] at w3 ⊢; clear q
  obtain ⟨F4, q⟩ := op F_law_edit; rw [← q] at w4 ⊢; clear q
  obtain ⟨F5, q⟩ := op F_law_apply; rw [← q] at w5 ⊢; clear q
  obtain ⟨F6, q⟩ := op F_law_near; rw [← q] at w6 ⊢; clear q
  obtain ⟨F7, q⟩ := op F_law_same; rw [← q] at w7 ⊢; clear q
  obtain ⟨F8, q⟩ := op F_law_is_anchor; rw [← q] at w8 ⊢; clear q
  obtain ⟨F9, q⟩ := op F_is_anchor; rw [← q] at w9 ⊢; clear q
  obtain ⟨Fa, q⟩ := op F_law_any_anchor; rw [← q] at wa ⊢; clear q
  obtain ⟨Fb, q⟩ := op F_law_one_edit; rw [← q] at wb ⊢; clear q
  obtain ⟨Fc, q⟩ := op F_law_follow; rw [← q] at wc ⊢; clear q
  obtain ⟨Fd, q⟩ := op F_follow_all; rw [← q] at wd ⊢; clear q
  obtain ⟨Fe, q⟩ := op F_law_back; rw [← q] at we ⊢; clear q
  obtain ⟨Ff, q⟩ := op F_follow_back; rw [← q] at wf ⊢; clear q
  let S : SD := SD.top (fun d _ => d = .bl true) fun _ _ => False
  -- from the choice of the size on
  have rest : ∀ (pool : D) (p g : Bool) (size many : Int) (M : Mem), 0 ≤ size → size ≤ 60 → 1 ≤ many → many ≤ 5 →
      r_law_5 F1 F2 F3 F4 F5 F6 F7 F8 F9 Fa Fb Fc Fd Fe Ff S [some (.con (ns.map D.int)), some pool, some (.bl p), some (.bl g), some (.int size), some (.int many), none, none, none, none, none, none, none, none, none, none] M := by
    intro pool p g size many M s0 s1 m0 m1
    refine w1 (by decide) (by decide) fun M1 n1 hn1 p1 f1 => ?_
    refine w3 p1 s0 (by omega) fun text M2 tx tl p2 f2 => ?_
    have tl : (text.length : Int) = size := by omega
    refine ⟨sz rfl, sz rfl, by omega, by omega, ?_⟩
    -- the edits
    refine forL_ix (fun i ρ M' => ∃ es pre t x, ρ = [some (.con (ns.map D.int)), some pool, some (.bl p), some (.bl g), some (.int size), some (.int many), some (.tup text), some (.ref M2.length), some (.ref (M2 ++ [O.lst [D.tup text]]).length), x, none, none, none, none, none, none] ∧
      mlst M' M2.length = some ((pre ++ [t]).map T.d) ∧ mlst M' (M2 ++ [O.lst [D.tup text]]).length = some (es.map E.d) ∧ Go text es (pre ++ [t]) ∧ txs t = true ∧ (t.length : Int) ≤ 60 + 180 * i ∧ es.length = i) _ (fun _ _ _ _ => trivial) ?_ ?_ _ _
      ⟨[], [], text, none, rfl, Fr.app.lst (S := []) mlst_new, mlst_new, ⟨rfl, rfl, by simp, by simp⟩, tx, by omega, rfl⟩
    · rintro i d ρ M3 Kn hd ⟨es, pre, t, x, rfl, ht, he, go, tx, hl, hi⟩ hK
      obtain ⟨hj, rfl⟩ := rngD_get hd
      refine ⟨_, rfl, rcv_lst he, ?_⟩
      refine w1 (by omega) (by omega) fun M4 n4 hn4 p4 f4 => ?_
      have ht4 := f4.lst ht
      conv => whnf
      rw [lstAt_of ht4, List.map_append]
      conv => whnf
      rw [show List.map T.d [t] = [D.tup t] from rfl, atI_end]
      refine w4 p4 tx (by omega) fun e M5 hv el p5 f5 => ?_
      have b1 := mlst_lt ht
      have b2 := mlst_lt he
      have he5 := f5.lst (f4.lst he) (by simp; simp at b2; omega)
      have ht5 := f5.lst ht4 (by simp; omega)
      conv => whnf
      rw [he5]
      refine ⟨Nat.lt_of_le_of_lt (show (es.map E.d).length ≤ 100 by simp; omega) (by decide), ?_⟩
      have hne : (M2 ++ [O.lst [D.tup text]]).length ≠ M2.length := by simp
      have ht6 := mlst_setne (o := .lst (es.map E.d ++ [D.tup (e.map Hk.d)])) ht5 hne
      refine ⟨rcv_lst ht6, ?_⟩
      conv => whnf
      rw [lstAt_of (mlst_set (mlst_lt he5))]
      conv => whnf
      rw [atI_end]
      conv => whnf
      rw [lstAt_of ht6, List.map_append]
      conv => whnf
      rw [show List.map T.d [t] = [D.tup t] from rfl, atI_end]
      refine w5 tx (by omega) hv el fun M7 f7 => ?_
      have ht7 := f7.lst ht6
      have he7 := f7.lst (mlst_set (xs := es.map E.d ++ [D.tup (e.map Hk.d)]) (mlst_lt he5))
      conv => whnf
      rw [show M2.length = M2.length from rfl, ht7]
      refine ⟨Nat.lt_of_le_of_lt (show ((pre ++ [t]).map T.d).length ≤ 100 by have := go.len; simp at this ⊢; omega) (by decide), ?_⟩
      have gl := ap_len e 0 0 (by omega) (by omega) (by omega) (by omega) hv
      have gb := gs_le e 0 hv
      refine hK _ _ ⟨es ++ [e], pre ++ [t], ap t 0 e, _, rfl, ?_, ?_, go.snoc hv el, ap_txs tx e 0 0 hv, by omega, by simp; omega⟩
      · rw [mlst_set (mlst_lt ht7)]; simp; rfl
      · rw [mlst_setne he7 (by simp)]; simp; rfl
    · rintro ρ M3 ⟨es, pre, t, x, rfl, ht, he, go, tx', hl, hi⟩
      rw [rngD_len] at hi
      obtain ⟨e0, er, hes⟩ : ∃ e0 er, es = e0 :: er := by
        cases es with
        | nil => simp at hi; omega
        | cons a b => exact ⟨a, b, rfl⟩
      obtain ⟨hv, h1⟩ := go.h1 e0 (by rw [hes]; simp)
      have el := (go.h2 e0 (by rw [hes]; simp)).1
      have b1 := mlst_lt ht
      have b2 := mlst_lt he
      have hi' : es.length ≤ 5 := by omega
      -- near
      refine w1 (by decide) (by decide) fun M4 n4 hn4 p4 f4 => ?_
      have k4 : mlst M4 M2.length = some ((pre ++ [t]).map T.d) ∧ mlst M4 (M2 ++ [O.lst [D.tup text]]).length = some (es.map E.d) := ⟨f4.lst ht, f4.lst he⟩
      have hn4a : n4 ≠ M2.length := by omega
      have hn4b : n4 ≠ (M2 ++ [O.lst [D.tup text]]).length := by omega
      refine ⟨by decide, by decide, ?_⟩
      refine forL_ix (fun i ρ M' => ∃ x y z, ρ = [some (.con (ns.map D.int)), some (.ref n4), some (.bl p), some (.bl g), some (.int size), some (.int many), some (.tup text), some (.ref M2.length), some (.ref (M2 ++ [O.lst [D.tup text]]).length), x, y, z, none, none, none, none] ∧
        Pool M' n4 ∧ mlst M' M2.length = some ((pre ++ [t]).map T.d) ∧ mlst M' (M2 ++ [O.lst [D.tup text]]).length = some (es.map E.d)) _ (fun _ _ _ _ => trivial) ?_ ?_ _ _ ⟨_, _, _, rfl, p4, k4.1, k4.2⟩
      · rintro i d ρ M5 Kn hd ⟨x, y, z, rfl, p5, k5, k5'⟩ hK
        refine ⟨_, rfl, ?_⟩
        refine w6 p5 fun v M6 nv p6 f6 => ?_
        refine w9 nv ?_
        refine w8 nv ?_
        refine w7 (d := .bl (isA size v)) rfl trivial ?_
        exact hK _ _ ⟨_, _, _, rfl, p6, f6.lst k5 (by simpa using Ne.symm hn4a), f6.lst k5' (by simpa using Ne.symm hn4b)⟩
      · rintro ρ M5 ⟨x, y, z, rfl, p5, k5, k5'⟩
        refine w1 (by decide) (by decide) fun M6 n6 hn6 p6 f6 => ?_
        have c1 := mlst_lt k5
        have c2 := mlst_lt k5'
        have hn6a : M2.length ≠ n6 := by omega
        have hn6b : (M2 ++ [O.lst [D.tup text]]).length ≠ n6 := by omega
        refine ⟨by decide, by decide, ?_⟩
        refine forL_ix (fun i ρ M' => ∃ x y z u v' w' l', ρ = [some (.con (ns.map D.int)), some (.ref n6), some (.bl p), some (.bl g), some (.int size), some (.int many), some (.tup text), some (.ref M2.length), some (.ref (M2 ++ [O.lst [D.tup text]]).length), x, y, z, u, v', w', l'] ∧
          Pool M' n6 ∧ mlst M' M2.length = some ((pre ++ [t]).map T.d) ∧ mlst M' (M2 ++ [O.lst [D.tup text]]).length = some (es.map E.d)) _ (fun _ _ _ _ => trivial) ?_ ?_ _ _ ⟨_, _, _, _, _, _, _, rfl, p6, f6.lst k5, f6.lst k5'⟩
        · rintro i d ρ M7 Kn hd ⟨x, y, z, u, v', w', l', rfl, p7, k7, k7'⟩ hK
          refine ⟨_, rfl, ?_⟩
          refine wa p7 s0 (by omega) fun a M8 sa p8 f8 => ?_
          have k8 := f8.lst k7 (by simpa using hn6a)
          have k8' := f8.lst k7' (by simpa using hn6b)
          have wd' : word a := stand_word sa
          have ia : isA size (An.d a) = true := by obtain ⟨w, j⟩ := a; exact stand_isA sa
          refine w9 (.mk a.1 a.2 wd') ?_
          refine w7 (d := .bl (isA size (.tup [.str a.1, .int a.2]))) (by rw [show isA size (.tup [.str a.1, .int a.2]) = true from ia]) trivial ?_
          conv => whnf
          rw [lstAt_of k8']
          have g0 : atI (es.map E.d) 0 = some (D.tup (e0.map Hk.d)) := atI_get (j := 0) rfl (by rw [hes]; rfl)
          conv => whnf
          rw [g0]
          conv => whnf
          rw [lstAt_of k8]
          have g1 : atI ((pre ++ [t]).map T.d) 1 = some (D.tup (ap text 0 e0)) := atI_get (j := 1) rfl (by rw [List.getElem?_map, h1]; rfl)
          conv => whnf
          rw [g1]
          refine wb tx hv el (by rw [tl]; exact sa) fun M9 f9 => ?_
          have k9 := f9.lst k8
          have k9' := f9.lst k8'
          have p9 := p8.fr f9
          have d1 := mlst_lt k9
          have d2 := mlst_lt k9'
          refine ⟨sz rfl, ?_⟩
          conv => whnf
          rw [Fr.app.lst (S := []) k9' |> lstAt_of]
          conv => whnf
          -- the due list
          refine forL_map E.d (fun r ρ M' => ∃ acc b x14, ρ = [some (.con (ns.map D.int)), some (.ref n6), some (.bl p), some (.bl g), some (.int size), some (.int many), some (.tup text), some (.ref M2.length), some (.ref (M2 ++ [O.lst [D.tup text]]).length), x, some d, z, some (An.d a), some (.ref M9.length), x14, l'] ∧ Fr [] M9 M' ∧ mlst M' M9.length = some (acc ++ [An.d b]) ∧ acc ++ [An.d b] ++ (folS b r).map An.d = (a :: folS a es).map An.d ∧ acc.length + r.length = es.length ∧ word b ∧ ∀ e ∈ r, Srt 0 e) (fun r ρ M' h => ?_) ?_ ?_ es _ _ ⟨[], a, _, rfl, Fr.app, mlst_new, by simp, by simp, wd', fun e he => (go.h2 e he).2⟩
          · obtain ⟨_, _, _, _, f, _⟩ := h
            exact lstAt_of (f.lst k9')
          · rintro e r ρ Mx Kx ⟨acc, b, x14, rfl, fx, hm, hq, hc, wb', hsr⟩ hKx
            simp only [List.length_cons] at hc
            refine ⟨_, rfl, rcv_lst hm, ?_⟩
            conv => whnf
            rw [lstAt_of hm]
            conv => whnf
            rw [atI_end]
            refine wc fun My fy => ?_
            have hy := fy.lst hm
            conv => whnf
            rw [hy]
            refine ⟨Nat.lt_of_le_of_lt (show (acc ++ [An.d b]).length ≤ 101 by simp; omega) (by decide), ?_⟩
            refine hKx _ _ ⟨acc ++ [An.d b], folA b e, _, rfl, (fx.tr fy).set (.inr (Nat.le_refl _)), ?_, ?_, by simp; omega, fol_word wb' e, fun e he => hsr e (by simp [he])⟩
            · rw [mlst_set (mlst_lt hy), lfol_A wb' (hsr e (by simp))]
            · rw [← hq]; simp [folS]
          · rintro ρ Mx ⟨acc, b, x14, rfl, fx, hm, hq, hc, wb', hsr⟩
            have hq : acc ++ [An.d b] = (a :: folS a es).map An.d := by rw [← hq]; simp [folS]
            rw [hq] at hm
            have kx := fx.lst k9
            have kx' := fx.lst k9'
            conv => whnf
            rw [lstAt_of kx']
            refine wd (by omega) (fun e he => by have := (go.h2 e he).1; omega) fun My fy => ?_
            conv => whnf
            rw [lstAt_of (fy.lst hm)]
            refine w7 rfl (fit_ans (by simp [folS_len]; omega)) ?_
            have ky := fy.lst kx
            have ky' := fy.lst kx'
            have py := (p9.fr fx).fr fy
            conv => whnf
            rw [lstAt_of ky]
            conv => whnf
            rw [g1]
            have gl := ap_len e0 0 0 (by omega) (by omega) (by omega) (by omega) hv
            have gb := gs_le e0 0 hv
            refine wa py (by omega) (by omega) fun late Mz sl pz fz => ?_
            have kz := fz.lst ky (by simpa using hn6a)
            have kz' := fz.lst ky' (by simpa using hn6b)
            conv => whnf
            rw [lstAt_of kz']
            conv => whnf
            rw [g0]
            refine wf (by omega) fun Mu fu => ?_
            have ku := fu.lst kz
            have ku' := fu.lst kz'
            conv => whnf
            rw [lstAt_of ku']
            conv => whnf
            rw [g0]
            refine we (by omega) fun Mv fv => ?_
            have ef : fol late.1 late.2 (inv 0 e0) = lfol late.1 late.2 (inv 0 e0) := fol_eq (stand_word sl) (by have := inv_srt (g := 0) hv.srt; exact this)
            refine w7 ef (by rw [fol_A]; exact fit_an) ?_
            exact hK _ _ ⟨_, _, _, _, _, _, _, rfl, (pz.fr fu).fr fv, fv.lst ku, fv.lst ku'⟩
        · rintro ρ M7 ⟨x, y, z, u, v', w', l', rfl, p7, k7, k7'⟩
          refine ⟨sz rfl, sz rfl, ?_⟩
          refine wd (a := ("gap", 0)) (es := []) (by simp) (by simp) fun M8 f8 => ?_
          refine ⟨sz rfl, sz rfl, ?_⟩
          exact w7 (d := .tup [An.d ("gap", 0)]) rfl (fit_ans (as := [("gap", 0)]) (by simp)) rfl
  refine w1 (by decide) (by decide) fun M1 n1 hn1 p1 f1 => ?_
  refine w2 p1 (by decide) (by decide) fun a M2 _ _ p2 f2 => ?_
  conv => whnf
  rw [eqI]
  refine w2 p2 (by decide) (by decide) fun b M3 _ _ p3 f3 => ?_
  conv => whnf
  rw [eqI]
  refine ⟨sz rfl, ?_⟩
  refine w2 (p3.fr (Fr.app (S := []))) (by decide) (by decide) fun x M4 x0 x1 p4 f4 => ?_
  have l3 := p3.lt
  conv => whnf
  rw [lstAt_of (f4.lst mlst_new (by simp; omega))]
  obtain ⟨d, hd, a1⟩ := pick_D (xs := [D.int 0, .int 1, .int 2, .int 4, .int 7, .int 12]) x0 x1
  conv => whnf
  rw [a1]
  obtain ⟨size, rfl, z0, z1⟩ : ∃ z : Int, d = .int z ∧ 0 ≤ z ∧ z ≤ 60 := by
    simp only [List.mem_cons, List.not_mem_nil, or_false] at hd
    rcases hd with rfl | rfl | rfl | rfl | rfl | rfl <;> exact ⟨_, rfl, by decide, by decide⟩
  refine w2 p4 (by decide) (by decide) fun m M5 m0 m1 p5 f5 => ?_
  conv => whnf
  refine bm (fun e => ?_) (fun e => ?_)
  · exact rest _ _ _ _ _ _ (by decide) (by decide) (by omega) (by omega)
  · exact rest _ _ _ _ _ _ z0 z1 (by omega) (by omega)
end K28

set_option maxHeartbeats 0
namespace K28
open PySem PySem.Spec L2 DN
def topS (i : Nat) : Stmt := PySem.Challenge.pw_signoff_k28_following_an_anchor.main.body.getD i (.Pass ⟨0, 0, 0, 0⟩)
theorem sc_law_pool : FnScope ["script", "k", "cell", "number", "total", "turn"] ["script", "k"] (defScope (topS 18)) := ⟨rfl, rfl, rfl, by decide +kernel, rfl, by decide +kernel, by decide +kernel⟩
theorem c_law_pool : cDef [("len", .blt), ("int", .blt), ("range", .blt)] 0 ["script", "k", "cell", "number", "total", "turn"] (topS 18) = some (t_law_pool) := by rfl
theorem ge_law_pool {G : GC} (hx : G.xn = none) {f : Addr} {fd : FuncData} (F : Fun G.K "_law_pool" "_law_pool" (topS 18) f fd) (hm : G.mg "_law_pool" = some (.ref f)) (b_len : GEok G "len" .blt) (b_int : GEok G "int" .blt) (b_range : GEok G "range" .blt) : GEok G "_law_pool" (.fn 1 2 (bodyF 6 (t_law_pool))) :=
  ⟨f, fd, ["script", "k"], rfl, hm, F.kp, cDef_ok hx (gok_cons b_len (gok_cons b_int (gok_cons b_range gok_nil))) F sc_law_pool c_law_pool, F.binds fun _ _ _ _ _ _ us hl => match us, hl with | [_, _], _ => rfl⟩
theorem sc_law_draw : FnScope ["pool", "count", "value"] ["pool", "count"] (defScope (topS 19)) := ⟨rfl, rfl, rfl, by decide +kernel, rfl, by decide +kernel, by decide +kernel⟩
theorem c_law_draw : cDef [("int", .blt)] 0 ["pool", "count", "value"] (topS 19) = some (t_law_draw) := by rfl
theorem ge_law_draw {G : GC} (hx : G.xn = none) {f : Addr} {fd : FuncData} (F : Fun G.K "_law_draw" "_law_draw" (topS 19) f fd) (hm : G.mg "_law_draw" = some (.ref f)) (b_int : GEok G "int" .blt) : GEok G "_law_draw" (.fn 1 2 (bodyF 3 (t_law_draw))) :=
  ⟨f, fd, ["pool", "count"], rfl, hm, F.kp, cDef_ok hx (gok_cons b_int gok_nil) F sc_law_draw c_law_draw, F.binds fun _ _ _ _ _ _ us hl => match us, hl with | [_, _], _ => rfl⟩
theorem sc_law_line : FnScope ["pool", "plain", "signs", "size", "n"] ["pool", "plain"] (defScope (topS 20)) := ⟨rfl, rfl, rfl, by decide +kernel, rfl, by decide +kernel, by decide +kernel⟩
theorem c_law_line {F_law_draw : Fn} : cDef [("_law_draw", .fn 1 2 F_law_draw), ("range", .blt)] 1 ["pool", "plain", "signs", "size", "n"] (topS 20) = some (t_law_line F_law_draw) := by rfl
theorem ge_law_line {G : GC} (hx : G.xn = none) {f : Addr} {fd : FuncData} (F : Fun G.K "_law_line" "_law_line" (topS 20) f fd) (hm : G.mg "_law_line" = some (.ref f)) {F_law_draw : Fn} (g_law_draw : GEok G "_law_draw" (.fn 1 2 F_law_draw)) (b_range : GEok G "range" .blt) : GEok G "_law_line" (.fn 2 2 (bodyF 5 (t_law_line F_law_draw))) :=
  ⟨f, fd, ["pool", "plain"], rfl, hm, F.kp, cDef_ok hx (gok_cons g_law_draw (gok_cons b_range gok_nil)) F sc_law_line c_law_line, F.binds fun _ _ _ _ _ _ us hl => match us, hl with | [_, _], _ => rfl⟩
theorem sc_law_text : FnScope ["pool", "size", "plain", "n"] ["pool", "size", "plain"] (defScope (topS 21)) := ⟨rfl, rfl, rfl, by decide +kernel, rfl, by decide +kernel, by decide +kernel⟩
theorem c_law_text {F_law_line : Fn} : cDef [("_law_line", .fn 2 2 F_law_line), ("tuple", .blt), ("range", .blt)] 2 ["pool", "size", "plain", "n"] (topS 21) = some (t_law_text F_law_line) := by rfl
theorem ge_law_text {G : GC} (hx : G.xn = none) {f : Addr} {fd : FuncData} (F : Fun G.K "_law_text" "_law_text" (topS 21) f fd) (hm : G.mg "_law_text" = some (.ref f)) {F_law_line : Fn} (g_law_line : GEok G "_law_line" (.fn 2 2 F_law_line)) (b_tuple : GEok G "tuple" .blt) (b_range : GEok G "range" .blt) : GEok G "_law_text" (.fn 3 3 (bodyF 4 (t_law_text F_law_line))) :=
  ⟨f, fd, ["pool", "size", "plain"], rfl, hm, F.kp, cDef_ok hx (gok_cons g_law_line (gok_cons b_tuple (gok_cons b_range gok_nil))) F sc_law_text c_law_text, F.binds fun _ _ _ _ _ _ us hl => match us, hl with | [_, _, _], _ => rfl⟩
theorem sc_law_edit : FnScope ["pool", "text", "plain", "great", "most", "hunks", "low", "many", "cut", "put", "turn", "room", "step", "start", "gone", "added", "removed"] ["pool", "text", "plain", "great", "most"] (defScope (topS 22)) := ⟨rfl, rfl, rfl, by decide +kernel, rfl, by decide +kernel, by decide +kernel⟩
theorem c_law_edit {F_law_draw F_law_text F_law_line : Fn} : cDef [("_law_draw", .fn 1 2 F_law_draw), ("_law_text", .fn 3 3 F_law_text), ("_law_line", .fn 2 2 F_law_line), ("min", .blt), ("range", .blt), ("len", .blt), ("tuple", .blt)] 3 ["pool", "text", "plain", "great", "most", "hunks", "low", "many", "cut", "put", "turn", "room", "step", "start", "gone", "added", "removed"] (topS 22) = some (t_law_edit F_law_draw F_law_text F_law_line) := by rfl
theorem ge_law_edit {G : GC} (hx : G.xn = none) {f : Addr} {fd : FuncData} (F : Fun G.K "_law_edit" "_law_edit" (topS 22) f fd) (hm : G.mg "_law_edit" = some (.ref f)) {F_law_draw F_law_text F_law_line : Fn} (g_law_draw : GEok G "_law_draw" (.fn 1 2 F_law_draw)) (g_law_text : GEok G "_law_text" (.fn 3 3 F_law_text)) (g_law_line : GEok G "_law_line" (.fn 2 2 F_law_line)) (b_min : GEok G "min" .blt) (b_range : GEok G "range" .blt) (b_len : GEok G "len" .blt) (b_tuple : GEok G "tuple" .blt) : GEok G "_law_edit" (.fn 4 5 (bodyF 17 (t_law_edit F_law_draw F_law_text F_law_line))) :=
  ⟨f, fd, ["pool", "text", "plain", "great", "most"], rfl, hm, F.kp, cDef_ok hx (gok_cons g_law_draw (gok_cons g_law_text (gok_cons g_law_line (gok_cons b_min (gok_cons b_range (gok_cons b_len (gok_cons b_tuple gok_nil))))))) F sc_law_edit c_law_edit, F.binds fun _ _ _ _ _ _ us hl => match us, hl with | [_, _, _, _, _], _ => rfl⟩
theorem sc_law_apply : FnScope ["edit", "text", "lines", "done", "piece"] ["edit", "text"] (defScope (topS 25)) := ⟨rfl, rfl, rfl, by decide +kernel, rfl, by decide +kernel, by decide +kernel⟩
theorem c_law_apply : cDef [("len", .blt), ("list", .blt), ("tuple", .blt)] 0 ["edit", "text", "lines", "done", "piece"] (topS 25) = some (t_law_apply) := by rfl
theorem ge_law_apply {G : GC} (hx : G.xn = none) {f : Addr} {fd : FuncData} (F : Fun G.K "_law_apply" "_law_apply" (topS 25) f fd) (hm : G.mg "_law_apply" = some (.ref f)) (b_len : GEok G "len" .blt) (b_list : GEok G "list" .blt) (b_tuple : GEok G "tuple" .blt) : GEok G "_law_apply" (.fn 1 2 (bodyF 5 (t_law_apply))) :=
  ⟨f, fd, ["edit", "text"], rfl, hm, F.kp, cDef_ok hx (gok_cons b_len (gok_cons b_list (gok_cons b_tuple gok_nil))) F sc_law_apply c_law_apply, F.binds fun _ _ _ _ _ _ us hl => match us, hl with | [_, _], _ => rfl⟩
theorem sc_law_near : FnScope ["pool", "size", "word", "number", "kind", "odd"] ["pool", "size"] (defScope (topS 30)) := ⟨rfl, rfl, rfl, by decide +kernel, rfl, by decide +kernel, by decide +kernel⟩
theorem c_law_near {F_law_draw : Fn} : cDef [("_law_draw", .fn 1 2 F_law_draw)] 1 ["pool", "size", "word", "number", "kind", "odd"] (topS 30) = some (t_law_near F_law_draw) := by rfl
theorem ge_law_near {G : GC} (hx : G.xn = none) {f : Addr} {fd : FuncData} (F : Fun G.K "_law_near" "_law_near" (topS 30) f fd) (hm : G.mg "_law_near" = some (.ref f)) {F_law_draw : Fn} (g_law_draw : GEok G "_law_draw" (.fn 1 2 F_law_draw)) : GEok G "_law_near" (.fn 2 2 (bodyF 6 (t_law_near F_law_draw))) :=
  ⟨f, fd, ["pool", "size"], rfl, hm, F.kp, cDef_ok hx (gok_cons g_law_draw gok_nil) F sc_law_near c_law_near, F.binds fun _ _ _ _ _ _ us hl => match us, hl with | [_, _], _ => rfl⟩
theorem sc_law_same : FnScope ["actual", "due", "n"] ["actual", "due"] (defScope (topS 29)) := ⟨rfl, rfl, rfl, by decide +kernel, rfl, by decide +kernel, by decide +kernel⟩
theorem ge_law_same_0 {G : GC} {f : Addr} {fd : FuncData} (F : Fun G.K "_law_same" "_law_same" (topS 29) f fd) (hm : G.mg "_law_same" = some (.ref f)) : GEok G "_law_same" (.fn 0 2 (R_law_same 0)) :=
  ⟨f, fd, ["actual", "due"], rfl, hm, F.kp, fn_bot, F.binds fun _ _ _ _ _ _ us hl => match us, hl with | [_, _], _ => rfl⟩
theorem c_law_same_0 {F_law_same : Fn} : cDef [("_law_same", .fn 0 2 F_law_same), ("isinstance", .blt), ("tuple", .blt), ("len", .blt), ("range", .blt), ("bool", .blt), ("int", .blt), ("str", .blt)] 0 ["actual", "due", "n"] (topS 29) = some (t_law_same F_law_same) := by rfl
theorem ge_law_same_1 {G : GC} (hx : G.xn = none) {f : Addr} {fd : FuncData} (F : Fun G.K "_law_same" "_law_same" (topS 29) f fd) (hm : G.mg "_law_same" = some (.ref f)) (b_isinstance : GEok G "isinstance" .blt) (b_tuple : GEok G "tuple" .blt) (b_len : GEok G "len" .blt) (b_range : GEok G "range" .blt) (b_bool : GEok G "bool" .blt) (b_int : GEok G "int" .blt) (b_str : GEok G "str" .blt) : GEok G "_law_same" (.fn 1 2 (R_law_same 1)) :=
  ⟨f, fd, ["actual", "due"], rfl, hm, F.kp, cDef_ok hx (gok_cons (ge_law_same_0 F hm) (gok_cons b_isinstance (gok_cons b_tuple (gok_cons b_len (gok_cons b_range (gok_cons b_bool (gok_cons b_int (gok_cons b_str gok_nil)))))))) F sc_law_same c_law_same_0, F.binds fun _ _ _ _ _ _ us hl => match us, hl with | [_, _], _ => rfl⟩
theorem c_law_same_1 {F_law_same : Fn} : cDef [("_law_same", .fn 1 2 F_law_same), ("isinstance", .blt), ("tuple", .blt), ("len", .blt), ("range", .blt), ("bool", .blt), ("int", .blt), ("str", .blt)] 1 ["actual", "due", "n"] (topS 29) = some (t_law_same F_law_same) := by rfl
theorem ge_law_same_2 {G : GC} (hx : G.xn = none) {f : Addr} {fd : FuncData} (F : Fun G.K "_law_same" "_law_same" (topS 29) f fd) (hm : G.mg "_law_same" = some (.ref f)) (b_isinstance : GEok G "isinstance" .blt) (b_tuple : GEok G "tuple" .blt) (b_len : GEok G "len" .blt) (b_range : GEok G "range" .blt) (b_bool : GEok G "bool" .blt) (b_int : GEok G "int" .blt) (b_str : GEok G "str" .blt) : GEok G "_law_same" (.fn 2 2 (R_law_same 2)) :=
  ⟨f, fd, ["actual", "due"], rfl, hm, F.kp, cDef_ok hx (gok_cons (ge_law_same_1 hx F hm b_isinstance b_tuple b_len b_range b_bool b_int b_str) (gok_cons b_isinstance (gok_cons b_tuple (gok_cons b_len (gok_cons b_range (gok_cons b_bool (gok_cons b_int (gok_cons b_str gok_nil)))))))) F sc_law_same c_law_same_1, F.binds fun _ _ _ _ _ _ us hl => match us, hl with | [_, _], _ => rfl⟩
theorem c_law_same_2 {F_law_same : Fn} : cDef [("_law_same", .fn 2 2 F_law_same), ("isinstance", .blt), ("tuple", .blt), ("len", .blt), ("range", .blt), ("bool", .blt), ("int", .blt), ("str", .blt)] 2 ["actual", "due", "n"] (topS 29) = some (t_law_same F_law_same) := by rfl
theorem ge_law_same_3 {G : GC} (hx : G.xn = none) {f : Addr} {fd : FuncData} (F : Fun G.K "_law_same" "_law_same" (topS 29) f fd) (hm : G.mg "_law_same" = some (.ref f)) (b_isinstance : GEok G "isinstance" .blt) (b_tuple : GEok G "tuple" .blt) (b_len : GEok G "len" .blt) (b_range : GEok G "range" .blt) (b_bool : GEok G "bool" .blt) (b_int : GEok G "int" .blt) (b_str : GEok G "str" .blt) : GEok G "_law_same" (.fn 3 2 (R_law_same 3)) :=
  ⟨f, fd, ["actual", "due"], rfl, hm, F.kp, cDef_ok hx (gok_cons (ge_law_same_2 hx F hm b_isinstance b_tuple b_len b_range b_bool b_int b_str) (gok_cons b_isinstance (gok_cons b_tuple (gok_cons b_len (gok_cons b_range (gok_cons b_bool (gok_cons b_int (gok_cons b_str gok_nil)))))))) F sc_law_same c_law_same_2, F.binds fun _ _ _ _ _ _ us hl => match us, hl with | [_, _], _ => rfl⟩
theorem c_law_same_3 {F_law_same : Fn} : cDef [("_law_same", .fn 3 2 F_law_same), ("isinstance", .blt), ("tuple", .blt), ("len", .blt), ("range", .blt), ("bool", .blt), ("int", .blt), ("str", .blt)] 3 ["actual", "due", "n"] (topS 29) = some (t_law_same F_law_same) := by rfl
theorem ge_law_same_4 {G : GC} (hx : G.xn = none) {f : Addr} {fd : FuncData} (F : Fun G.K "_law_same" "_law_same" (topS 29) f fd) (hm : G.mg "_law_same" = some (.ref f)) (b_isinstance : GEok G "isinstance" .blt) (b_tuple : GEok G "tuple" .blt) (b_len : GEok G "len" .blt) (b_range : GEok G "range" .blt) (b_bool : GEok G "bool" .blt) (b_int : GEok G "int" .blt) (b_str : GEok G "str" .blt) : GEok G "_law_same" (.fn 4 2 (R_law_same 4)) :=
  ⟨f, fd, ["actual", "due"], rfl, hm, F.kp, cDef_ok hx (gok_cons (ge_law_same_3 hx F hm b_isinstance b_tuple b_len b_range b_bool b_int b_str) (gok_cons b_isinstance (gok_cons b_tuple (gok_cons b_len (gok_cons b_range (gok_cons b_bool (gok_cons b_int (gok_cons b_str gok_nil)))))))) F sc_law_same c_law_same_3, F.binds fun _ _ _ _ _ _ us hl => match us, hl with | [_, _], _ => rfl⟩
theorem c_law_same_4 {F_law_same : Fn} : cDef [("_law_same", .fn 4 2 F_law_same), ("isinstance", .blt), ("tuple", .blt), ("len", .blt), ("range", .blt), ("bool", .blt), ("int", .blt), ("str", .blt)] 4 ["actual", "due", "n"] (topS 29) = some (t_law_same F_law_same) := by rfl
theorem ge_law_same_5 {G : GC} (hx : G.xn = none) {f : Addr} {fd : FuncData} (F : Fun G.K "_law_same" "_law_same" (topS 29) f fd) (hm : G.mg "_law_same" = some (.ref f)) (b_isinstance : GEok G "isinstance" .blt) (b_tuple : GEok G "tuple" .blt) (b_len : GEok G "len" .blt) (b_range : GEok G "range" .blt) (b_bool : GEok G "bool" .blt) (b_int : GEok G "int" .blt) (b_str : GEok G "str" .blt) : GEok G "_law_same" (.fn 5 2 (R_law_same 5)) :=
  ⟨f, fd, ["actual", "due"], rfl, hm, F.kp, cDef_ok hx (gok_cons (ge_law_same_4 hx F hm b_isinstance b_tuple b_len b_range b_bool b_int b_str) (gok_cons b_isinstance (gok_cons b_tuple (gok_cons b_len (gok_cons b_range (gok_cons b_bool (gok_cons b_int (gok_cons b_str gok_nil)))))))) F sc_law_same c_law_same_4, F.binds fun _ _ _ _ _ _ us hl => match us, hl with | [_, _], _ => rfl⟩
theorem c_law_same_5 {F_law_same : Fn} : cDef [("_law_same", .fn 5 2 F_law_same), ("isinstance", .blt), ("tuple", .blt), ("len", .blt), ("range", .blt), ("bool", .blt), ("int", .blt), ("str", .blt)] 5 ["actual", "due", "n"] (topS 29) = some (t_law_same F_law_same) := by rfl
theorem ge_law_same_6 {G : GC} (hx : G.xn = none) {f : Addr} {fd : FuncData} (F : Fun G.K "_law_same" "_law_same" (topS 29) f fd) (hm : G.mg "_law_same" = some (.ref f)) (b_isinstance : GEok G "isinstance" .blt) (b_tuple : GEok G "tuple" .blt) (b_len : GEok G "len" .blt) (b_range : GEok G "range" .blt) (b_bool : GEok G "bool" .blt) (b_int : GEok G "int" .blt) (b_str : GEok G "str" .blt) : GEok G "_law_same" (.fn 6 2 (R_law_same 6)) :=
  ⟨f, fd, ["actual", "due"], rfl, hm, F.kp, cDef_ok hx (gok_cons (ge_law_same_5 hx F hm b_isinstance b_tuple b_len b_range b_bool b_int b_str) (gok_cons b_isinstance (gok_cons b_tuple (gok_cons b_len (gok_cons b_range (gok_cons b_bool (gok_cons b_int (gok_cons b_str gok_nil)))))))) F sc_law_same c_law_same_5, F.binds fun _ _ _ _ _ _ us hl => match us, hl with | [_, _], _ => rfl⟩
theorem sc_law_is_anchor : FnScope ["size", "value"] ["size", "value"] (defScope (topS 31)) := ⟨rfl, rfl, rfl, by decide +kernel, rfl, by decide +kernel, by decide +kernel⟩
theorem c_law_is_anchor : cDef [("len", .blt), ("isinstance", .blt), ("tuple", .blt), ("bool", .blt), ("int", .blt)] 0 ["size", "value"] (topS 31) = some (t_law_is_anchor) := by rfl
theorem ge_law_is_anchor {G : GC} (hx : G.xn = none) {f : Addr} {fd : FuncData} (F : Fun G.K "_law_is_anchor" "_law_is_anchor" (topS 31) f fd) (hm : G.mg "_law_is_anchor" = some (.ref f)) (b_len : GEok G "len" .blt) (b_isinstance : GEok G "isinstance" .blt) (b_tuple : GEok G "tuple" .blt) (b_bool : GEok G "bool" .blt) (b_int : GEok G "int" .blt) : GEok G "_law_is_anchor" (.fn 1 2 (bodyF 2 (t_law_is_anchor))) :=
  ⟨f, fd, ["size", "value"], rfl, hm, F.kp, cDef_ok hx (gok_cons b_len (gok_cons b_isinstance (gok_cons b_tuple (gok_cons b_bool (gok_cons b_int gok_nil))))) F sc_law_is_anchor c_law_is_anchor, F.binds fun _ _ _ _ _ _ us hl => match us, hl with | [_, _], _ => rfl⟩
theorem sc_is_tuple_of : FnScope ["value", "size"] ["value", "size"] (defScope (topS 3)) := ⟨rfl, rfl, rfl, by decide +kernel, rfl, by decide +kernel, by decide +kernel⟩
theorem c_is_tuple_of : cDef [("len", .blt), ("isinstance", .blt), ("tuple", .blt)] 0 ["value", "size"] (topS 3) = some (t_is_tuple_of) := by rfl
theorem ge_is_tuple_of {G : GC} (hx : G.xn = none) {f : Addr} {fd : FuncData} (F : Fun G.K "is_tuple_of" "is_tuple_of" (topS 3) f fd) (hm : G.mg "is_tuple_of" = some (.ref f)) (b_len : GEok G "len" .blt) (b_isinstance : GEok G "isinstance" .blt) (b_tuple : GEok G "tuple" .blt) : GEok G "is_tuple_of" (.fn 1 2 (bodyF 2 (t_is_tuple_of))) :=
  ⟨f, fd, ["value", "size"], rfl, hm, F.kp, cDef_ok hx (gok_cons b_len (gok_cons b_isinstance (gok_cons b_tuple gok_nil))) F sc_is_tuple_of c_is_tuple_of, F.binds fun _ _ _ _ _ _ us hl => match us, hl with | [_, _], _ => rfl⟩
theorem sc_is_whole : FnScope ["value"] ["value"] (defScope (topS 1)) := ⟨rfl, rfl, rfl, by decide +kernel, rfl, by decide +kernel, by decide +kernel⟩
theorem c_is_whole : cDef [("isinstance", .blt), ("bool", .blt), ("int", .blt)] 0 ["value"] (topS 1) = some (t_is_whole) := by rfl
theorem ge_is_whole {G : GC} (hx : G.xn = none) {f : Addr} {fd : FuncData} (F : Fun G.K "is_whole" "is_whole" (topS 1) f fd) (hm : G.mg "is_whole" = some (.ref f)) (b_isinstance : GEok G "isinstance" .blt) (b_bool : GEok G "bool" .blt) (b_int : GEok G "int" .blt) : GEok G "is_whole" (.fn 1 1 (bodyF 1 (t_is_whole))) :=
  ⟨f, fd, ["value"], rfl, hm, F.kp, cDef_ok hx (gok_cons b_isinstance (gok_cons b_bool (gok_cons b_int gok_nil))) F sc_is_whole c_is_whole, F.binds fun _ _ _ _ _ _ us hl => match us, hl with | [_], _ => rfl⟩
theorem sc_is_index : FnScope ["value", "count"] ["value", "count"] (defScope (topS 2)) := ⟨rfl, rfl, rfl, by decide +kernel, rfl, by decide +kernel, by decide +kernel⟩
theorem c_is_index {F_is_whole : Fn} : cDef [("is_whole", .fn 1 1 F_is_whole)] 1 ["value", "count"] (topS 2) = some (t_is_index F_is_whole) := by rfl
theorem ge_is_index {G : GC} (hx : G.xn = none) {f : Addr} {fd : FuncData} (F : Fun G.K "is_index" "is_index" (topS 2) f fd) (hm : G.mg "is_index" = some (.ref f)) {F_is_whole : Fn} (g_is_whole : GEok G "is_whole" (.fn 1 1 F_is_whole)) : GEok G "is_index" (.fn 2 2 (bodyF 2 (t_is_index F_is_whole))) :=
  ⟨f, fd, ["value", "count"], rfl, hm, F.kp, cDef_ok hx (gok_cons g_is_whole gok_nil) F sc_is_index c_is_index, F.binds fun _ _ _ _ _ _ us hl => match us, hl with | [_, _], _ => rfl⟩
theorem sc_is_anchor : FnScope ["size", "value"] ["size", "value"] (defScope (topS 12)) := ⟨rfl, rfl, rfl, by decide +kernel, rfl, by decide +kernel, by decide +kernel⟩
theorem c_is_anchor {F_is_tuple_of F_is_index : Fn} : cDef [("is_tuple_of", .fn 1 2 F_is_tuple_of), ("is_index", .fn 2 2 F_is_index)] 2 ["size", "value"] (topS 12) = some (t_is_anchor F_is_tuple_of F_is_index) := by rfl
theorem ge_is_anchor {G : GC} (hx : G.xn = none) {f : Addr} {fd : FuncData} (F : Fun G.K "is_anchor" "is_anchor" (topS 12) f fd) (hm : G.mg "is_anchor" = some (.ref f)) {F_is_tuple_of F_is_index : Fn} (g_is_tuple_of : GEok G "is_tuple_of" (.fn 1 2 F_is_tuple_of)) (g_is_index : GEok G "is_index" (.fn 2 2 F_is_index)) : GEok G "is_anchor" (.fn 3 2 (bodyF 2 (t_is_anchor F_is_tuple_of F_is_index))) :=
  ⟨f, fd, ["size", "value"], rfl, hm, F.kp, cDef_ok hx (gok_cons g_is_tuple_of (gok_cons g_is_index gok_nil)) F sc_is_anchor c_is_anchor, F.binds fun _ _ _ _ _ _ us hl => match us, hl with | [_, _], _ => rfl⟩
theorem sc_law_any_anchor : FnScope ["pool", "size", "number"] ["pool", "size"] (defScope (topS 32)) := ⟨rfl, rfl, rfl, by decide +kernel, rfl, by decide +kernel, by decide +kernel⟩
theorem c_law_any_anchor {F_law_draw : Fn} : cDef [("_law_draw", .fn 1 2 F_law_draw)] 1 ["pool", "size", "number"] (topS 32) = some (t_law_any_anchor F_law_draw) := by rfl
theorem ge_law_any_anchor {G : GC} (hx : G.xn = none) {f : Addr} {fd : FuncData} (F : Fun G.K "_law_any_anchor" "_law_any_anchor" (topS 32) f fd) (hm : G.mg "_law_any_anchor" = some (.ref f)) {F_law_draw : Fn} (g_law_draw : GEok G "_law_draw" (.fn 1 2 F_law_draw)) : GEok G "_law_any_anchor" (.fn 2 2 (bodyF 3 (t_law_any_anchor F_law_draw))) :=
  ⟨f, fd, ["pool", "size"], rfl, hm, F.kp, cDef_ok hx (gok_cons g_law_draw gok_nil) F sc_law_any_anchor c_law_any_anchor, F.binds fun _ _ _ _ _ _ us hl => match us, hl with | [_, _], _ => rfl⟩
theorem sc_law_follow : FnScope ["anchor", "edit", "carrier", "grown", "piece", "stop"] ["anchor", "edit"] (defScope (topS 27)) := ⟨rfl, rfl, rfl, by decide +kernel, rfl, by decide +kernel, by decide +kernel⟩
theorem c_law_follow : cDef [("len", .blt)] 0 ["anchor", "edit", "carrier", "grown", "piece", "stop"] (topS 27) = some (t_law_follow) := by rfl
theorem ge_law_follow {G : GC} (hx : G.xn = none) {f : Addr} {fd : FuncData} (F : Fun G.K "_law_follow" "_law_follow" (topS 27) f fd) (hm : G.mg "_law_follow" = some (.ref f)) (b_len : GEok G "len" .blt) : GEok G "_law_follow" (.fn 1 2 (bodyF 6 (t_law_follow))) :=
  ⟨f, fd, ["anchor", "edit"], rfl, hm, F.kp, cDef_ok hx (gok_cons b_len gok_nil) F sc_law_follow c_law_follow, F.binds fun _ _ _ _ _ _ us hl => match us, hl with | [_, _], _ => rfl⟩
theorem sc_hunk_growth : FnScope ["hunk"] ["hunk"] (defScope (topS 6)) := ⟨rfl, rfl, rfl, by decide +kernel, rfl, by decide +kernel, by decide +kernel⟩
theorem c_hunk_growth : cDef [("len", .blt)] 0 ["hunk"] (topS 6) = some (t_hunk_growth) := by rfl
theorem ge_hunk_growth {G : GC} (hx : G.xn = none) {f : Addr} {fd : FuncData} (F : Fun G.K "hunk_growth" "hunk_growth" (topS 6) f fd) (hm : G.mg "hunk_growth" = some (.ref f)) (b_len : GEok G "len" .blt) : GEok G "hunk_growth" (.fn 1 1 (bodyF 1 (t_hunk_growth))) :=
  ⟨f, fd, ["hunk"], rfl, hm, F.kp, cDef_ok hx (gok_cons b_len gok_nil) F sc_hunk_growth c_hunk_growth, F.binds fun _ _ _ _ _ _ us hl => match us, hl with | [_], _ => rfl⟩
theorem sc_edit_starts : FnScope ["edit", "starts", "growth", "hunk"] ["edit"] (defScope (topS 8)) := ⟨rfl, rfl, rfl, by decide +kernel, rfl, by decide +kernel, by decide +kernel⟩
theorem c_edit_starts {F_hunk_growth : Fn} : cDef [("hunk_growth", .fn 1 1 F_hunk_growth), ("tuple", .blt)] 1 ["edit", "starts", "growth", "hunk"] (topS 8) = some (t_edit_starts F_hunk_growth) := by rfl
theorem ge_edit_starts {G : GC} (hx : G.xn = none) {f : Addr} {fd : FuncData} (F : Fun G.K "edit_starts" "edit_starts" (topS 8) f fd) (hm : G.mg "edit_starts" = some (.ref f)) {F_hunk_growth : Fn} (g_hunk_growth : GEok G "hunk_growth" (.fn 1 1 F_hunk_growth)) (b_tuple : GEok G "tuple" .blt) : GEok G "edit_starts" (.fn 2 1 (bodyF 4 (t_edit_starts F_hunk_growth))) :=
  ⟨f, fd, ["edit"], rfl, hm, F.kp, cDef_ok hx (gok_cons g_hunk_growth (gok_cons b_tuple gok_nil)) F sc_edit_starts c_edit_starts, F.binds fun _ _ _ _ _ _ us hl => match us, hl with | [_], _ => rfl⟩
theorem sc_hunk_end : FnScope ["hunk"] ["hunk"] (defScope (topS 5)) := ⟨rfl, rfl, rfl, by decide +kernel, rfl, by decide +kernel, by decide +kernel⟩
theorem c_hunk_end : cDef [("len", .blt)] 0 ["hunk"] (topS 5) = some (t_hunk_end) := by rfl
theorem ge_hunk_end {G : GC} (hx : G.xn = none) {f : Addr} {fd : FuncData} (F : Fun G.K "hunk_end" "hunk_end" (topS 5) f fd) (hm : G.mg "hunk_end" = some (.ref f)) (b_len : GEok G "len" .blt) : GEok G "hunk_end" (.fn 1 1 (bodyF 1 (t_hunk_end))) :=
  ⟨f, fd, ["hunk"], rfl, hm, F.kp, cDef_ok hx (gok_cons b_len gok_nil) F sc_hunk_end c_hunk_end, F.binds fun _ _ _ _ _ _ us hl => match us, hl with | [_], _ => rfl⟩
theorem sc_is_hit : FnScope ["anchor", "hunk"] ["anchor", "hunk"] (defScope (topS 13)) := ⟨rfl, rfl, rfl, by decide +kernel, rfl, by decide +kernel, by decide +kernel⟩
theorem c_is_hit {F_hunk_end : Fn} : cDef [("hunk_end", .fn 1 1 F_hunk_end)] 1 ["anchor", "hunk"] (topS 13) = some (t_is_hit F_hunk_end) := by rfl
theorem ge_is_hit {G : GC} (hx : G.xn = none) {f : Addr} {fd : FuncData} (F : Fun G.K "is_hit" "is_hit" (topS 13) f fd) (hm : G.mg "is_hit" = some (.ref f)) {F_hunk_end : Fn} (g_hunk_end : GEok G "hunk_end" (.fn 1 1 F_hunk_end)) : GEok G "is_hit" (.fn 2 2 (bodyF 2 (t_is_hit F_hunk_end))) :=
  ⟨f, fd, ["anchor", "hunk"], rfl, hm, F.kp, cDef_ok hx (gok_cons g_hunk_end gok_nil) F sc_is_hit c_is_hit, F.binds fun _ _ _ _ _ _ us hl => match us, hl with | [_, _], _ => rfl⟩
theorem sc_growth_before : FnScope ["edit", "limit", "hunk"] ["edit", "limit"] (defScope (topS 10)) := ⟨rfl, rfl, rfl, by decide +kernel, rfl, by decide +kernel, by decide +kernel⟩
theorem c_growth_before {F_hunk_end F_hunk_growth : Fn} : cDef [("hunk_end", .fn 1 1 F_hunk_end), ("hunk_growth", .fn 1 1 F_hunk_growth), ("sum", .blt)] 1 ["edit", "limit", "hunk"] (topS 10) = some (t_growth_before F_hunk_end F_hunk_growth) := by rfl
theorem ge_growth_before {G : GC} (hx : G.xn = none) {f : Addr} {fd : FuncData} (F : Fun G.K "growth_before" "growth_before" (topS 10) f fd) (hm : G.mg "growth_before" = some (.ref f)) {F_hunk_end F_hunk_growth : Fn} (g_hunk_end : GEok G "hunk_end" (.fn 1 1 F_hunk_end)) (g_hunk_growth : GEok G "hunk_growth" (.fn 1 1 F_hunk_growth)) (b_sum : GEok G "sum" .blt) : GEok G "growth_before" (.fn 2 2 (bodyF 3 (t_growth_before F_hunk_end F_hunk_growth))) :=
  ⟨f, fd, ["edit", "limit"], rfl, hm, F.kp, cDef_ok hx (gok_cons g_hunk_end (gok_cons g_hunk_growth (gok_cons b_sum gok_nil))) F sc_growth_before c_growth_before, F.binds fun _ _ _ _ _ _ us hl => match us, hl with | [_, _], _ => rfl⟩
theorem sc_follow : FnScope ["anchor", "edit", "starts", "index", "hunk", "limit"] ["anchor", "edit"] (defScope (topS 14)) := ⟨rfl, rfl, rfl, by decide +kernel, rfl, by decide +kernel, by decide +kernel⟩
theorem c_follow {F_edit_starts F_is_hit F_growth_before : Fn} : cDef [("edit_starts", .fn 2 1 F_edit_starts), ("is_hit", .fn 2 2 F_is_hit), ("growth_before", .fn 2 2 F_growth_before), ("enumerate", .blt)] 2 ["anchor", "edit", "starts", "index", "hunk", "limit"] (topS 14) = some (t_follow F_edit_starts F_is_hit F_growth_before) := by rfl
theorem ge_follow {G : GC} (hx : G.xn = none) {f : Addr} {fd : FuncData} (F : Fun G.K "follow" "follow" (topS 14) f fd) (hm : G.mg "follow" = some (.ref f)) {F_edit_starts F_is_hit F_growth_before : Fn} (g_edit_starts : GEok G "edit_starts" (.fn 2 1 F_edit_starts)) (g_is_hit : GEok G "is_hit" (.fn 2 2 F_is_hit)) (g_growth_before : GEok G "growth_before" (.fn 2 2 F_growth_before)) (b_enumerate : GEok G "enumerate" .blt) : GEok G "follow" (.fn 3 2 (bodyF 6 (t_follow F_edit_starts F_is_hit F_growth_before))) :=
  ⟨f, fd, ["anchor", "edit"], rfl, hm, F.kp, cDef_ok hx (gok_cons g_edit_starts (gok_cons g_is_hit (gok_cons g_growth_before (gok_cons b_enumerate gok_nil)))) F sc_follow c_follow, F.binds fun _ _ _ _ _ _ us hl => match us, hl with | [_, _], _ => rfl⟩
theorem sc_inverse_edit : FnScope ["edit", "starts", "index", "hunk"] ["edit"] (defScope (topS 9)) := ⟨rfl, rfl, rfl, by decide +kernel, rfl, by decide +kernel, by decide +kernel⟩
theorem c_inverse_edit {F_edit_starts : Fn} : cDef [("edit_starts", .fn 2 1 F_edit_starts), ("tuple", .blt), ("enumerate", .blt)] 2 ["edit", "starts", "index", "hunk"] (topS 9) = some (t_inverse_edit F_edit_starts) := by rfl
theorem ge_inverse_edit {G : GC} (hx : G.xn = none) {f : Addr} {fd : FuncData} (F : Fun G.K "inverse_edit" "inverse_edit" (topS 9) f fd) (hm : G.mg "inverse_edit" = some (.ref f)) {F_edit_starts : Fn} (g_edit_starts : GEok G "edit_starts" (.fn 2 1 F_edit_starts)) (b_tuple : GEok G "tuple" .blt) (b_enumerate : GEok G "enumerate" .blt) : GEok G "inverse_edit" (.fn 3 1 (bodyF 4 (t_inverse_edit F_edit_starts))) :=
  ⟨f, fd, ["edit"], rfl, hm, F.kp, cDef_ok hx (gok_cons g_edit_starts (gok_cons b_tuple (gok_cons b_enumerate gok_nil))) F sc_inverse_edit c_inverse_edit, F.binds fun _ _ _ _ _ _ us hl => match us, hl with | [_], _ => rfl⟩
theorem sc_follow_back : FnScope ["anchor", "edit"] ["anchor", "edit"] (defScope (topS 15)) := ⟨rfl, rfl, rfl, by decide +kernel, rfl, by decide +kernel, by decide +kernel⟩
theorem c_follow_back {F_follow F_inverse_edit : Fn} : cDef [("follow", .fn 3 2 F_follow), ("inverse_edit", .fn 3 1 F_inverse_edit)] 3 ["anchor", "edit"] (topS 15) = some (t_follow_back F_follow F_inverse_edit) := by rfl
theorem ge_follow_back {G : GC} (hx : G.xn = none) {f : Addr} {fd : FuncData} (F : Fun G.K "follow_back" "follow_back" (topS 15) f fd) (hm : G.mg "follow_back" = some (.ref f)) {F_follow F_inverse_edit : Fn} (g_follow : GEok G "follow" (.fn 3 2 F_follow)) (g_inverse_edit : GEok G "inverse_edit" (.fn 3 1 F_inverse_edit)) : GEok G "follow_back" (.fn 4 2 (bodyF 2 (t_follow_back F_follow F_inverse_edit))) :=
  ⟨f, fd, ["anchor", "edit"], rfl, hm, F.kp, cDef_ok hx (gok_cons g_follow (gok_cons g_inverse_edit gok_nil)) F sc_follow_back c_follow_back, F.binds fun _ _ _ _ _ _ us hl => match us, hl with | [_, _], _ => rfl⟩
theorem sc_law_one_edit : FnScope ["anchor", "edit", "old", "new", "due", "gone", "piece"] ["anchor", "edit", "old", "new"] (defScope (topS 33)) := ⟨rfl, rfl, rfl, by decide +kernel, rfl, by decide +kernel, by decide +kernel⟩
theorem c_law_one_edit {F_law_follow F_law_is_anchor F_law_same F_follow F_follow_back : Fn} : cDef [("_law_follow", .fn 1 2 F_law_follow), ("_law_is_anchor", .fn 1 2 F_law_is_anchor), ("_law_same", .fn 6 2 F_law_same), ("follow", .fn 3 2 F_follow), ("follow_back", .fn 4 2 F_follow_back), ("len", .blt)] 6 ["anchor", "edit", "old", "new", "due", "gone", "piece"] (topS 33) = some (t_law_one_edit F_law_follow F_law_is_anchor F_law_same F_follow F_follow_back) := by rfl
theorem ge_law_one_edit {G : GC} (hx : G.xn = none) {f : Addr} {fd : FuncData} (F : Fun G.K "_law_one_edit" "_law_one_edit" (topS 33) f fd) (hm : G.mg "_law_one_edit" = some (.ref f)) {F_law_follow F_law_is_anchor F_law_same F_follow F_follow_back : Fn} (g_law_follow : GEok G "_law_follow" (.fn 1 2 F_law_follow)) (g_law_is_anchor : GEok G "_law_is_anchor" (.fn 1 2 F_law_is_anchor)) (g_law_same : GEok G "_law_same" (.fn 6 2 F_law_same)) (g_follow : GEok G "follow" (.fn 3 2 F_follow)) (g_follow_back : GEok G "follow_back" (.fn 4 2 F_follow_back)) (b_len : GEok G "len" .blt) : GEok G "_law_one_edit" (.fn 7 4 (bodyF 7 (t_law_one_edit F_law_follow F_law_is_anchor F_law_same F_follow F_follow_back))) :=
  ⟨f, fd, ["anchor", "edit", "old", "new"], rfl, hm, F.kp, cDef_ok hx (gok_cons g_law_follow (gok_cons g_law_is_anchor (gok_cons g_law_same (gok_cons g_follow (gok_cons g_follow_back (gok_cons b_len gok_nil)))))) F sc_law_one_edit c_law_one_edit, F.binds fun _ _ _ _ _ _ us hl => match us, hl with | [_, _, _, _], _ => rfl⟩
theorem sc_follow_all : FnScope ["anchor", "edits", "found", "edit"] ["anchor", "edits"] (defScope (topS 16)) := ⟨rfl, rfl, rfl, by decide +kernel, rfl, by decide +kernel, by decide +kernel⟩
theorem c_follow_all {F_follow : Fn} : cDef [("follow", .fn 3 2 F_follow), ("tuple", .blt)] 3 ["anchor", "edits", "found", "edit"] (topS 16) = some (t_follow_all F_follow) := by rfl
theorem ge_follow_all {G : GC} (hx : G.xn = none) {f : Addr} {fd : FuncData} (F : Fun G.K "follow_all" "follow_all" (topS 16) f fd) (hm : G.mg "follow_all" = some (.ref f)) {F_follow : Fn} (g_follow : GEok G "follow" (.fn 3 2 F_follow)) (b_tuple : GEok G "tuple" .blt) : GEok G "follow_all" (.fn 4 2 (bodyF 4 (t_follow_all F_follow))) :=
  ⟨f, fd, ["anchor", "edits"], rfl, hm, F.kp, cDef_ok hx (gok_cons g_follow (gok_cons b_tuple gok_nil)) F sc_follow_all c_follow_all, F.binds fun _ _ _ _ _ _ us hl => match us, hl with | [_, _], _ => rfl⟩
theorem sc_law_back : FnScope ["anchor", "edit", "turned", "grown", "piece"] ["anchor", "edit"] (defScope (topS 28)) := ⟨rfl, rfl, rfl, by decide +kernel, rfl, by decide +kernel, by decide +kernel⟩
theorem c_law_back {F_law_follow : Fn} : cDef [("_law_follow", .fn 1 2 F_law_follow), ("len", .blt), ("tuple", .blt)] 1 ["anchor", "edit", "turned", "grown", "piece"] (topS 28) = some (t_law_back F_law_follow) := by rfl
theorem ge_law_back {G : GC} (hx : G.xn = none) {f : Addr} {fd : FuncData} (F : Fun G.K "_law_back" "_law_back" (topS 28) f fd) (hm : G.mg "_law_back" = some (.ref f)) {F_law_follow : Fn} (g_law_follow : GEok G "_law_follow" (.fn 1 2 F_law_follow)) (b_len : GEok G "len" .blt) (b_tuple : GEok G "tuple" .blt) : GEok G "_law_back" (.fn 2 2 (bodyF 5 (t_law_back F_law_follow))) :=
  ⟨f, fd, ["anchor", "edit"], rfl, hm, F.kp, cDef_ok hx (gok_cons g_law_follow (gok_cons b_len (gok_cons b_tuple gok_nil))) F sc_law_back c_law_back, F.binds fun _ _ _ _ _ _ us hl => match us, hl with | [_, _], _ => rfl⟩
theorem sc_law : FnScope ["script", "pool", "plain", "great", "size", "many", "text", "texts", "edits", "n", "turn", "value", "anchor", "due", "edit", "late"] ["script"] (defScope (topS 34)) := ⟨rfl, rfl, rfl, by decide +kernel, rfl, by decide +kernel, by decide +kernel⟩
theorem c_law {F_law_pool F_law_draw F_law_text F_law_edit F_law_apply F_law_near F_law_same F_law_is_anchor F_is_anchor F_law_any_anchor F_law_one_edit F_law_follow F_follow_all F_law_back F_follow_back : Fn} : cDef [("_law_pool", .fn 1 2 F_law_pool), ("_law_draw", .fn 1 2 F_law_draw), ("_law_text", .fn 3 3 F_law_text), ("_law_edit", .fn 4 5 F_law_edit), ("_law_apply", .fn 1 2 F_law_apply), ("_law_near", .fn 2 2 F_law_near), ("_law_same", .fn 6 2 F_law_same), ("_law_is_anchor", .fn 1 2 F_law_is_anchor), ("is_anchor", .fn 3 2 F_is_anchor), ("_law_any_anchor", .fn 2 2 F_law_any_anchor), ("_law_one_edit", .fn 7 4 F_law_one_edit), ("_law_follow", .fn 1 2 F_law_follow), ("follow_all", .fn 4 2 F_follow_all), ("_law_back", .fn 2 2 F_law_back), ("follow_back", .fn 4 2 F_follow_back), ("range", .blt), ("tuple", .blt), ("len", .blt)] 7 ["script", "pool", "plain", "great", "size", "many", "text", "texts", "edits", "n", "turn", "value", "anchor", "due", "edit", "late"] (topS 34) = some (t_law F_law_pool F_law_draw F_law_text F_law_edit F_law_apply F_law_near F_law_same F_law_is_anchor F_is_anchor F_law_any_anchor F_law_one_edit F_law_follow F_follow_all F_law_back F_follow_back) := by rfl
theorem ge_law {G : GC} (hx : G.xn = none) {f : Addr} {fd : FuncData} (F : Fun G.K "law" "law" (topS 34) f fd) (hm : G.mg "law" = some (.ref f)) {F_law_pool F_law_draw F_law_text F_law_edit F_law_apply F_law_near F_law_same F_law_is_anchor F_is_anchor F_law_any_anchor F_law_one_edit F_law_follow F_follow_all F_law_back F_follow_back : Fn} (g_law_pool : GEok G "_law_pool" (.fn 1 2 F_law_pool)) (g_law_draw : GEok G "_law_draw" (.fn 1 2 F_law_draw)) (g_law_text : GEok G "_law_text" (.fn 3 3 F_law_text)) (g_law_edit : GEok G "_law_edit" (.fn 4 5 F_law_edit)) (g_law_apply : GEok G "_law_apply" (.fn 1 2 F_law_apply)) (g_law_near : GEok G "_law_near" (.fn 2 2 F_law_near)) (g_law_same : GEok G "_law_same" (.fn 6 2 F_law_same)) (g_law_is_anchor : GEok G "_law_is_anchor" (.fn 1 2 F_law_is_anchor)) (g_is_anchor : GEok G "is_anchor" (.fn 3 2 F_is_anchor)) (g_law_any_anchor : GEok G "_law_any_anchor" (.fn 2 2 F_law_any_anchor)) (g_law_one_edit : GEok G "_law_one_edit" (.fn 7 4 F_law_one_edit)) (g_law_follow : GEok G "_law_follow" (.fn 1 2 F_law_follow)) (g_follow_all : GEok G "follow_all" (.fn 4 2 F_follow_all)) (g_law_back : GEok G "_law_back" (.fn 2 2 F_law_back)) (g_follow_back : GEok G "follow_back" (.fn 4 2 F_follow_back)) (b_range : GEok G "range" .blt) (b_tuple : GEok G "tuple" .blt) (b_len : GEok G "len" .blt) : GEok G "law" (.fn 8 1 (bodyF 16 (t_law F_law_pool F_law_draw F_law_text F_law_edit F_law_apply F_law_near F_law_same F_law_is_anchor F_is_anchor F_law_any_anchor F_law_one_edit F_law_follow F_follow_all F_law_back F_follow_back))) :=
  ⟨f, fd, ["script"], rfl, hm, F.kp, cDef_ok hx (gok_cons g_law_pool (gok_cons g_law_draw (gok_cons g_law_text (gok_cons g_law_edit (gok_cons g_law_apply (gok_cons g_law_near (gok_cons g_law_same (gok_cons g_law_is_anchor (gok_cons g_is_anchor (gok_cons g_law_any_anchor (gok_cons g_law_one_edit (gok_cons g_law_follow (gok_cons g_follow_all (gok_cons g_law_back (gok_cons g_follow_back (gok_cons b_range (gok_cons b_tuple (gok_cons b_len gok_nil)))))))))))))))))) F sc_law c_law, F.binds fun _ _ _ _ _ _ us hl => match us, hl with | [_], _ => rfl⟩
end K28

set_option maxHeartbeats 0
namespace K28
open PySem PySem.Spec L2 DN
theorem all_mk {w : World} {K : PySem.W.Frag} {h : Heap} {mg : Str → Option Value} {fa : Addr} (X : K.In h) (G : h.Ns mainGlobals mg) (hfa : mg "law" = some (.ref fa))
    {p_law_pool : Addr} {od_law_pool an_law_pool : Option Addr} {sl_law_pool : Array (Option Value)} {oc_law_pool kV_law_pool dc_law_pool pm_law_pool cd_law_pool ct_law_pool : Value}
    (a_law_pool : PySem.W.nsIn K mainGlobals "_law_pool" = some (some (.ref p_law_pool))) (l_law_pool : K.lookup p_law_pool = some ⟨oc_law_pool, od_law_pool, .func (PySem.W.fnOf "_law_pool" "_law_pool" (defArgs (topS 18)) (defBody (topS 18)) (defScope (topS 18)) .none kV_law_pool dc_law_pool pm_law_pool an_law_pool cd_law_pool ct_law_pool), sl_law_pool⟩) (d_law_pool : PySem.W.codeIn K cd_law_pool "_law_pool" = true) (k_law_pool : PySem.W.keepIn K (.ref p_law_pool) = true)
    {p_law_draw : Addr} {od_law_draw an_law_draw : Option Addr} {sl_law_draw : Array (Option Value)} {oc_law_draw kV_law_draw dc_law_draw pm_law_draw cd_law_draw ct_law_draw : Value}
    (a_law_draw : PySem.W.nsIn K mainGlobals "_law_draw" = some (some (.ref p_law_draw))) (l_law_draw : K.lookup p_law_draw = some ⟨oc_law_draw, od_law_draw, .func (PySem.W.fnOf "_law_draw" "_law_draw" (defArgs (topS 19)) (defBody (topS 19)) (defScope (topS 19)) .none kV_law_draw dc_law_draw pm_law_draw an_law_draw cd_law_draw ct_law_draw), sl_law_draw⟩) (d_law_draw : PySem.W.codeIn K cd_law_draw "_law_draw" = true) (k_law_draw : PySem.W.keepIn K (.ref p_law_draw) = true)
    {p_law_line : Addr} {od_law_line an_law_line : Option Addr} {sl_law_line : Array (Option Value)} {oc_law_line kV_law_line dc_law_line pm_law_line cd_law_line ct_law_line : Value}
    (a_law_line : PySem.W.nsIn K mainGlobals "_law_line" = some (some (.ref p_law_line))) (l_law_line : K.lookup p_law_line = some ⟨oc_law_line, od_law_line, .func (PySem.W.fnOf "_law_line" "_law_line" (defArgs (topS 20)) (defBody (topS 20)) (defScope (topS 20)) .none kV_law_line dc_law_line pm_law_line an_law_line cd_law_line ct_law_line), sl_law_line⟩) (d_law_line : PySem.W.codeIn K cd_law_line "_law_line" = true) (k_law_line : PySem.W.keepIn K (.ref p_law_line) = true)
    {p_law_text : Addr} {od_law_text an_law_text : Option Addr} {sl_law_text : Array (Option Value)} {oc_law_text kV_law_text dc_law_text pm_law_text cd_law_text ct_law_text : Value}
    (a_law_text : PySem.W.nsIn K mainGlobals "_law_text" = some (some (.ref p_law_text))) (l_law_text : K.lookup p_law_text = some ⟨oc_law_text, od_law_text, .func (PySem.W.fnOf "_law_text" "_law_text" (defArgs (topS 21)) (defBody (topS 21)) (defScope (topS 21)) .none kV_law_text dc_law_text pm_law_text an_law_text cd_law_text ct_law_text), sl_law_text⟩) (d_law_text : PySem.W.codeIn K cd_law_text "_law_text" = true) (k_law_text : PySem.W.keepIn K (.ref p_law_text) = true)
    {p_law_edit : Addr} {od_law_edit an_law_edit : Option Addr} {sl_law_edit : Array (Option Value)} {oc_law_edit kV_law_edit dc_law_edit pm_law_edit cd_law_edit ct_law_edit : Value}
    (a_law_edit : PySem.W.nsIn K mainGlobals "_law_edit" = some (some (.ref p_law_edit))) (l_law_edit : K.lookup p_law_edit = some ⟨oc_law_edit, od_law_edit, .func (PySem.W.fnOf "_law_edit" "_law_edit" (defArgs (topS 22)) (defBody (topS 22)) (defScope (topS 22)) .none kV_law_edit dc_law_edit pm_law_edit an_law_edit cd_law_edit ct_law_edit), sl_law_edit⟩) (d_law_edit : PySem.W.codeIn K cd_law_edit "_law_edit" = true) (k_law_edit : PySem.W.keepIn K (.ref p_law_edit) = true)
    {p_law_apply : Addr} {od_law_apply an_law_apply : Option Addr} {sl_law_apply : Array (Option Value)} {oc_law_apply kV_law_apply dc_law_apply pm_law_apply cd_law_apply ct_law_apply : Value}
    (a_law_apply : PySem.W.nsIn K mainGlobals "_law_apply" = some (some (.ref p_law_apply))) (l_law_apply : K.lookup p_law_apply = some ⟨oc_law_apply, od_law_apply, .func (PySem.W.fnOf "_law_apply" "_law_apply" (defArgs (topS 25)) (defBody (topS 25)) (defScope (topS 25)) .none kV_law_apply dc_law_apply pm_law_apply an_law_apply cd_law_apply ct_law_apply), sl_law_apply⟩) (d_law_apply : PySem.W.codeIn K cd_law_apply "_law_apply" = true) (k_law_apply : PySem.W.keepIn K (.ref p_law_apply) = true)
    {p_law_near : Addr} {od_law_near an_law_near : Option Addr} {sl_law_near : Array (Option Value)} {oc_law_near kV_law_near dc_law_near pm_law_near cd_law_near ct_law_near : Value}
    (a_law_near : PySem.W.nsIn K mainGlobals "_law_near" = some (some (.ref p_law_near))) (l_law_near : K.lookup p_law_near = some ⟨oc_law_near, od_law_near, .func (PySem.W.fnOf "_law_near" "_law_near" (defArgs (topS 30)) (defBody (topS 30)) (defScope (topS 30)) .none kV_law_near dc_law_near pm_law_near an_law_near cd_law_near ct_law_near), sl_law_near⟩) (d_law_near : PySem.W.codeIn K cd_law_near "_law_near" = true) (k_law_near : PySem.W.keepIn K (.ref p_law_near) = true)
    {p_law_same : Addr} {od_law_same an_law_same : Option Addr} {sl_law_same : Array (Option Value)} {oc_law_same kV_law_same dc_law_same pm_law_same cd_law_same ct_law_same : Value}
    (a_law_same : PySem.W.nsIn K mainGlobals "_law_same" = some (some (.ref p_law_same))) (l_law_same : K.lookup p_law_same = some ⟨oc_law_same, od_law_same, .func (PySem.W.fnOf "_law_same" "_law_same" (defArgs (topS 29)) (defBody (topS 29)) (defScope (topS 29)) .none kV_law_same dc_law_same pm_law_same an_law_same cd_law_same ct_law_same), sl_law_same⟩) (d_law_same : PySem.W.codeIn K cd_law_same "_law_same" = true) (k_law_same : PySem.W.keepIn K (.ref p_law_same) = true)
    {p_law_is_anchor : Addr} {od_law_is_anchor an_law_is_anchor : Option Addr} {sl_law_is_anchor : Array (Option Value)} {oc_law_is_anchor kV_law_is_anchor dc_law_is_anchor pm_law_is_anchor cd_law_is_anchor ct_law_is_anchor : Value}
    (a_law_is_anchor : PySem.W.nsIn K mainGlobals "_law_is_anchor" = some (some (.ref p_law_is_anchor))) (l_law_is_anchor : K.lookup p_law_is_anchor = some ⟨oc_law_is_anchor, od_law_is_anchor, .func (PySem.W.fnOf "_law_is_anchor" "_law_is_anchor" (defArgs (topS 31)) (defBody (topS 31)) (defScope (topS 31)) .none kV_law_is_anchor dc_law_is_anchor pm_law_is_anchor an_law_is_anchor cd_law_is_anchor ct_law_is_anchor), sl_law_is_anchor⟩) (d_law_is_anchor : PySem.W.codeIn K cd_law_is_anchor "_law_is_anchor" = true) (k_law_is_anchor : PySem.W.keepIn K (.ref p_law_is_anchor) = true)
    {p_is_tuple_of : Addr} {od_is_tuple_of an_is_tuple_of : Option Addr} {sl_is_tuple_of : Array (Option Value)} {oc_is_tuple_of kV_is_tuple_of dc_is_tuple_of pm_is_tuple_of cd_is_tuple_of ct_is_tuple_of : Value}
    (a_is_tuple_of : PySem.W.nsIn K mainGlobals "is_tuple_of" = some (some (.ref p_is_tuple_of))) (l_is_tuple_of : K.lookup p_is_tuple_of = some ⟨oc_is_tuple_of, od_is_tuple_of, .func (PySem.W.fnOf "is_tuple_of" "is_tuple_of" (defArgs (topS 3)) (defBody (topS 3)) (defScope (topS 3)) .none kV_is_tuple_of dc_is_tuple_of pm_is_tuple_of an_is_tuple_of cd_is_tuple_of ct_is_tuple_of), sl_is_tuple_of⟩) (d_is_tuple_of : PySem.W.codeIn K cd_is_tuple_of "is_tuple_of" = true) (k_is_tuple_of : PySem.W.keepIn K (.ref p_is_tuple_of) = true)
    {p_is_whole : Addr} {od_is_whole an_is_whole : Option Addr} {sl_is_whole : Array (Option Value)} {oc_is_whole kV_is_whole dc_is_whole pm_is_whole cd_is_whole ct_is_whole : Value}
    (a_is_whole : PySem.W.nsIn K mainGlobals "is_whole" = some (some (.ref p_is_whole))) (l_is_whole : K.lookup p_is_whole = some ⟨oc_is_whole, od_is_whole, .func (PySem.W.fnOf "is_whole" "is_whole" (defArgs (topS 1)) (defBody (topS 1)) (defScope (topS 1)) .none kV_is_whole dc_is_whole pm_is_whole an_is_whole cd_is_whole ct_is_whole), sl_is_whole⟩) (d_is_whole : PySem.W.codeIn K cd_is_whole "is_whole" = true) (k_is_whole : PySem.W.keepIn K (.ref p_is_whole) = true)
    {p_is_index : Addr} {od_is_index an_is_index : Option Addr} {sl_is_index : Array (Option Value)} {oc_is_index kV_is_index dc_is_index pm_is_index cd_is_index ct_is_index : Value}
    (a_is_index : PySem.W.nsIn K mainGlobals "is_index" = some (some (.ref p_is_index))) (l_is_index : K.lookup p_is_index = some ⟨oc_is_index, od_is_index, .func (PySem.W.fnOf "is_index" "is_index" (defArgs (topS 2)) (defBody (topS 2)) (defScope (topS 2)) .none kV_is_index dc_is_index pm_is_index an_is_index cd_is_index ct_is_index), sl_is_index⟩) (d_is_index : PySem.W.codeIn K cd_is_index "is_index" = true) (k_is_index : PySem.W.keepIn K (.ref p_is_index) = true)
    {p_is_anchor : Addr} {od_is_anchor an_is_anchor : Option Addr} {sl_is_anchor : Array (Option Value)} {oc_is_anchor kV_is_anchor dc_is_anchor pm_is_anchor cd_is_anchor ct_is_anchor : Value}
    (a_is_anchor : PySem.W.nsIn K mainGlobals "is_anchor" = some (some (.ref p_is_anchor))) (l_is_anchor : K.lookup p_is_anchor = some ⟨oc_is_anchor, od_is_anchor, .func (PySem.W.fnOf "is_anchor" "is_anchor" (defArgs (topS 12)) (defBody (topS 12)) (defScope (topS 12)) .none kV_is_anchor dc_is_anchor pm_is_anchor an_is_anchor cd_is_anchor ct_is_anchor), sl_is_anchor⟩) (d_is_anchor : PySem.W.codeIn K cd_is_anchor "is_anchor" = true) (k_is_anchor : PySem.W.keepIn K (.ref p_is_anchor) = true)
    {p_law_any_anchor : Addr} {od_law_any_anchor an_law_any_anchor : Option Addr} {sl_law_any_anchor : Array (Option Value)} {oc_law_any_anchor kV_law_any_anchor dc_law_any_anchor pm_law_any_anchor cd_law_any_anchor ct_law_any_anchor : Value}
    (a_law_any_anchor : PySem.W.nsIn K mainGlobals "_law_any_anchor" = some (some (.ref p_law_any_anchor))) (l_law_any_anchor : K.lookup p_law_any_anchor = some ⟨oc_law_any_anchor, od_law_any_anchor, .func (PySem.W.fnOf "_law_any_anchor" "_law_any_anchor" (defArgs (topS 32)) (defBody (topS 32)) (defScope (topS 32)) .none kV_law_any_anchor dc_law_any_anchor pm_law_any_anchor an_law_any_anchor cd_law_any_anchor ct_law_any_anchor), sl_law_any_anchor⟩) (d_law_any_anchor : PySem.W.codeIn K cd_law_any_anchor "_law_any_anchor" = true) (k_law_any_anchor : PySem.W.keepIn K (.ref p_law_any_anchor) = true)
    {p_law_follow : Addr} {od_law_follow an_law_follow : Option Addr} {sl_law_follow : Array (Option Value)} {oc_law_follow kV_law_follow dc_law_follow pm_law_follow cd_law_follow ct_law_follow : Value}
    (a_law_follow : PySem.W.nsIn K mainGlobals "_law_follow" = some (some (.ref p_law_follow))) (l_law_follow : K.lookup p_law_follow = some ⟨oc_law_follow, od_law_follow, .func (PySem.W.fnOf "_law_follow" "_law_follow" (defArgs (topS 27)) (defBody (topS 27)) (defScope (topS 27)) .none kV_law_follow dc_law_follow pm_law_follow an_law_follow cd_law_follow ct_law_follow), sl_law_follow⟩) (d_law_follow : PySem.W.codeIn K cd_law_follow "_law_follow" = true) (k_law_follow : PySem.W.keepIn K (.ref p_law_follow) = true)
    {p_hunk_growth : Addr} {od_hunk_growth an_hunk_growth : Option Addr} {sl_hunk_growth : Array (Option Value)} {oc_hunk_growth kV_hunk_growth dc_hunk_growth pm_hunk_growth cd_hunk_growth ct_hunk_growth : Value}
    (a_hunk_growth : PySem.W.nsIn K mainGlobals "hunk_growth" = some (some (.ref p_hunk_growth))) (l_hunk_growth : K.lookup p_hunk_growth = some ⟨oc_hunk_growth, od_hunk_growth, .func (PySem.W.fnOf "hunk_growth" "hunk_growth" (defArgs (topS 6)) (defBody (topS 6)) (defScope (topS 6)) .none kV_hunk_growth dc_hunk_growth pm_hunk_growth an_hunk_growth cd_hunk_growth ct_hunk_growth), sl_hunk_growth⟩) (d_hunk_growth : PySem.W.codeIn K cd_hunk_growth "hunk_growth" = true) (k_hunk_growth : PySem.W.keepIn K (.ref p_hunk_growth) = true)
    {p_edit_starts : Addr} {od_edit_starts an_edit_starts : Option Addr} {sl_edit_starts : Array (Option Value)} {oc_edit_starts kV_edit_starts dc_edit_starts pm_edit_starts cd_edit_starts ct_edit_starts : Value}
    (a_edit_starts : PySem.W.nsIn K mainGlobals "edit_starts" = some (some (.ref p_edit_starts))) (l_edit_starts : K.lookup p_edit_starts = some ⟨oc_edit_starts, od_edit_starts, .func (PySem.W.fnOf "edit_starts" "edit_starts" (defArgs (topS 8)) (defBody (topS 8)) (defScope (topS 8)) .none kV_edit_starts dc_edit_starts pm_edit_starts an_edit_starts cd_edit_starts ct_edit_starts), sl_edit_starts⟩) (d_edit_starts : PySem.W.codeIn K cd_edit_starts "edit_starts" = true) (k_edit_starts : PySem.W.keepIn K (.ref p_edit_starts) = true)
    {p_hunk_end : Addr} {od_hunk_end an_hunk_end : Option Addr} {sl_hunk_end : Array (Option Value)} {oc_hunk_end kV_hunk_end dc_hunk_end pm_hunk_end cd_hunk_end ct_hunk_end : Value}
    (a_hunk_end : PySem.W.nsIn K mainGlobals "hunk_end" = some (some (.ref p_hunk_end))) (l_hunk_end : K.lookup p_hunk_end = some ⟨oc_hunk_end, od_hunk_end, .func (PySem.W.fnOf "hunk_end" "hunk_end" (defArgs (topS 5)) (defBody (topS 5)) (defScope (topS 5)) .none kV_hunk_end dc_hunk_end pm_hunk_end an_hunk_end cd_hunk_end ct_hunk_end), sl_hunk_end⟩) (d_hunk_end : PySem.W.codeIn K cd_hunk_end "hunk_end" = true) (k_hunk_end : PySem.W.keepIn K (.ref p_hunk_end) = true)
    {p_is_hit : Addr} {od_is_hit an_is_hit : Option Addr} {sl_is_hit : Array (Option Value)} {oc_is_hit kV_is_hit dc_is_hit pm_is_hit cd_is_hit ct_is_hit : Value}
    (a_is_hit : PySem.W.nsIn K mainGlobals "is_hit" = some (some (.ref p_is_hit))) (l_is_hit : K.lookup p_is_hit = some ⟨oc_is_hit, od_is_hit, .func (PySem.W.fnOf "is_hit" "is_hit" (defArgs (topS 13)) (defBody (topS 13)) (defScope (topS 13)) .none kV_is_hit dc_is_hit pm_is_hit an_is_hit cd_is_hit ct_is_hit), sl_is_hit⟩) (d_is_hit : PySem.W.codeIn K cd_is_hit "is_hit" = true) (k_is_hit : PySem.W.keepIn K (.ref p_is_hit) = true)
    {p_growth_before : Addr} {od_growth_before an_growth_before : Option Addr} {sl_growth_before : Array (Option Value)} {oc_growth_before kV_growth_before dc_growth_before pm_growth_before cd_growth_before ct_growth_before : Value}
    (a_growth_before : PySem.W.nsIn K mainGlobals "growth_before" = some (some (.ref p_growth_before))) (l_growth_before : K.lookup p_growth_before = some ⟨oc_growth_before, od_growth_before, .func (PySem.W.fnOf "growth_before" "growth_before" (defArgs (topS 10)) (defBody (topS 10)) (defScope (topS 10)) .none kV_growth_before dc_growth_before pm_growth_before an_growth_before cd_growth_before ct_growth_before), sl_growth_before⟩) (d_growth_before : PySem.W.codeIn K cd_growth_before "growth_before" = true) (k_growth_before : PySem.W.keepIn K (.ref p_growth_before) = true)
    {p_follow : Addr} {od_follow an_follow : Option Addr} {sl_follow : Array (Option Value)} {oc_follow kV_follow dc_follow pm_follow cd_follow ct_follow : Value}
    (a_follow : PySem.W.nsIn K mainGlobals "follow" = some (some (.ref p_follow))) (l_follow : K.lookup p_follow = some ⟨oc_follow, od_follow, .func (PySem.W.fnOf "follow" "follow" (defArgs (topS 14)) (defBody (topS 14)) (defScope (topS 14)) .none kV_follow dc_follow pm_follow an_follow cd_follow ct_follow), sl_follow⟩) (d_follow : PySem.W.codeIn K cd_follow "follow" = true) (k_follow : PySem.W.keepIn K (.ref p_follow) = true)
    {p_inverse_edit : Addr} {od_inverse_edit an_inverse_edit : Option Addr} {sl_inverse_edit : Array (Option Value)} {oc_inverse_edit kV_inverse_edit dc_inverse_edit pm_inverse_edit cd_inverse_edit ct_inverse_edit : Value}
    (a_inverse_edit : PySem.W.nsIn K mainGlobals "inverse_edit" = some (some (.ref p_inverse_edit))) (l_inverse_edit : K.lookup p_inverse_edit = some ⟨oc_inverse_edit, od_inverse_edit, .func (PySem.W.fnOf "inverse_edit" "inverse_edit" (defArgs (topS 9)) (defBody (topS 9)) (defScope (topS 9)) .none kV_inverse_edit dc_inverse_edit pm_inverse_edit an_inverse_edit cd_inverse_edit ct_inverse_edit), sl_inverse_edit⟩) (d_inverse_edit : PySem.W.codeIn K cd_inverse_edit "inverse_edit" = true) (k_inverse_edit : PySem.W.keepIn K (.ref p_inverse_edit) = true)
    {p_follow_back : Addr} {od_follow_back an_follow_back : Option Addr} {sl_follow_back : Array (Option Value)} {oc_follow_back kV_follow_back dc_follow_back pm_follow_back cd_follow_back ct_follow_back : Value}
    (a_follow_back : PySem.W.nsIn K mainGlobals "follow_back" = some (some (.ref p_follow_back))) (l_follow_back : K.lookup p_follow_back = some ⟨oc_follow_back, od_follow_back, .func (PySem.W.fnOf "follow_back" "follow_back" (defArgs (topS 15)) (defBody (topS 15)) (defScope (topS 15)) .none kV_follow_back dc_follow_back pm_follow_back an_follow_back cd_follow_back ct_follow_back), sl_follow_back⟩) (d_follow_back : PySem.W.codeIn K cd_follow_back "follow_back" = true) (k_follow_back : PySem.W.keepIn K (.ref p_follow_back) = true)
    {p_law_one_edit : Addr} {od_law_one_edit an_law_one_edit : Option Addr} {sl_law_one_edit : Array (Option Value)} {oc_law_one_edit kV_law_one_edit dc_law_one_edit pm_law_one_edit cd_law_one_edit ct_law_one_edit : Value}
    (a_law_one_edit : PySem.W.nsIn K mainGlobals "_law_one_edit" = some (some (.ref p_law_one_edit))) (l_law_one_edit : K.lookup p_law_one_edit = some ⟨oc_law_one_edit, od_law_one_edit, .func (PySem.W.fnOf "_law_one_edit" "_law_one_edit" (defArgs (topS 33)) (defBody (topS 33)) (defScope (topS 33)) .none kV_law_one_edit dc_law_one_edit pm_law_one_edit an_law_one_edit cd_law_one_edit ct_law_one_edit), sl_law_one_edit⟩) (d_law_one_edit : PySem.W.codeIn K cd_law_one_edit "_law_one_edit" = true) (k_law_one_edit : PySem.W.keepIn K (.ref p_law_one_edit) = true)
    {p_follow_all : Addr} {od_follow_all an_follow_all : Option Addr} {sl_follow_all : Array (Option Value)} {oc_follow_all kV_follow_all dc_follow_all pm_follow_all cd_follow_all ct_follow_all : Value}
    (a_follow_all : PySem.W.nsIn K mainGlobals "follow_all" = some (some (.ref p_follow_all))) (l_follow_all : K.lookup p_follow_all = some ⟨oc_follow_all, od_follow_all, .func (PySem.W.fnOf "follow_all" "follow_all" (defArgs (topS 16)) (defBody (topS 16)) (defScope (topS 16)) .none kV_follow_all dc_follow_all pm_follow_all an_follow_all cd_follow_all ct_follow_all), sl_follow_all⟩) (d_follow_all : PySem.W.codeIn K cd_follow_all "follow_all" = true) (k_follow_all : PySem.W.keepIn K (.ref p_follow_all) = true)
    {p_law_back : Addr} {od_law_back an_law_back : Option Addr} {sl_law_back : Array (Option Value)} {oc_law_back kV_law_back dc_law_back pm_law_back cd_law_back ct_law_back : Value}
    (a_law_back : PySem.W.nsIn K mainGlobals "_law_back" = some (some (.ref p_law_back))) (l_law_back : K.lookup p_law_back = some ⟨oc_law_back, od_law_back, .func (PySem.W.fnOf "_law_back" "_law_back" (defArgs (topS 28)) (defBody (topS 28)) (defScope (topS 28)) .none kV_law_back dc_law_back pm_law_back an_law_back cd_law_back ct_law_back), sl_law_back⟩) (d_law_back : PySem.W.codeIn K cd_law_back "_law_back" = true) (k_law_back : PySem.W.keepIn K (.ref p_law_back) = true)
    {p_law : Addr} {od_law an_law : Option Addr} {sl_law : Array (Option Value)} {oc_law kV_law dc_law pm_law cd_law ct_law : Value}
    (a_law : PySem.W.nsIn K mainGlobals "law" = some (some (.ref p_law))) (l_law : K.lookup p_law = some ⟨oc_law, od_law, .func (PySem.W.fnOf "law" "law" (defArgs (topS 34)) (defBody (topS 34)) (defScope (topS 34)) .none kV_law dc_law pm_law an_law cd_law ct_law), sl_law⟩) (d_law : PySem.W.codeIn K cd_law "law" = true) (k_law : PySem.W.keepIn K (.ref p_law) = true)
    (z_len : PySem.W.nsIn K mainGlobals "len" = some none)
    (z_int : PySem.W.nsIn K mainGlobals "int" = some none)
    (z_range : PySem.W.nsIn K mainGlobals "range" = some none)
    (z_tuple : PySem.W.nsIn K mainGlobals "tuple" = some none)
    (z_min : PySem.W.nsIn K mainGlobals "min" = some none)
    (z_list : PySem.W.nsIn K mainGlobals "list" = some none)
    (z_isinstance : PySem.W.nsIn K mainGlobals "isinstance" = some none)
    (z_bool : PySem.W.nsIn K mainGlobals "bool" = some none)
    (z_str : PySem.W.nsIn K mainGlobals "str" = some none)
    (z_sum : PySem.W.nsIn K mainGlobals "sum" = some none)
    (z_enumerate : PySem.W.nsIn K mainGlobals "enumerate" = some none) :
    ∃ fd : FuncData, (∀ (s : Shared) (v : Value), BindsTo s fd ⟨[v], []⟩ [("script", v)]) ∧ ∀ base : Heap, K.In base → base.Ns mainGlobals mg → FnOk PySem.Challenge.pw_signoff_k28_following_an_anchor w K mg base (CX PySem.Challenge.pw_signoff_k28_following_an_anchor w) 8 fa fd ["script"] (LSp (lawG PySem.Challenge.pw_signoff_k28_following_an_anchor w K fun _ => none) F_law 1) := by
  have e := hfa.symm.trans (PySem.W.mg_of X G a_law)
  cases e
  have f_law_pool := fun_mk (st := topS 18) l_law_pool d_law_pool k_law_pool
  have f_law_draw := fun_mk (st := topS 19) l_law_draw d_law_draw k_law_draw
  have f_law_line := fun_mk (st := topS 20) l_law_line d_law_line k_law_line
  have f_law_text := fun_mk (st := topS 21) l_law_text d_law_text k_law_text
  have f_law_edit := fun_mk (st := topS 22) l_law_edit d_law_edit k_law_edit
  have f_law_apply := fun_mk (st := topS 25) l_law_apply d_law_apply k_law_apply
  have f_law_near := fun_mk (st := topS 30) l_law_near d_law_near k_law_near
  have f_law_same := fun_mk (st := topS 29) l_law_same d_law_same k_law_same
  have f_law_is_anchor := fun_mk (st := topS 31) l_law_is_anchor d_law_is_anchor k_law_is_anchor
  have f_is_tuple_of := fun_mk (st := topS 3) l_is_tuple_of d_is_tuple_of k_is_tuple_of
  have f_is_whole := fun_mk (st := topS 1) l_is_whole d_is_whole k_is_whole
  have f_is_index := fun_mk (st := topS 2) l_is_index d_is_index k_is_index
  have f_is_anchor := fun_mk (st := topS 12) l_is_anchor d_is_anchor k_is_anchor
  have f_law_any_anchor := fun_mk (st := topS 32) l_law_any_anchor d_law_any_anchor k_law_any_anchor
  have f_law_follow := fun_mk (st := topS 27) l_law_follow d_law_follow k_law_follow
  have f_hunk_growth := fun_mk (st := topS 6) l_hunk_growth d_hunk_growth k_hunk_growth
  have f_edit_starts := fun_mk (st := topS 8) l_edit_starts d_edit_starts k_edit_starts
  have f_hunk_end := fun_mk (st := topS 5) l_hunk_end d_hunk_end k_hunk_end
  have f_is_hit := fun_mk (st := topS 13) l_is_hit d_is_hit k_is_hit
  have f_growth_before := fun_mk (st := topS 10) l_growth_before d_growth_before k_growth_before
  have f_follow := fun_mk (st := topS 14) l_follow d_follow k_follow
  have f_inverse_edit := fun_mk (st := topS 9) l_inverse_edit d_inverse_edit k_inverse_edit
  have f_follow_back := fun_mk (st := topS 15) l_follow_back d_follow_back k_follow_back
  have f_law_one_edit := fun_mk (st := topS 33) l_law_one_edit d_law_one_edit k_law_one_edit
  have f_follow_all := fun_mk (st := topS 16) l_follow_all d_follow_all k_follow_all
  have f_law_back := fun_mk (st := topS 28) l_law_back d_law_back k_law_back
  have f_law := fun_mk (st := topS 34) l_law d_law k_law
  refine ⟨PySem.W.fnOf "law" "law" (defArgs (topS 34)) (defBody (topS 34)) (defScope (topS 34)) .none kV_law dc_law pm_law an_law cd_law ct_law, fun s v => .of_eq rfl, fun base _ _ => ?_⟩
  let g : GC := ⟨PySem.Challenge.pw_signoff_k28_following_an_anchor, w, K, mg, base, fun _ => none, none⟩
  have hx : g.xn = none := rfl
  have b_len : GEok g "len" .blt := PySem.W.mg_none_of X G z_len
  have b_int : GEok g "int" .blt := PySem.W.mg_none_of X G z_int
  have b_range : GEok g "range" .blt := PySem.W.mg_none_of X G z_range
  have b_tuple : GEok g "tuple" .blt := PySem.W.mg_none_of X G z_tuple
  have b_min : GEok g "min" .blt := PySem.W.mg_none_of X G z_min
  have b_list : GEok g "list" .blt := PySem.W.mg_none_of X G z_list
  have b_isinstance : GEok g "isinstance" .blt := PySem.W.mg_none_of X G z_isinstance
  have b_bool : GEok g "bool" .blt := PySem.W.mg_none_of X G z_bool
  have b_str : GEok g "str" .blt := PySem.W.mg_none_of X G z_str
  have b_sum : GEok g "sum" .blt := PySem.W.mg_none_of X G z_sum
  have b_enumerate : GEok g "enumerate" .blt := PySem.W.mg_none_of X G z_enumerate
  have g_law_pool : GEok g "_law_pool" (.fn 1 2 F_law_pool) := ge_law_pool hx f_law_pool (PySem.W.mg_of X G a_law_pool) b_len b_int b_range
  have g_law_draw : GEok g "_law_draw" (.fn 1 2 F_law_draw) := ge_law_draw hx f_law_draw (PySem.W.mg_of X G a_law_draw) b_int
  have g_law_line : GEok g "_law_line" (.fn 2 2 F_law_line) := ge_law_line hx f_law_line (PySem.W.mg_of X G a_law_line) g_law_draw b_range
  have g_law_text : GEok g "_law_text" (.fn 3 3 F_law_text) := ge_law_text hx f_law_text (PySem.W.mg_of X G a_law_text) g_law_line b_tuple b_range
  have g_law_edit : GEok g "_law_edit" (.fn 4 5 F_law_edit) := ge_law_edit hx f_law_edit (PySem.W.mg_of X G a_law_edit) g_law_draw g_law_text g_law_line b_min b_range b_len b_tuple
  have g_law_apply : GEok g "_law_apply" (.fn 1 2 F_law_apply) := ge_law_apply hx f_law_apply (PySem.W.mg_of X G a_law_apply) b_len b_list b_tuple
  have g_law_near : GEok g "_law_near" (.fn 2 2 F_law_near) := ge_law_near hx f_law_near (PySem.W.mg_of X G a_law_near) g_law_draw
  have g_law_same : GEok g "_law_same" (.fn 6 2 F_law_same) := ge_law_same_6 hx f_law_same (PySem.W.mg_of X G a_law_same) b_isinstance b_tuple b_len b_range b_bool b_int b_str
  have g_law_is_anchor : GEok g "_law_is_anchor" (.fn 1 2 F_law_is_anchor) := ge_law_is_anchor hx f_law_is_anchor (PySem.W.mg_of X G a_law_is_anchor) b_len b_isinstance b_tuple b_bool b_int
  have g_is_tuple_of : GEok g "is_tuple_of" (.fn 1 2 F_is_tuple_of) := ge_is_tuple_of hx f_is_tuple_of (PySem.W.mg_of X G a_is_tuple_of) b_len b_isinstance b_tuple
  have g_is_whole : GEok g "is_whole" (.fn 1 1 F_is_whole) := ge_is_whole hx f_is_whole (PySem.W.mg_of X G a_is_whole) b_isinstance b_bool b_int
  have g_is_index : GEok g "is_index" (.fn 2 2 F_is_index) := ge_is_index hx f_is_index (PySem.W.mg_of X G a_is_index) g_is_whole
  have g_is_anchor : GEok g "is_anchor" (.fn 3 2 F_is_anchor) := ge_is_anchor hx f_is_anchor (PySem.W.mg_of X G a_is_anchor) g_is_tuple_of g_is_index
  have g_law_any_anchor : GEok g "_law_any_anchor" (.fn 2 2 F_law_any_anchor) := ge_law_any_anchor hx f_law_any_anchor (PySem.W.mg_of X G a_law_any_anchor) g_law_draw
  have g_law_follow : GEok g "_law_follow" (.fn 1 2 F_law_follow) := ge_law_follow hx f_law_follow (PySem.W.mg_of X G a_law_follow) b_len
  have g_hunk_growth : GEok g "hunk_growth" (.fn 1 1 F_hunk_growth) := ge_hunk_growth hx f_hunk_growth (PySem.W.mg_of X G a_hunk_growth) b_len
  have g_edit_starts : GEok g "edit_starts" (.fn 2 1 F_edit_starts) := ge_edit_starts hx f_edit_starts (PySem.W.mg_of X G a_edit_starts) g_hunk_growth b_tuple
  have g_hunk_end : GEok g "hunk_end" (.fn 1 1 F_hunk_end) := ge_hunk_end hx f_hunk_end (PySem.W.mg_of X G a_hunk_end) b_len
  have g_is_hit : GEok g "is_hit" (.fn 2 2 F_is_hit) := ge_is_hit hx f_is_hit (PySem.W.mg_of X G a_is_hit) g_hunk_end
  have g_growth_before : GEok g "growth_before" (.fn 2 2 F_growth_before) := ge_growth_before hx f_growth_before (PySem.W.mg_of X G a_growth_before) g_hunk_end g_hunk_growth b_sum
  have g_follow : GEok g "follow" (.fn 3 2 F_follow) := ge_follow hx f_follow (PySem.W.mg_of X G a_follow) g_edit_starts g_is_hit g_growth_before b_enumerate
  have g_inverse_edit : GEok g "inverse_edit" (.fn 3 1 F_inverse_edit) := ge_inverse_edit hx f_inverse_edit (PySem.W.mg_of X G a_inverse_edit) g_edit_starts b_tuple b_enumerate
  have g_follow_back : GEok g "follow_back" (.fn 4 2 F_follow_back) := ge_follow_back hx f_follow_back (PySem.W.mg_of X G a_follow_back) g_follow g_inverse_edit
  have g_law_one_edit : GEok g "_law_one_edit" (.fn 7 4 F_law_one_edit) := ge_law_one_edit hx f_law_one_edit (PySem.W.mg_of X G a_law_one_edit) g_law_follow g_law_is_anchor g_law_same g_follow g_follow_back b_len
  have g_follow_all : GEok g "follow_all" (.fn 4 2 F_follow_all) := ge_follow_all hx f_follow_all (PySem.W.mg_of X G a_follow_all) g_follow b_tuple
  have g_law_back : GEok g "_law_back" (.fn 2 2 F_law_back) := ge_law_back hx f_law_back (PySem.W.mg_of X G a_law_back) g_law_follow b_len b_tuple
  exact FnOk.imp (cDef_ok (G := g) hx (gok_cons g_law_pool (gok_cons g_law_draw (gok_cons g_law_text (gok_cons g_law_edit (gok_cons g_law_apply (gok_cons g_law_near (gok_cons g_law_same (gok_cons g_law_is_anchor (gok_cons g_is_anchor (gok_cons g_law_any_anchor (gok_cons g_law_one_edit (gok_cons g_law_follow (gok_cons g_follow_all (gok_cons g_law_back (gok_cons g_follow_back (gok_cons b_range (gok_cons b_tuple (gok_cons b_len gok_nil)))))))))))))))))) f_law sc_law c_law) fun vs H Q E h => (lsp_re (G := g) (G0 := lawG PySem.Challenge.pw_signoff_k28_following_an_anchor w K fun _ => none) (F := F_law) (n := 1) rfl rfl h : LSp g F_law 1 vs H Q E)
end K28
open PySem PySem.W PyProof.Rows
set_option maxHeartbeats 0 in
theorem PySem.Challenge.cw_signoff_k28_following_an_anchor_holds : PySem.Challenge.rw_signoff_k28_following_an_anchor.Holds := by
  w_on; o_law; k_head; (case hw => w_witness2)
  k_fill
  refine L2.walk_of (l := PySem.Challenge.rw_signoff_k28_following_an_anchor) (n := 63) (k := 8) (x := "script") (CX := fun w => L2.CX PySem.Challenge.pw_signoff_k28_following_an_anchor w) (sp := fun w => DN.LSp (DN.lawG PySem.Challenge.pw_signoff_k28_following_an_anchor w _ fun _ => none) K28.F_law 1) rfl (by decide) rfl ⟨by decide, by decide, by decide⟩ (fun w h Y => PySem.W.kIn_of Y) ?F (fun w H a ns hl o s => DN.sp_law K28.law_true hl o s) (fun _ _ _ _ _ h => DN.cx_end h)
  case F =>
    intro w mg fa h KX G hmg
    refine' K28.all_mk KX G hmg ?a_law_pool ?l_law_pool ?d_law_pool ?k_law_pool ?a_law_draw ?l_law_draw ?d_law_draw ?k_law_draw ?a_law_line ?l_law_line ?d_law_line ?k_law_line ?a_law_text ?l_law_text ?d_law_text ?k_law_text ?a_law_edit ?l_law_edit ?d_law_edit ?k_law_edit ?a_law_apply ?l_law_apply ?d_law_apply ?k_law_apply ?a_law_near ?l_law_near ?d_law_near ?k_law_near ?a_law_same ?l_law_same ?d_law_same ?k_law_same ?a_law_is_anchor ?l_law_is_anchor ?d_law_is_anchor ?k_law_is_anchor ?a_is_tuple_of ?l_is_tuple_of ?d_is_tuple_of ?k_is_tuple_of ?a_is_whole ?l_is_whole ?d_is_whole ?k_is_whole ?a_is_index ?l_is_index ?d_is_index ?k_is_index ?a_is_anchor ?l_is_anchor ?d_is_anchor ?k_is_anchor ?a_law_any_anchor ?l_law_any_anchor ?d_law_any_anchor ?k_law_any_anchor ?a_law_follow ?l_law_follow ?d_law_follow ?k_law_follow ?a_hunk_growth ?l_hunk_growth ?d_hunk_growth ?k_hunk_growth ?a_edit_starts ?l_edit_starts ?d_edit_starts ?k_edit_starts ?a_hunk_end ?l_hunk_end ?d_hunk_end ?k_hunk_end ?a_is_hit ?l_is_hit ?d_is_hit ?k_is_hit ?a_growth_before ?l_growth_before ?d_growth_before ?k_growth_before ?a_follow ?l_follow ?d_follow ?k_follow ?a_inverse_edit ?l_inverse_edit ?d_inverse_edit ?k_inverse_edit ?a_follow_back ?l_follow_back ?d_follow_back ?k_follow_back ?a_law_one_edit ?l_law_one_edit ?d_law_one_edit ?k_law_one_edit ?a_follow_all ?l_follow_all ?d_follow_all ?k_follow_all ?a_law_back ?l_law_back ?d_law_back ?k_law_back ?a_law ?l_law ?d_law ?k_law ?z_len ?z_int ?z_range ?z_tuple ?z_min ?z_list ?z_isinstance ?z_bool ?z_str ?z_sum ?z_enumerate
    (case a_law_pool => k_is); (case l_law_pool => k_is); (case d_law_pool => k_is); (case k_law_pool => k_is); (case a_law_draw => k_is); (case l_law_draw => k_is); (case d_law_draw => k_is); (case k_law_draw => k_is); (case a_law_line => k_is); (case l_law_line => k_is); (case d_law_line => k_is); (case k_law_line => k_is); (case a_law_text => k_is); (case l_law_text => k_is); (case d_law_text => k_is); (case k_law_text => k_is); (case a_law_edit => k_is); (case l_law_edit => k_is); (case d_law_edit => k_is); (case k_law_edit => k_is); (case a_law_apply => k_is); (case l_law_apply => k_is); (case d_law_apply => k_is); (case k_law_apply => k_is); (case a_law_near => k_is); (case l_law_near => k_is); (case d_law_near => k_is); (case k_law_near => k_is); (case a_law_same => k_is); (case l_law_same => k_is); (case d_law_same => k_is); (case k_law_same => k_is); (case a_law_is_anchor => k_is); (case l_law_is_anchor => k_is); (case d_law_is_anchor => k_is); (case k_law_is_anchor => k_is); (case a_is_tuple_of => k_is); (case l_is_tuple_of => k_is); (case d_is_tuple_of => k_is); (case k_is_tuple_of => k_is); (case a_is_whole => k_is); (case l_is_whole => k_is); (case d_is_whole => k_is); (case k_is_whole => k_is); (case a_is_index => k_is); (case l_is_index => k_is); (case d_is_index => k_is); (case k_is_index => k_is); (case a_is_anchor => k_is); (case l_is_anchor => k_is); (case d_is_anchor => k_is); (case k_is_anchor => k_is); (case a_law_any_anchor => k_is); (case l_law_any_anchor => k_is); (case d_law_any_anchor => k_is); (case k_law_any_anchor => k_is); (case a_law_follow => k_is); (case l_law_follow => k_is); (case d_law_follow => k_is); (case k_law_follow => k_is); (case a_hunk_growth => k_is); (case l_hunk_growth => k_is); (case d_hunk_growth => k_is); (case k_hunk_growth => k_is); (case a_edit_starts => k_is); (case l_edit_starts => k_is); (case d_edit_starts => k_is); (case k_edit_starts => k_is); (case a_hunk_end => k_is); (case l_hunk_end => k_is); (case d_hunk_end => k_is); (case k_hunk_end => k_is); (case a_is_hit => k_is); (case l_is_hit => k_is); (case d_is_hit => k_is); (case k_is_hit => k_is); (case a_growth_before => k_is); (case l_growth_before => k_is); (case d_growth_before => k_is); (case k_growth_before => k_is); (case a_follow => k_is); (case l_follow => k_is); (case d_follow => k_is); (case k_follow => k_is); (case a_inverse_edit => k_is); (case l_inverse_edit => k_is); (case d_inverse_edit => k_is); (case k_inverse_edit => k_is); (case a_follow_back => k_is); (case l_follow_back => k_is); (case d_follow_back => k_is); (case k_follow_back => k_is); (case a_law_one_edit => k_is); (case l_law_one_edit => k_is); (case d_law_one_edit => k_is); (case k_law_one_edit => k_is); (case a_follow_all => k_is); (case l_follow_all => k_is); (case d_follow_all => k_is); (case k_follow_all => k_is); (case a_law_back => k_is); (case l_law_back => k_is); (case d_law_back => k_is); (case k_law_back => k_is); (case a_law => k_is); (case l_law => k_is); (case d_law => k_is); (case k_law => k_is); (case z_len => k_is); (case z_int => k_is); (case z_range => k_is); (case z_tuple => k_is); (case z_min => k_is); (case z_list => k_is); (case z_isinstance => k_is); (case z_bool => k_is); (case z_str => k_is); (case z_sum => k_is); (case z_enumerate => k_is)

