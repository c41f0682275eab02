import PyProof.Rows.All
import HandS.ForExc
import HandS.ForMost
import HandS.Wide
import HandS.IsInst
import HandS.TupAny
import HandS.TupMul
import HandS.Conv
import KE.GoesEnum
import PyProof.ReprRoads
import HandS.RaiseMore
import PySem.Challenge.RW_closenews_k58_crowded_days
set_option Elab.async false
set_option linter.all false
set_option maxRecDepth 100000
set_option maxHeartbeats 4000000
/-! PV1: data without a heap, how a heap bears them, and the relation that a running body keeps. -/
namespace PV
open PySem PySem.Spec PyProof.Rows L2

inductive D where
  | non
  | bl (b : Bool)
  | int (i : Int)
  | str (s : Str)
  | byt (b : Array UInt8)
  | ty (n : String)
  | fn (a : Addr)
  | scr (l : List Int)
  | tup (l : List D)
  | lst (l : List D)
  | dct (l : List (Key × D))
  | ins (c : Addr) (l : List (Str × D))

section
variable (K : PySem.W.Frag) (F : Hp)
mutual
/-- the value v stands for the datum, by what F holds -/
def Den : D → V → Prop
  | .non, v => v = .non
  | .bl b, v => v = .bl b
  | .int i, v => v = .int i
  | .str s, v => v = .str s
  | .byt b, v => v = .byt b
  | .ty n, v => v = .ty n
  | .fn a, v => v = .ref a
  | .scr l, v => ∃ a, v = .ref a ∧ SqL K F a (l.map V.int)
  | .tup l, v => ∃ a xs, v = .ref a ∧ SqT K F a xs ∧ Dens l xs
  | .lst l, v => ∃ a xs, v = .ref a ∧ F a = some (.lst xs) ∧ Dens l xs
  | .dct l, v => ∃ a kvs, v = .ref a ∧ F a = some (.dK kvs) ∧ DenK l kvs
  | .ins c l, v => ∃ a dx fs, v = .ref a ∧ F a = some (.ins c dx fs) ∧ DenF l fs
def Dens : List D → List V → Prop
  | [], vs => vs = []
  | d :: ds, vs => ∃ v r, vs = v :: r ∧ Den d v ∧ Dens ds r
def DenK : List (Key × D) → List (Key × V) → Prop
  | [], vs => vs = []
  | (k, d) :: ds, vs => ∃ v r, vs = (k, v) :: r ∧ Den d v ∧ DenK ds r
def DenF : List (Str × D) → List (Str × V) → Prop
  | [], vs => vs = []
  | (k, d) :: ds, vs => ∃ v r, vs = (k, v) :: r ∧ Den d v ∧ DenF ds r
end
end

theorem Same.tup {K : PySem.W.Frag} {H H' : Hp} {a : Addr} {xs : List V} (e : Same H H') (h : SqT K H a xs) : SqT K H' a xs := by
  rcases h with (h | ⟨o, h⟩) | h
  · exact .inl (.inl (e _ _ h))
  · exact .inl (.inr ⟨o, e _ _ h⟩)
  · exact .inr h

section
variable {K : PySem.W.Frag} {F F' : Hp}
mutual
theorem Den.mono (e : Same F F') : ∀ (d : D) (v : V), Den K F d v → Den K F' d v
  | .non, _, h => h
  | .bl _, _, h => h
  | .int _, _, h => h
  | .str _, _, h => h
  | .byt _, _, h => h
  | .ty _, _, h => h
  | .fn _, _, h => h
  | .tup l, _, ⟨a, xs, e1, h1, h2⟩ => ⟨a, xs, e1, PV.Same.tup e h1, Dens.mono e l xs h2⟩
  | .scr l, _, ⟨a, e1, h1⟩ => ⟨a, e1, e.seq h1⟩
  | .lst l, _, ⟨a, xs, e1, h1, h2⟩ => ⟨a, xs, e1, e _ _ h1, Dens.mono e l xs h2⟩
  | .dct l, _, ⟨a, xs, e1, h1, h2⟩ => ⟨a, xs, e1, e _ _ h1, DenK.mono e l xs h2⟩
  | .ins c l, _, ⟨a, dx, xs, e1, h1, h2⟩ => ⟨a, dx, xs, e1, e _ _ h1, DenF.mono e l xs h2⟩
theorem Dens.mono (e : Same F F') : ∀ (d : List D) (v : List V), Dens K F d v → Dens K F' d v
  | [], _, h => h
  | d :: ds, _, ⟨v, r, e1, h1, h2⟩ => ⟨v, r, e1, Den.mono e d v h1, Dens.mono e ds r h2⟩
theorem DenK.mono (e : Same F F') : ∀ (d : List (Key × D)) (v : List (Key × V)), DenK K F d v → DenK K F' d v
  | [], _, h => h
  | (k, d) :: ds, _, ⟨v, r, e1, h1, h2⟩ => ⟨v, r, e1, Den.mono e d v h1, DenK.mono e ds r h2⟩
theorem DenF.mono (e : Same F F') : ∀ (d : List (Str × D)) (v : List (Str × V)), DenF K F d v → DenF K F' d v
  | [], _, h => h
  | (k, d) :: ds, _, ⟨v, r, e1, h1, h2⟩ => ⟨v, r, e1, Den.mono e d v h1, DenF.mono e ds r h2⟩
end

theorem Dens.length : ∀ {ds : List D} {vs : List V}, Dens K F ds vs → vs.length = ds.length
  | [], _, h => by rw [show _ = _ from h]; rfl
  | d :: ds, _, ⟨v, r, e, _, h⟩ => by rw [e, List.length_cons, List.length_cons, Dens.length h]
theorem Dens.get : ∀ {ds : List D} {vs : List V} {i : Nat} {d : D}, Dens K F ds vs → ds[i]? = some d → ∃ v, vs[i]? = some v ∧ Den K F d v
  | [], _, i, _, _, h => by simp at h
  | d :: ds, _, 0, x, ⟨v, r, e, h1, _⟩, h => by
    have q : d = x := by simpa using h
    rw [e, ← q]
    exact ⟨v, rfl, h1⟩
  | d :: ds, _, i + 1, x, ⟨v, r, e, _, h2⟩, h => by
    obtain ⟨w, h3, h4⟩ := Dens.get (i := i) (d := x) h2 (by simpa using h)
    rw [e]
    exact ⟨w, by simpa using h3, h4⟩
theorem Dens.getV : ∀ {ds : List D} {vs : List V} {i : Nat} {v : V}, Dens K F ds vs → vs[i]? = some v → ∃ d, ds[i]? = some d ∧ Den K F d v
  | [], _, i, _, h, g => by rw [show _ = _ from h] at g; simp at g
  | d :: ds, _, 0, x, ⟨v, r, e, h1, _⟩, g => by
    rw [e] at g
    have q : v = x := by simpa using g
    rw [← q]
    exact ⟨d, rfl, h1⟩
  | d :: ds, _, i + 1, x, ⟨v, r, e, _, h2⟩, g => by
    rw [e] at g
    obtain ⟨w, h3, h4⟩ := Dens.getV (i := i) (v := x) h2 (by simpa using g)
    exact ⟨w, by simpa using h3, h4⟩
theorem Dens.append : ∀ {ds es : List D} {vs ws : List V}, Dens K F ds vs → Dens K F es ws → Dens K F (ds ++ es) (vs ++ ws)
  | [], _, _, _, h, g => by rw [show _ = _ from h]; exact g
  | d :: ds, _, _, _, ⟨v, r, e, h1, h2⟩, g => by rw [e]; exact ⟨v, _, rfl, h1, Dens.append h2 g⟩
theorem Dens.one {d : D} {v : V} (h : Den K F d v) : Dens K F [d] [v] := ⟨v, [], rfl, h, rfl⟩
theorem Dens.nil : Dens K F [] [] := rfl
theorem Dens.cons {d : D} {v : V} {ds : List D} {vs : List V} (h : Den K F d v) (g : Dens K F ds vs) : Dens K F (d :: ds) (v :: vs) := ⟨v, vs, rfl, h, g⟩
theorem Dens.drop : ∀ {ds : List D} {vs : List V} (n : Nat), Dens K F ds vs → Dens K F (ds.drop n) (vs.drop n)
  | _, _, 0, h => h
  | [], _, n + 1, h => by rw [show _ = _ from h]; exact Dens.nil
  | d :: ds, _, n + 1, ⟨v, r, e, _, h2⟩ => by rw [e]; exact Dens.drop n h2
theorem Dens.take : ∀ {ds : List D} {vs : List V} (n : Nat), Dens K F ds vs → Dens K F (ds.take n) (vs.take n)
  | _, _, 0, h => Dens.nil
  | [], _, n + 1, h => by rw [show _ = _ from h]; exact Dens.nil
  | d :: ds, _, n + 1, ⟨v, r, e, h1, h2⟩ => by rw [e]; exact ⟨v, _, rfl, h1, Dens.take n h2⟩
theorem Dens.set : ∀ {ds : List D} {vs : List V} (n : Nat) {d : D} {v : V}, Dens K F ds vs → Den K F d v → Dens K F (ds.set n d) (vs.set n v)
  | [], _, _, _, _, h, _ => by rw [show _ = _ from h]; exact Dens.nil
  | d :: ds, _, 0, _, _, ⟨v, r, e, h1, h2⟩, g => by rw [e]; exact ⟨_, r, rfl, g, h2⟩
  | d :: ds, _, n + 1, _, _, ⟨v, r, e, h1, h2⟩, g => by rw [e]; exact ⟨v, _, rfl, h1, Dens.set n h2 g⟩
theorem Dens.reverse : ∀ {ds : List D} {vs : List V}, Dens K F ds vs → Dens K F ds.reverse vs.reverse
  | [], _, h => by rw [show _ = _ from h]; exact Dens.nil
  | d :: ds, _, ⟨v, r, e, h1, h2⟩ => by
    rw [e, List.reverse_cons, List.reverse_cons]
    exact Dens.append (Dens.reverse h2) (Dens.one h1)
theorem Dens.rep {ds : List D} {vs : List V} (h : Dens K F ds vs) : ∀ k : Nat, Dens K F (List.replicate k ds).flatten (List.replicate k vs).flatten
  | 0 => Dens.nil
  | k + 1 => by
    rw [List.replicate_succ, List.replicate_succ, List.flatten_cons, List.flatten_cons]
    exact Dens.append h (Dens.rep h k)
end

/-! ### objects that a body may change -/
inductive MD where
  | lst (l : List D)
  | dct (l : List (Key × D))
  | ins (c : Addr) (l : List (Str × D))
def MD.d : MD → D
  | .lst l => .lst l
  | .dct l => .dct l
  | .ins c l => .ins c l
def MDen (K : PySem.W.Frag) (F : Hp) : MD → HO → Prop
  | .lst ds, .lst xs => Dens K F ds xs
  | .dct l, .dK kvs => DenK K F l kvs
  | .ins c l, .ins C _ fs => C = c ∧ DenF K F l fs
  | _, _ => False
theorem MDen.mono {K : PySem.W.Frag} {F F' : Hp} (e : Same F F') : ∀ {m : MD} {o : HO}, MDen K F m o → MDen K F' m o
  | .lst ds, o, h => by cases o <;> first | exact False.elim h | exact Dens.mono e _ _ h
  | .dct ds, o, h => by cases o <;> first | exact False.elim h | exact DenK.mono e _ _ h
  | .ins c ds, o, h => by cases o <;> first | exact False.elim h | exact ⟨h.1, DenF.mono e _ _ h.2⟩
theorem same_new {H : Hp} {p : Addr} {o : HO} (h : H p = none) : Same H (upd H p o) := fun b x e => by
  rw [upd_ne (ne_of_none e h)]
  exact e
/-- from now on it is not changed -/
theorem MDen.still {K : PySem.W.Frag} {F : Hp} {a : Addr} {o : HO} : ∀ {m : MD}, F a = none → MDen K F m o → Den K (upd F a o) m.d (.ref a)
  | .lst ds, n, h => by
    cases o <;> first | exact False.elim h | skip
    exact ⟨a, _, rfl, upd_same, Dens.mono (same_new n) _ _ h⟩
  | .dct ds, n, h => by
    cases o <;> first | exact False.elim h | skip
    exact ⟨a, _, rfl, upd_same, DenK.mono (same_new n) _ _ h⟩
  | .ins c ds, n, h => by
    cases o <;> first | exact False.elim h | skip
    obtain ⟨rfl, h⟩ := h
    exact ⟨a, _, _, rfl, upd_same, DenF.mono (same_new n) _ _ h⟩

/-! ### slots -/
/-- val: a datum that is not changed any more; own: the slot's own object; bor: the caller's, lent -/
inductive Sl where
  | val (d : D)
  | own (m : MD)
  | bor (m : MD)
abbrev DE := List (Option Sl)
def Sl.mut : Sl → Option MD
  | .val _ => none
  | .own m => some m
  | .bor m => some m
def Sl.wr : Sl → MD → Sl
  | .val d, _ => .val d
  | .own _, m => .own m
  | .bor _, m => .bor m
def Sl.d : Sl → D
  | .val d => d
  | .own m => m.d
  | .bor m => m.d
/-- what stood at the entry; G: things that an evaluation under way holds -/
structure Cq where
  F0 : Hp
  H0 : Hp
  G : Hp
  adr : Nat → Addr
  bs : List Nat

def SlOk (K : PySem.W.Frag) (c : Cq) (F H : Hp) (i : Nat) (sv : Option V) : Sl → Prop
  | .val d => ∃ v, sv = some v ∧ Den K F d v
  | .own m => ∃ a o, sv = some (.ref a) ∧ H a = some o ∧ MDen K F m o ∧ F a = none ∧ c.G a = none ∧ c.H0 a = none
  | .bor m => i ∈ c.bs ∧ ∃ o, sv = some (.ref (c.adr i)) ∧ H (c.adr i) = some o ∧ MDen K F m o ∧ F (c.adr i) = none ∧ c.G (c.adr i) = none

structure Rel (K : PySem.W.Frag) (c : Cq) (F H : Hp) (σ : L2.St) (δ : DE) : Prop where
  sub : Same F H
  pres : ∀ b o, c.H0 b = some o → (∀ i ∈ c.bs, c.adr i ≠ b) → H b = some o
  low : Same c.F0 F
  new : ∀ b o, F b = some o → c.F0 b = some o ∨ c.H0 b = none
  gs : ∀ b o, c.G b = some o → H b = some o ∧ F b = none
  bor0 : ∀ i ∈ c.bs, c.H0 (c.adr i) ≠ none
  borD : ∀ i ∈ c.bs, ∃ m, δ[i]? = some (some (.bor m))
  binj : ∀ i j, i ∈ c.bs → j ∈ c.bs → c.adr i = c.adr j → i = j
  len : σ.length = δ.length
  sl : ∀ i s, δ[i]? = some (some s) → SlOk K c F H i (σ[i]?.getD none) s
  apart : ∀ (i j : Nat) (a : Addr) (m n : MD), δ[i]? = some (some (Sl.own m)) → δ[j]? = some (some (Sl.own n)) → σ[i]? = some (some (V.ref a)) → σ[j]? = some (some (V.ref a)) → i = j

section
variable {K : PySem.W.Frag} {c : Cq} {F H : Hp} {σ : L2.St} {δ : DE}

theorem getD_some {σ : L2.St} {i : Nat} {v : V} (h : σ[i]?.getD none = some v) : σ[i]? = some (some v) := by
  cases e : σ[i]? with
  | none => rw [e] at h; cases h
  | some x => rw [e] at h; rw [show x = some v from h]
theorem Rel.borAt (r : Rel K c F H σ δ) {i : Nat} (h : i ∈ c.bs) : ∃ m o, δ[i]? = some (some (.bor m)) ∧ σ[i]? = some (some (.ref (c.adr i))) ∧ H (c.adr i) = some o ∧ MDen K F m o ∧ F (c.adr i) = none ∧ c.G (c.adr i) = none := by
  obtain ⟨m, e⟩ := r.borD i h
  obtain ⟨_, o, e1, e2, e3, e4⟩ := r.sl i _ e
  exact ⟨m, o, e, getD_some e1, e2, e3, e4⟩
theorem Rel.free (r : Rel K c F H σ δ) {p : Addr} (h : H p = none) : c.H0 p = none := by
  cases e : c.H0 p with
  | none => rfl
  | some o =>
    by_cases q : ∃ i ∈ c.bs, c.adr i = p
    · obtain ⟨i, hi, rfl⟩ := q
      obtain ⟨_, o', _, _, z, _⟩ := r.borAt hi
      rw [h] at z; cases z
    · have := r.pres p o e fun i hi z => q ⟨i, hi, z⟩
      rw [h] at this; cases this
theorem Rel.freeF (r : Rel K c F H σ δ) {p : Addr} (h : H p = none) : F p = none := r.sub.free h
theorem Rel.freeG (r : Rel K c F H σ δ) {p : Addr} (h : H p = none) : c.G p = none := by
  cases e : c.G p with
  | none => rfl
  | some o => rw [(r.gs p o e).1] at h; cases h
theorem Rel.val (r : Rel K c F H σ δ) {i : Nat} {d : D} (h : δ[i]? = some (some (.val d))) : ∃ v, σ[i]? = some (some v) ∧ Den K F d v := by
  obtain ⟨v, e, q⟩ := r.sl i _ h
  exact ⟨v, getD_some e, q⟩
theorem Rel.own (r : Rel K c F H σ δ) {i : Nat} {m : MD} (h : δ[i]? = some (some (.own m))) : ∃ a o, σ[i]? = some (some (.ref a)) ∧ H a = some o ∧ MDen K F m o ∧ F a = none ∧ c.G a = none ∧ c.H0 a = none := by
  obtain ⟨a, o, e, q⟩ := r.sl i _ h
  exact ⟨a, o, getD_some e, q⟩
/-- a slot's object that may be written -/
theorem Rel.mutAt (r : Rel K c F H σ δ) {i : Nat} {s : Sl} {m : MD} (h : δ[i]? = some (some s)) (hm : s.mut = some m) : ∃ a o, σ[i]? = some (some (.ref a)) ∧ H a = some o ∧ MDen K F m o ∧ F a = none := by
  cases s with
  | val d => cases hm
  | own n =>
    cases hm
    obtain ⟨a, o, e1, e2, e3, e4, _⟩ := r.own h
    exact ⟨a, o, e1, e2, e3, e4⟩
  | bor n =>
    cases hm
    obtain ⟨_, o, e1, e2, e3, e4, _⟩ := r.sl i _ h
    exact ⟨_, o, getD_some e1, e2, e3, e4⟩

/-- F grows, and what stands stays -/
theorem SlOk.to {F' H' : Hp} {i : Nat} {sv : Option V} {s : Sl} (h : SlOk K c F H i sv s) (e : Same F F') (n : ∀ a o, H a = some o → F a = none → (∀ d, s ≠ .val d) → sv = some (.ref a) → F' a = none) (k : ∀ a o, (∀ d, s ≠ .val d) → sv = some (.ref a) → H a = some o → F a = none → H' a = some o) : SlOk K c F' H' i sv s := by
  cases s with
  | val d =>
    obtain ⟨v, e1, e2⟩ := h
    exact ⟨v, e1, Den.mono e _ _ e2⟩
  | own m =>
    obtain ⟨a, o, e1, e2, e3, e4, e5⟩ := h
    exact ⟨a, o, e1, k a o (fun _ z => nomatch z) e1 e2 e4, e3.mono e, n a o e2 e4 (fun _ z => nomatch z) e1, e5⟩
  | bor m =>
    obtain ⟨hi, o, e1, e2, e3, e4, e5⟩ := h
    exact ⟨hi, o, e1, k _ o (fun _ z => nomatch z) e1 e2 e4, e3.mono e, n _ o e2 e4 (fun _ z => nomatch z) e1, e5⟩

/-- a new object that nobody asks for -/
theorem Rel.tmp (r : Rel K c F H σ δ) {p : Addr} {o : HO} (hp : H p = none) : Rel K c F (upd H p o) σ δ :=
  ⟨r.sub.trans (same_new hp), fun b x e1 e2 => same_new hp _ _ (r.pres b x e1 e2), r.low, r.new, fun b x e => ⟨same_new hp _ _ (r.gs b x e).1, (r.gs b x e).2⟩, r.bor0, r.borD, r.binj, r.len, fun i s e => (r.sl i s e).to (.refl _) (fun _ _ _ z _ _ => z) fun a x _ _ z _ => same_new hp _ _ z, r.apart⟩
/-- a new object that stays as it is -/
theorem Rel.lay (r : Rel K c F H σ δ) {p : Addr} {o : HO} (hp : H p = none) : Rel K c (upd F p o) (upd H p o) σ δ := by
  have hF := r.freeF hp
  have t := r.tmp (o := o) hp
  refine ⟨fun b x e => ?_, t.pres, r.low.trans (same_new hF), fun b x e => ?_, fun b x e => ⟨(t.gs b x e).1, ?_⟩, r.bor0, r.borD, r.binj, r.len, fun i s e => (r.sl i s e).to (same_new hF) (fun a x z1 z2 _ _ => ?_) fun a x _ _ z _ => same_new hp _ _ z, r.apart⟩
  · by_cases q : b = p
    · subst q; rw [upd_same] at e ⊢; exact e
    · rw [upd_ne q] at e ⊢; exact r.sub _ _ e
  · by_cases q : b = p
    · subst q; exact .inr (r.free hp)
    · rw [upd_ne q] at e; exact r.new _ _ e
  · rw [upd_ne (ne_of_none (r.gs b x e).1 hp)]; exact (r.gs b x e).2
  · rw [upd_ne (ne_of_none z1 hp)]; exact z2
/-- a thing of the heap is held while an evaluation is under way -/
theorem Rel.hold (r : Rel K c F H σ δ) {p : Addr} {o : HO} (hp : H p = some o) (hF : F p = none) (h1 : ∀ (j : Nat) (n : MD), δ[j]? = some (some (Sl.own n)) → σ[j]? ≠ some (some (V.ref p))) (h2 : ∀ i ∈ c.bs, c.adr i ≠ p) :
    Rel K { c with G := upd c.G p o } F H σ δ := by
  refine ⟨r.sub, r.pres, r.low, r.new, fun b x e => ?_, r.bor0, r.borD, r.binj, r.len, fun i s e => ?_, r.apart⟩
  · by_cases q : b = p
    · subst q
      have e : upd c.G b o b = some x := e
      rw [upd_same] at e; cases e; exact ⟨hp, hF⟩
    · have e : upd c.G p o b = some x := e
      rw [upd_ne q] at e; exact r.gs b x e
  · have z := r.sl i s e
    cases s with
    | val d => exact z
    | own n =>
      obtain ⟨a, x, e1, e2, e3, e4, e5, e6⟩ := z
      refine ⟨a, x, e1, e2, e3, e4, ?_, e6⟩
      show upd c.G p o a = none
      rw [upd_ne (fun q => h1 i n e (by rw [← q]; exact getD_some e1))]; exact e5
    | bor n =>
      obtain ⟨hi, x, e1, e2, e3, e4, e5⟩ := z
      refine ⟨hi, x, e1, e2, e3, e4, ?_⟩
      show upd c.G p o (c.adr i) = none
      rw [upd_ne (h2 i hi)]; exact e5
theorem Rel.drop {p : Addr} {o : HO} (r : Rel K { c with G := upd c.G p o } F H σ δ) (hg : c.G p = none) :
    Rel K c F H σ δ ∧ H p = some o ∧ F p = none ∧ (∀ (j : Nat) (n : MD), δ[j]? = some (some (Sl.own n)) → σ[j]? ≠ some (some (V.ref p))) ∧ ∀ i ∈ c.bs, c.adr i ≠ p := by
  have hp := r.gs p o upd_same
  have h1 : ∀ (j : Nat) (n : MD), δ[j]? = some (some (Sl.own n)) → σ[j]? ≠ some (some (V.ref p)) := fun j n e z => by
    obtain ⟨a, x, e1, _, _, _, e5, _⟩ := r.own e
    rw [z] at e1; cases e1
    have e5 : upd c.G p o p = none := e5
    rw [upd_same] at e5; cases e5
  have h2 : ∀ i ∈ c.bs, c.adr i ≠ p := fun i hi z => by
    obtain ⟨m, x, e1, e2, e3, e4, e5, e6⟩ := r.borAt hi
    have e6 : upd c.G p o (c.adr i) = none := e6
    rw [z, upd_same] at e6; cases e6
  refine ⟨⟨r.sub, r.pres, r.low, r.new, fun b x e => r.gs b x ?_, r.bor0, r.borD, r.binj, r.len, fun i s e => ?_, r.apart⟩, hp.1, hp.2, h1, h2⟩
  · show upd c.G p o b = some x
    rw [upd_ne (fun q => by subst q; rw [hg] at e; cases e)]; exact e
  · have z := r.sl i s e
    cases s with
    | val d => exact z
    | own n =>
      obtain ⟨a, x, e1, e2, e3, e4, e5, e6⟩ := z
      refine ⟨a, x, e1, e2, e3, e4, ?_, e6⟩
      have e5 : upd c.G p o a = none := e5
      rw [upd_ne (fun q => h1 i n e (by rw [← q]; exact getD_some e1))] at e5; exact e5
    | bor n =>
      obtain ⟨hi, x, e1, e2, e3, e4, e5⟩ := z
      refine ⟨hi, x, e1, e2, e3, e4, ?_⟩
      have e5 : upd c.G p o (c.adr i) = none := e5
      rw [upd_ne (h2 i hi)] at e5; exact e5
/-- the held thing is written -/
theorem Rel.holdPut {p : Addr} {o o' : HO} (r : Rel K { c with G := upd c.G p o } F H σ δ) (hg : c.G p = none) (h0 : c.H0 p = none) : Rel K { c with G := upd c.G p o' } F (upd H p o') σ δ := by
  obtain ⟨r, hp, hF, h1, h2⟩ := r.drop hg
  refine Rel.hold (c := c) ⟨fun b x e => ?_, fun b x e q => ?_, r.low, r.new, fun b x e => ⟨?_, (r.gs b x e).2⟩, r.bor0, r.borD, r.binj, r.len, fun i s e => (r.sl i s e).to (.refl _) (fun _ _ _ z _ _ => z) fun a x z0 z1 z _ => ?_, r.apart⟩ upd_same hF h1 h2
  · rw [upd_ne (fun q => by subst q; rw [hF] at e; cases e)]; exact r.sub _ _ e
  · rw [upd_ne (fun z => by subst z; rw [h0] at e; cases e)]; exact r.pres b x e q
  · rw [upd_ne (fun z => by subst z; rw [hg] at e; cases e)]; exact (r.gs b x e).1
  · rw [upd_ne ?_]; exact z
    intro q
    subst q
    have z1 := getD_some z1
    cases s with
    | val d => exact z0 d rfl
    | own n => exact h1 i n e z1
    | bor n =>
      obtain ⟨hb, _, w1, _⟩ := r.sl i _ e
      rw [getD_some w1] at z1
      have z1 : c.adr i = a := V.ref.inj (Option.some.inj (Option.some.inj z1))
      exact h2 i hb z1
/-- a slot takes a datum; not a lent one -/
theorem Rel.set (r : Rel K c F H σ δ) {i : Nat} {v : V} {d : D} (h : Den K F d v) (nb : ∀ m, δ[i]? ≠ some (some (.bor m))) : Rel K c F H (σ.set i (some v)) (δ.set i (some (.val d))) := by
  have nbs : i ∉ c.bs := fun z => let ⟨m, e⟩ := r.borD i z; nb m e
  have nin : ∀ {j : Nat} {m : MD}, (δ.set i (some (.val d)))[j]? = some (some (.own m)) → j ≠ i ∧ δ[j]? = some (some (.own m)) := fun {j m} e => by
    rw [List.getElem?_set] at e
    split at e
    · split at e <;> cases e
    · rename_i z; exact ⟨fun q => z q.symm, e⟩
  refine ⟨r.sub, r.pres, r.low, r.new, r.gs, r.bor0, fun j hj => ?_, r.binj, by rw [List.length_set, List.length_set, r.len], fun j s e => ?_, fun j k a m n e1 e2 e3 e4 => ?_⟩
  · have : i ≠ j := fun q => nbs (q ▸ hj)
    rw [List.getElem?_set_ne this]; exact r.borD j hj
  · by_cases q : i = j
    · subst q
      rw [List.getElem?_set] at e
      simp only [if_true] at e
      split at e
      · rename_i hl
        cases e
        exact ⟨v, by rw [List.getElem?_set]; simp only [if_true]; rw [if_pos (by rw [r.len]; exact hl)]; rfl, h⟩
      · cases e
    · rw [List.getElem?_set_ne q] at e
      rw [List.getElem?_set_ne q]
      exact r.sl j s e
  · obtain ⟨n1, o1⟩ := nin e1
    obtain ⟨n2, o2⟩ := nin e2
    rw [List.getElem?_set_ne (fun q => n1 q.symm)] at e3
    rw [List.getElem?_set_ne (fun q => n2 q.symm)] at e4
    exact r.apart j k a m n o1 o2 e3 e4
/-- a slot takes a new object of its own -/
theorem Rel.setOwn (r : Rel K c F H σ δ) {i : Nat} {p : Addr} {o : HO} {m : MD} (hp : H p = some o) (hF : F p = none) (hG : c.G p = none) (h0 : c.H0 p = none) (hm : MDen K F m o) (ap : ∀ (j : Nat) (n : MD), δ[j]? = some (some (Sl.own n)) → σ[j]? ≠ some (some (V.ref p))) (nb : ∀ m, δ[i]? ≠ some (some (.bor m))) :
    Rel K c F H (σ.set i (some (.ref p))) (δ.set i (some (.own m))) := by
  have nbs : i ∉ c.bs := fun z => let ⟨m, e⟩ := r.borD i z; nb m e
  refine ⟨r.sub, r.pres, r.low, r.new, r.gs, r.bor0, fun j hj => ?_, r.binj, by rw [List.length_set, List.length_set, r.len], fun j s e => ?_, fun j k a m1 n1 e1 e2 e3 e4 => ?_⟩
  · have : i ≠ j := fun q => nbs (q ▸ hj)
    rw [List.getElem?_set_ne this]; exact r.borD j hj
  · by_cases q : i = j
    · subst q
      rw [List.getElem?_set] at e
      simp only [if_true] at e
      split at e
      · rename_i hl
        cases e
        exact ⟨p, o, by rw [List.getElem?_set]; simp only [if_true]; rw [if_pos (by rw [r.len]; exact hl)]; rfl, hp, hm, hF, hG, h0⟩
      · cases e
    · rw [List.getElem?_set_ne q] at e
      rw [List.getElem?_set_ne q]
      exact r.sl j s e
  · have at_ : ∀ {j : Nat} {n : MD}, (δ.set i (some (.own m)))[j]? = some (some (.own n)) → (σ.set i (some (V.ref p)))[j]? = some (some (.ref a)) → (j = i ∧ a = p) ∨ (j ≠ i ∧ δ[j]? = some (some (.own n)) ∧ σ[j]? = some (some (.ref a))) := fun {j n} g1 g2 => by
      by_cases q : i = j
      · subst q
        rw [List.getElem?_set] at g2
        simp only [if_true] at g2
        split at g2
        · cases g2; exact .inl ⟨rfl, rfl⟩
        · cases g2
      · rw [List.getElem?_set_ne q] at g1 g2
        exact .inr ⟨fun z => q z.symm, g1, g2⟩
    rcases at_ e1 e3 with ⟨q1, z1⟩ | ⟨q1, z1, y1⟩ <;> rcases at_ e2 e4 with ⟨q2, z2⟩ | ⟨q2, z2, y2⟩
    · rw [q1, q2]
    · subst z1; exact absurd y2 (ap k _ z2)
    · subst z2; exact absurd y1 (ap j _ z1)
    · exact r.apart j k a _ _ z1 z2 y1 y2
/-- a slot's own object, or a lent one, is written -/
theorem Rel.write (r : Rel K c F H σ δ) {i : Nat} {a : Addr} {s : Sl} {m m' : MD} {o' : HO} (hi : δ[i]? = some (some s)) (hs : s.mut = some m) (ha : σ[i]? = some (some (.ref a))) (hm : MDen K F m' o') : Rel K c F (upd H a o') σ (δ.set i (some (s.wr m'))) := by
  have hl : i < δ.length := (List.getElem?_eq_some_iff.mp hi).1
  have facts : F a = none ∧ c.G a = none ∧ (∀ (b : Addr) (x : HO), c.H0 b = some x → (∀ j ∈ c.bs, c.adr j ≠ b) → b ≠ a) ∧ (∀ (j : Nat) (s' : Sl), i ≠ j → δ[j]? = some (some s') → (∀ d, s' ≠ .val d) → σ[j]? ≠ some (some (V.ref a))) ∧ SlOk K c F (upd H a o') i (σ[i]?.getD none) (s.wr m') := by
    cases s with
    | val d => cases hs
    | own n =>
      obtain ⟨a', o, e1, e2, e3, e4, e5, e6⟩ := r.own hi
      rw [ha] at e1
      cases e1
      refine ⟨e4, e5, fun b x e _ q => (by subst q; rw [e6] at e; cases e), fun j s' q e z0 z1 => ?_, ⟨a, o', by rw [ha]; rfl, upd_same, hm, e4, e5, e6⟩⟩
      cases s' with
      | val d => exact z0 d rfl
      | own n' => exact q (r.apart i j a _ _ hi e ha z1)
      | bor n' =>
        obtain ⟨hb, _, w1, _⟩ := r.sl j _ e
        rw [getD_some w1] at z1; cases z1
        exact r.bor0 j hb e6
    | bor n =>
      obtain ⟨hb, o, e1, e2, e3, e4, e5⟩ := r.sl i _ hi
      have e1 := getD_some e1
      rw [ha] at e1
      cases e1
      refine ⟨e4, e5, fun b x e q z => q i hb z.symm, fun j s' q e z0 z1 => ?_, ⟨hb, o', by rw [ha]; rfl, upd_same, hm, e4, e5⟩⟩
      cases s' with
      | val d => exact z0 d rfl
      | own n' =>
        obtain ⟨_, _, w1, _, _, _, _, w2⟩ := r.own e
        rw [z1] at w1; cases w1
        exact r.bor0 i hb w2
      | bor n' =>
        obtain ⟨hb', _, w1, _⟩ := r.sl j _ e
        rw [getD_some w1] at z1
        have z1 : c.adr j = c.adr i := V.ref.inj (Option.some.inj (Option.some.inj z1))
        exact q (r.binj i j hb hb' z1.symm)
  obtain ⟨hF, hG, h0, hne, hok⟩ := facts
  refine ⟨fun b x e => ?_, fun b x e q => ?_, r.low, r.new, fun b x e => ⟨?_, (r.gs b x e).2⟩, r.bor0, fun j hj => ?_, r.binj, by rw [List.length_set, r.len], fun j s' e => ?_, fun j k b m1 n1 g1 g2 g3 g4 => ?_⟩
  · rw [upd_ne (fun q => by subst q; rw [hF] at e; cases e)]; exact r.sub _ _ e
  · rw [upd_ne (h0 b x e q)]; exact r.pres b x e q
  · rw [upd_ne (fun z => by subst z; rw [hG] at e; cases e)]; exact (r.gs b x e).1
  · by_cases q : i = j
    · subst q
      obtain ⟨m, e⟩ := r.borD i hj
      rw [hi] at e; cases e
      exact ⟨m', by rw [List.getElem?_set_self hl]; rfl⟩
    · rw [List.getElem?_set_ne q]; exact r.borD j hj
  · by_cases q : i = j
    · subst q
      rw [List.getElem?_set_self hl] at e
      cases e
      exact hok
    · rw [List.getElem?_set_ne q] at e
      refine (r.sl j s' e).to (.refl _) (fun _ _ _ z _ _ => z) fun b x z0 z1 z2 z3 => ?_
      rw [upd_ne ?_]; exact z2
      intro z
      subst z
      exact hne j s' q e z0 (getD_some z1)
  · have at_ : ∀ {j : Nat} {n : MD}, (δ.set i (some (s.wr m')))[j]? = some (some (Sl.own n)) → ∃ n', δ[j]? = some (some (Sl.own n')) := fun {j n} g => by
      by_cases q : i = j
      · subst q
        rw [List.getElem?_set_self hl] at g
        cases s with
        | val d => cases hs
        | own n' => exact ⟨_, hi⟩
        | bor n' => cases g
      · rw [List.getElem?_set_ne q] at g; exact ⟨_, g⟩
    obtain ⟨_, h1⟩ := at_ g1
    obtain ⟨_, h2⟩ := at_ g2
    exact r.apart j k b _ _ h1 h2 g3 g4
/-- an own object is not changed any more -/
theorem Rel.still (r : Rel K c F H σ δ) {i : Nat} {m : MD} (hi : δ[i]? = some (some (.own m))) : ∃ a o, σ[i]? = some (some (.ref a)) ∧ Same F (upd F a o) ∧ Den K (upd F a o) m.d (.ref a) ∧ Rel K c (upd F a o) H σ (δ.set i (some (.val m.d))) := by
  obtain ⟨a, o, e1, e2, e3, e4, e5, e6⟩ := r.own hi
  have hl : i < δ.length := (List.getElem?_eq_some_iff.mp hi).1
  have sF : Same F (upd F a o) := same_new e4
  have nbs : i ∉ c.bs := fun z => by
    obtain ⟨m, e⟩ := r.borD i z
    rw [hi] at e; cases e
  have ne_ : ∀ {j : Nat} {n : MD}, (δ.set i (some (.val m.d)))[j]? = some (some (Sl.own n)) → i ≠ j ∧ δ[j]? = some (some (Sl.own n)) := fun {j n} g => by
    by_cases q : i = j
    · subst q
      rw [List.getElem?_set_self hl] at g; cases g
    · rw [List.getElem?_set_ne q] at g; exact ⟨q, g⟩
  refine ⟨a, o, e1, sF, e3.still e4, fun b x e => ?_, r.pres, r.low.trans sF, fun b x e => ?_, fun b x e => ⟨(r.gs b x e).1, ?_⟩, r.bor0, fun j hj => ?_, r.binj, by rw [List.length_set, r.len], fun j s e => ?_, fun j k b m1 n1 g1 g2 g3 g4 => ?_⟩
  · by_cases q : b = a
    · subst q; rw [upd_same] at e; cases e; exact e2
    · rw [upd_ne q] at e; exact r.sub _ _ e
  · by_cases q : b = a
    · subst q; exact .inr e6
    · rw [upd_ne q] at e; exact r.new _ _ e
  · rw [upd_ne (fun z => by subst z; rw [e5] at e; cases e)]; exact (r.gs b x e).2
  · have : i ≠ j := fun q => nbs (q ▸ hj)
    rw [List.getElem?_set_ne this]; exact r.borD j hj
  · by_cases q : i = j
    · subst q
      rw [List.getElem?_set_self hl] at e
      cases e
      exact ⟨.ref a, by rw [e1]; rfl, e3.still e4⟩
    · rw [List.getElem?_set_ne q] at e
      refine (r.sl j s e).to sF (fun b x z1 z2 z0 z3 => ?_) fun b x _ _ z _ => z
      rw [upd_ne ?_]; exact z2
      intro z
      subst z
      have z3 := getD_some z3
      cases s with
      | val d => exact z0 d rfl
      | own n => exact q (r.apart i j b _ _ hi e e1 z3)
      | bor n =>
        obtain ⟨hb, _, w1, _⟩ := r.sl j _ e
        rw [getD_some w1] at z3; cases z3
        exact r.bor0 j hb e6
  · obtain ⟨_, h1⟩ := ne_ g1
    obtain ⟨_, h2⟩ := ne_ g2
    exact r.apart j k b _ _ h1 h2 g3 g4
end
end PV

/-! PV2: readings by functions on data; expressions. -/
namespace PV
open PySem PySem.Spec PyProof.Rows L2

/-- an exception: its class, its fields -/
structure XD where
  c : Addr
  fs : List (Str × D)
inductive R (α : Type) where
  | ok (a : α) (δ : DE)
  | exc (x : XD) (δ : DE)
  | stuck
def R.bind {α β : Type} (r : R α) (g : α → DE → R β) : R β :=
  match r with
  | .ok a δ => g a δ
  | .exc x δ => .exc x δ
  | .stuck => .stuck
def R.of {α : Type} (o : Option α) (δ : DE) : R α :=
  match o with
  | some a => .ok a δ
  | none => .stuck
theorem R.bind_ok {α β : Type} {a : α} {δ : DE} {g : α → DE → R β} : (R.ok a δ).bind g = g a δ := rfl

def XOk (K : PySem.W.Frag) (F H : Hp) (x : XD) (cls : Value) (od : Option Addr) : Prop :=
  cls = .ref x.c ∧ match od with
    | none => x.fs = []
    | some a => ∃ fs, H a = some (.xd fs) ∧ DenF K F x.fs fs

/-- what is wanted of a result -/
def aft {α β : Type} (K : PySem.W.Frag) (W : WX) (DN : Cq → Hp → Hp → L2.St → DE → α → β → Prop) (c : Cq) (F : Hp) (σ : L2.St) (Q : β → Hp → Prop) : R α → Prop
  | .ok a δ => ∀ v F' H', Rel K c F' H' σ δ → Same F F' → DN c F' H' σ δ a v → Q v H'
  | .exc x δ => ∀ cls od F' H', Rel K c F' H' σ δ → Same F F' → XOk K F' H' x cls od → W cls od σ H'
  | .stuck => False
def rd {α β : Type} (K : PySem.W.Frag) (W : WX) (DN : Cq → Hp → Hp → L2.St → DE → α → β → Prop) (f : DE → R α) : L2.St → Hp → (β → Hp → Prop) → Prop :=
  fun σ H Q => ∃ c F δ, Rel K c F H σ δ ∧ aft K W DN c F σ Q (f δ)

/-- values, lists of values, truths -/
abbrev dnE (K : PySem.W.Frag) : Cq → Hp → Hp → L2.St → DE → D → V → Prop := fun _ F _ _ _ d v => Den K F d v
abbrev dnB : Cq → Hp → Hp → L2.St → DE → Bool → Bool → Prop := fun _ _ _ _ _ b v => v = b
abbrev dnO : Cq → Hp → Hp → L2.St → DE → Option Int → Option Int → Prop := fun _ _ _ _ _ b v => v = b
/-- an argument: a datum, or a slot whose object is lent -/
inductive Arg where
  | val (d : D)
  | slot (i : Nat)
def ArgD (K : PySem.W.Frag) (F : Hp) (σ : L2.St) : Arg → V → Prop
  | .val d, v => Den K F d v
  | .slot i, v => σ[i]? = some (some v)
def ArgsD (K : PySem.W.Frag) (F : Hp) (σ : L2.St) : List Arg → List V → Prop
  | [], vs => vs = []
  | a :: as, vs => ∃ v r, vs = v :: r ∧ ArgD K F σ a v ∧ ArgsD K F σ as r
abbrev dnA (K : PySem.W.Frag) : Cq → Hp → Hp → L2.St → DE → List Arg → List V → Prop := fun _ F _ σ _ as vs => ArgsD K F σ as vs
/-- a new object of one's own -/
abbrev dnN (K : PySem.W.Frag) : Cq → Hp → Hp → L2.St → DE → MD → V → Prop := fun c F H σ δ m v => ∃ p o, v = .ref p ∧ H p = some o ∧ MDen K F m o ∧ F p = none ∧ c.G p = none ∧ c.H0 p = none ∧
  ∀ (j : Nat) (n : MD), δ[j]? = some (some (Sl.own n)) → σ[j]? ≠ some (some (V.ref p))

abbrev rdE (K : PySem.W.Frag) (W : WX) (f : DE → R D) : TE := rd K W (dnE K) f
abbrev rdT (K : PySem.W.Frag) (W : WX) (f : DE → R Bool) : TT := rd K W dnB f
abbrev rdA (K : PySem.W.Frag) (W : WX) (f : DE → R (List Arg)) : TA := rd K W (dnA K) f
abbrev rdO (K : PySem.W.Frag) (W : WX) (f : DE → R (Option Int)) : TO := rd K W dnO f
abbrev rdN (K : PySem.W.Frag) (W : WX) (f : DE → R MD) : TE := rd K W (dnN K) f

theorem ArgD.mono {K : PySem.W.Frag} {F F' : Hp} {σ : L2.St} (e : Same F F') : ∀ {a : Arg} {v : V}, ArgD K F σ a v → ArgD K F' σ a v
  | .val _, _, h => Den.mono e _ _ h
  | .slot _, _, h => h
theorem ArgsD.mono {K : PySem.W.Frag} {F F' : Hp} {σ : L2.St} (e : Same F F') : ∀ {as : List Arg} {vs : List V}, ArgsD K F σ as vs → ArgsD K F' σ as vs
  | [], _, h => h
  | _ :: _, _, ⟨v, r, e1, h1, h2⟩ => ⟨v, r, e1, h1.mono e, h2.mono e⟩

section
variable {α β γ δ' : Type} {K : PySem.W.Frag} {W : WX} {DN : Cq → Hp → Hp → L2.St → DE → α → β → Prop} {DM : Cq → Hp → Hp → L2.St → DE → γ → δ' → Prop} {σ : L2.St} {H : Hp}

theorem aft.mono {c : Cq} {F F1 : Hp} {Q Q' : β → Hp → Prop} : ∀ {r : R α}, aft K W DN c F σ Q r → Same F F1 → (∀ v H', Q v H' → Q' v H') → aft K W DN c F1 σ Q' r
  | .ok a δ, h, s, q => fun v F' H' r e d => q v H' (h v F' H' r (s.trans e) d)
  | .exc x δ, h, s, _ => fun cls od F' H' r e d => h cls od F' H' r (s.trans e) d
  | .stuck, h, _, _ => h
theorem rd.mono {f : DE → R α} {Q Q' : β → Hp → Prop} (h : rd K W DN f σ H Q) (q : ∀ v H', Q v H' → Q' v H') : rd K W DN f σ H Q' := by
  obtain ⟨c, F, δ, r, a⟩ := h
  exact ⟨c, F, δ, r, a.mono (.refl _) q⟩
/-- the first part of a whole -/
theorem rd.first {f : DE → R γ} {g : γ → DE → R α} {Q : β → Hp → Prop} {Q' : δ' → Hp → Prop} (h : rd K W DN (fun δ => (f δ).bind g) σ H Q)
    (k : ∀ c F H1 δ a v, Rel K c F H1 σ δ → DM c F H1 σ δ a v → aft K W DN c F σ Q (g a δ) → Q' v H1) : rd K W DM f σ H Q' := by
  obtain ⟨c, F, δ, r, a⟩ := h
  refine ⟨c, F, δ, r, ?_⟩
  cases e : f δ with
  | ok x δ1 =>
    have a : aft K W DN c F σ Q ((f δ).bind g) := a
    rw [e] at a
    exact fun v F' H' r' s d => k c F' H' δ1 x v r' d (a.mono s fun _ _ z => z)
  | exc x δ1 =>
    have a : aft K W DN c F σ Q ((f δ).bind g) := a
    rw [e] at a
    exact a
  | stuck =>
    have a : aft K W DN c F σ Q ((f δ).bind g) := a
    rw [e] at a
    exact a
/-- and a further part -/
theorem aft.next {c : Cq} {F : Hp} {δ : DE} {f : DE → R γ} {g : γ → DE → R α} {Q : β → Hp → Prop} {Q' : δ' → Hp → Prop} (r : Rel K c F H σ δ) (h : aft K W DN c F σ Q ((f δ).bind g))
    (k : ∀ F1 H1 δ1 a v, Rel K c F1 H1 σ δ1 → Same F F1 → DM c F1 H1 σ δ1 a v → aft K W DN c F1 σ Q (g a δ1) → Q' v H1) : rd K W DM f σ H Q' := by
  refine ⟨c, F, δ, r, ?_⟩
  cases e : f δ with
  | ok x δ1 =>
    rw [e] at h
    exact fun v F' H' r' s d => k F' H' δ1 x v r' s d (h.mono s fun _ _ z => z)
  | exc x δ1 => rw [e] at h; exact h
  | stuck => rw [e] at h; exact h
end

/-! ### expressions -/
abbrev VE (X : Cx) (W : WX) (e : Expr) (f : DE → R D) : Prop := PE X e (rdE X.K W f)
abbrev VT (X : Cx) (W : WX) (e : Expr) (f : DE → R Bool) : Prop := PT X e (rdT X.K W f)
abbrev VA (X : Cx) (W : WX) (es : List Expr) (f : DE → R (List Arg)) : Prop := PA X es (rdA X.K W f)
abbrev VN (X : Cx) (W : WX) (e : Expr) (f : DE → R MD) : Prop := PE X e (rdN X.K W f)
abbrev VO (X : Cx) (W : WX) (e : Option Expr) (f : DE → R (Option Int)) : Prop := PO X e (rdO X.K W f)
theorem PE.to {X : Cx} {e : Expr} {t t' : TE} (h : PE X e t) (i : ∀ σ H Q, t' σ H Q → t σ H Q) : PE X e t' := ⟨fun pins s σ H Q I z => h.run pins s σ H Q I (i σ H Q z)⟩
theorem PT.to {X : Cx} {e : Expr} {t t' : TT} (h : PT X e t) (i : ∀ σ H Q, t' σ H Q → t σ H Q) : PT X e t' := ⟨fun pins s σ H Q I z => h.run pins s σ H Q I (i σ H Q z)⟩
theorem PW.to {X : Cx} {e : Expr} {t t' : TT} (h : PW X e t) (i : ∀ σ H Q, t' σ H Q → t σ H Q) : PW X e t' := ⟨fun E pins s σ H Q I z => h.run E pins s σ H Q I (i σ H Q z)⟩
theorem PA.to {X : Cx} {e : List Expr} {t t' : TA} (h : PA X e t) (i : ∀ σ H Q, t' σ H Q → t σ H Q) : PA X e t' := ⟨fun pos pins s σ H Q I z => h.run pos pins s σ H Q I (i σ H Q z)⟩
theorem PO.to {X : Cx} {e : Option Expr} {t t' : TO} (h : PO X e t) (i : ∀ σ H Q, t' σ H Q → t σ H Q) : PO X e t' := ⟨fun pins s σ H Q I z => h.run pins s σ H Q I (i σ H Q z)⟩

/-- a datum that is written -/
def cst (d : D) : DE → R D := fun δ => .ok d δ
/-- a name: a datum, or an own object that is not changed from here on -/
def var (i : Nat) : DE → R D := fun δ =>
  match δ[i]? with
  | some (some (.val d)) => .ok d δ
  | some (some (.own m)) => .ok m.d (δ.set i (some (.val m.d)))
  | _ => .stuck
section
variable {X : Cx} {W : WX} {a b e : Expr} {fa fb : DE → R D} {pos : Pos}

theorem rd_cst {K : PySem.W.Frag} {d : D} {v : V} {σ : L2.St} {H : Hp} {Q : VK} (hd : ∀ F, Den K F d v) (h : rdE K W (cst d) σ H Q) : Q v H := by
  obtain ⟨c, F, δ, r, z⟩ := h
  exact z v F H r (.refl _) (hd F)
theorem ve_int {i j pos} : VE X W (.Constant (.int i) j pos) (cst (.int i)) := PE.to pe_int fun _ _ _ h => rd_cst (d := .int i) (v := .int i) (fun _ => by unfold Den; rfl) h
theorem ve_str {i j pos} : VE X W (.Constant (.str i) j pos) (cst (.str i)) := PE.to pe_str fun _ _ _ h => rd_cst (d := .str i) (v := .str i) (fun _ => by unfold Den; rfl) h
theorem ve_bl {i j pos} : VE X W (.Constant (.bool i) j pos) (cst (.bl i)) := PE.to pe_bl fun _ _ _ h => rd_cst (d := .bl i) (v := .bl i) (fun _ => by unfold Den; rfl) h
theorem ve_non {j pos} : VE X W (.Constant .none j pos) (cst .non) := PE.to pe_non fun _ _ _ h => rd_cst (d := .non) (v := .non) (fun _ => by unfold Den; rfl) h
theorem ve_byt {x k pos} : VE X W (.Constant (.bytes x) k pos) (cst (.byt x.toArray)) := PE.to pe_byt fun _ _ _ h => rd_cst (d := .byt x.toArray) (v := .byt x.toArray) (fun _ => by unfold Den; rfl) h
/-- a module's constant -/
theorem ve_glob {x : Str} {v : V} {d : D} {u : Value} {pos : Pos} (hg : Gl X x) (hm : X.mg x = some u) (r : RelV v u) (hd : ∀ F, Den X.K F d v) (hdb : (x == ("__debug__" : Str)) = false := by decide) : VE X W (.Name x pos) (cst d) :=
  PE.to (pe_glob hg hm r hdb) fun _ _ _ h => rd_cst hd h
theorem ve_bltn {x : Str} {v : V} {d : D} {u : Value} {pos : Pos} (hg : Gl X x) (hm : X.mg x = none) (hv : bootBuiltins x = some u) (r : RelV v u) (hd : ∀ F, Den X.K F d v) (hn : x ≠ "__name__" := by decide) (hdb : (x == ("__debug__" : Str)) = false := by decide) : VE X W (.Name x pos) (cst d) :=
  PE.to (pe_bltn hg hm hv r hn hdb) fun _ _ _ h => rd_cst hd h

theorem rd_var {K : PySem.W.Frag} {i : Nat} {σ : L2.St} {H : Hp} {Q : VK} (h : rdE K W (var i) σ H Q) : tVar i σ H Q := by
  obtain ⟨c, F, δ, r, z⟩ := h
  unfold var at z
  cases e : δ[i]? with
  | none => rw [e] at z; exact False.elim z
  | some s =>
    rw [e] at z
    cases s with
    | none => exact False.elim z
    | some s =>
      cases s with
      | val d =>
        obtain ⟨v, e1, e2⟩ := r.val e
        exact ⟨v, e1, z v F H r (.refl _) e2⟩
      | own m =>
        obtain ⟨a, o, e1, e2, e3, e4⟩ := r.still e
        exact ⟨.ref a, e1, z _ _ H e4 e2 e3⟩
      | bor m => exact False.elim z
theorem ve_var (i : Nat) {x : Str} {pos : Pos} (hN : X.N[i]? = some x := by rfl) (hv : Vis X.env.scope x := by first | exact Or.inl rfl | exact Or.inr (Or.inl rfl) | exact Or.inr (Or.inr rfl)) (hd : (x == ("__debug__" : Str)) = false := by decide)
    (hcd : (x == ("__classdict__" : Str)) = false := by decide) : VE X W (.Name x pos) (var i) := PE.to (pe_var hN hv hd hcd) fun _ _ _ h => rd_var h

/-! ### operators -/
def op2 (o : D → D → Option D) (fa fb : DE → R D) : DE → R D := fun δ => (fa δ).bind fun x δ => (fb δ).bind fun y δ => R.of (o x y) δ
/-- an operation on values, by a function on data -/
def Op2 (X : Cx) (sem : Value → Value → Sem Value) (o : D → D → Option D) : Prop :=
  ∃ r : R2, OpR X sem r ∧ ∀ c F H σ δ d e z v w (Q : VK), Rel X.K c F H σ δ → Den X.K F d v → Den X.K F e w → o d e = some z →
    (∀ u F' H', Rel X.K c F' H' σ δ → Same F F' → Den X.K F' z u → Q u H') → r v w H Q
theorem Op2.rd {sem : Value → Value → Sem Value} {o : D → D → Option D} (h : Op2 X sem o) : ∃ r, OpR X sem r ∧ ∀ σ H Q, rdE X.K W (op2 o fa fb) σ H Q → tOp r (rdE X.K W fa) (rdE X.K W fb) σ H Q := by
  obtain ⟨r, h1, h2⟩ := h
  refine ⟨r, h1, fun σ H Q z => ?_⟩
  refine z.first fun c F H1 δ x v r1 d1 z1 => ?_
  refine z1.next (DM := dnE X.K) r1 fun F2 H2 δ2 y w r2 s2 d2 z2 => ?_
  cases e : o x y with
  | none => rw [e] at z2; exact False.elim z2
  | some q =>
    rw [e] at z2
    exact h2 c F2 H2 σ δ2 x y q v w Q r2 (Den.mono s2 _ _ d1) d2 e fun u F' H' r' s' d' => z2 u F' H' r' s' d'
theorem ve_op {op : Operator} {o : D → D → Option D} (h : Op2 X (binaryOp op) o) (ha : VE X W a fa) (hb : VE X W b fb) : VE X W (.BinOp a op b pos) (op2 o fa fb) := by
  obtain ⟨r, h1, h2⟩ := h.rd (W := W) (fa := fa) (fb := fb)
  exact PE.to (pe_op h1 ha hb) h2
theorem ve_cmp {op : CmpOp} {o : D → D → Option D} (h : Op2 X (compareOp op) o) (ha : VE X W a fa) (hb : VE X W b fb) (hm : behindInMarks op b = false) : VE X W (.Compare a [op] [b] pos) (op2 o fa fb) := by
  obtain ⟨r, h1, h2⟩ := h.rd (W := W) (fa := fa) (fb := fb)
  exact PE.to (pe_cmpR h1 ha hb hm) h2
theorem Op2.or {sem : Value → Value → Sem Value} {o o' : D → D → Option D} (h : Op2 X sem o) (h' : Op2 X sem o') : Op2 X sem (fun x y => (o x y).or (o' x y)) := by
  obtain ⟨r, h1, h2⟩ := h
  obtain ⟨r', h1', h2'⟩ := h'
  refine ⟨_, OpR.or h1 h1', fun c F H σ δ d e z v w Q r0 d1 d2 q k => ?_⟩
  have q : (o d e).or (o' d e) = some z := q
  cases e1 : o d e with
  | some y =>
    rw [e1] at q
    exact .inl (h2 c F H σ δ d e z v w Q r0 d1 d2 (by rw [e1]; exact q) k)
  | none =>
    rw [e1] at q
    exact .inr (h2' c F H σ δ d e z v w Q r0 d1 d2 q k)

/-! ### tests -/
def tst (f : DE → R D) : DE → R Bool := fun δ => (f δ).bind fun x δ => match x with
  | .bl b => .ok b δ
  | _ => .stuck
theorem rd_tst {K : PySem.W.Frag} {f : DE → R D} {σ : L2.St} {H : Hp} {Q : Bool → Hp → Prop} (h : rdT K W (tst f) σ H Q) : rdE K W f σ H fun x H' => ∃ k, x = .bl k ∧ Q k H' := by
  refine h.first fun c F H1 δ x v r1 d1 z1 => ?_
  cases x <;> first | exact False.elim z1 | skip
  exact ⟨_, d1, z1 _ F H1 r1 (.refl _) rfl⟩
/-- a test that is a truth value -/
theorem vt_val {f : DE → R D} (h : VE X W e f) (he : ∀ whole, isTrue e X.env whole = (do let v ← whole; standAt e.pos; holding [v] (truthy v)) := by intro _; rfl) : VT X W e (tst f) :=
  PT.to (pt_val h he) fun _ _ _ z => rd_tst z
theorem vt_cmp {op : CmpOp} {o : D → D → Option D} (h : Op2 X (compareOp op) o) (ha : VE X W a fa) (hb : VE X W b fb) (hm : behindInMarks op b = false) : VT X W (.Compare a [op] [b] pos) (tst (op2 o fa fb)) := by
  obtain ⟨r, h1, h2⟩ := h.rd (W := W) (fa := fa) (fb := fb)
  exact PT.to (pt_cmpR h1 ha hb hm) fun σ H Q z => h2 σ H _ (rd_tst z)
def andT (f g : DE → R Bool) : DE → R Bool := fun δ => (f δ).bind fun b δ => if b = true then g δ else .ok false δ
def orT (f g : DE → R Bool) : DE → R Bool := fun δ => (f δ).bind fun b δ => if b = true then .ok true δ else g δ
def notT (f : DE → R Bool) : DE → R Bool := fun δ => (f δ).bind fun b δ => .ok (!b) δ
theorem rd_here {α β : Type} {K : PySem.W.Frag} {DN : Cq → Hp → Hp → L2.St → DE → α → β → Prop} {c : Cq} {F H : Hp} {σ : L2.St} {δ : DE} {g : DE → R α} {Q : β → Hp → Prop} (r : Rel K c F H σ δ) (h : aft K W DN c F σ Q (g δ)) : rd K W DN g σ H Q := ⟨c, F, δ, r, h⟩
theorem rd_and {K : PySem.W.Frag} {f g : DE → R Bool} {σ : L2.St} {H : Hp} {Q : Bool → Hp → Prop} (h : rdT K W (andT f g) σ H Q) : tAnd (rdT K W f) (rdT K W g) σ H Q := by
  refine h.first fun c F H1 δ b v r1 d1 z1 => ?_
  cases (show v = b from d1)
  cases b with
  | true => exact rd_here r1 z1
  | false => exact z1 _ F H1 r1 (.refl _) rfl
theorem rd_or {K : PySem.W.Frag} {f g : DE → R Bool} {σ : L2.St} {H : Hp} {Q : Bool → Hp → Prop} (h : rdT K W (orT f g) σ H Q) : tOr (rdT K W f) (rdT K W g) σ H Q := by
  refine h.first fun c F H1 δ b v r1 d1 z1 => ?_
  cases (show v = b from d1)
  cases b with
  | true => exact z1 _ F H1 r1 (.refl _) rfl
  | false => exact rd_here r1 z1
theorem vt_not {f : DE → R Bool} (h : VT X W e f) : VT X W (.UnaryOp .Not e pos) (notT f) := PT.to (pt_not h) fun σ H Q z => by
  refine z.first fun c F H1 δ b v r1 d1 z1 => ?_
  cases (show v = b from d1)
  exact z1 _ F H1 r1 (.refl _) rfl
section
variable {b : Expr} {rest : List Expr} {f g : DE → R Bool}
abbrev VW (X : Cx) (W : WX) (e : Expr) (f : DE → R Bool) : Prop := PW X e (rdT X.K W f)
theorem vw_and1 (h : VT X W a f) : VW X W (.BoolOp .And [a] pos) f := pw_and1 h
theorem vw_or1 (h : VT X W a f) : VW X W (.BoolOp .Or [a] pos) f := pw_or1 h
theorem vw_and (h : VT X W a f) (k : VW X W (.BoolOp .And (b :: rest) pos) g) : VW X W (.BoolOp .And (a :: b :: rest) pos) (andT f g) := PW.to (pw_and h k) fun _ _ _ z => rd_and z
theorem vw_or (h : VT X W a f) (k : VW X W (.BoolOp .Or (b :: rest) pos) g) : VW X W (.BoolOp .Or (a :: b :: rest) pos) (orT f g) := PW.to (pw_or h k) fun _ _ _ z => rd_or z
theorem vt_w (h : VW X W e f) : VT X W e f := h.pt
end
/-! and, or, not of truth values, as values -/
def andE (f g : DE → R D) : DE → R D := fun δ => (f δ).bind fun b δ => match b with
  | .bl true => g δ
  | .bl false => .ok (.bl false) δ
  | _ => .stuck
def orE (f g : DE → R D) : DE → R D := fun δ => (f δ).bind fun b δ => match b with
  | .bl true => .ok (.bl true) δ
  | .bl false => g δ
  | _ => .stuck
def notE (f : DE → R D) : DE → R D := fun δ => (f δ).bind fun b δ => match b with
  | .bl b => .ok (.bl (!b)) δ
  | _ => .stuck
section
variable {b : Expr} {rest : List Expr}
theorem ve_one {op} (h : VE X W a fa) : VE X W (.BoolOp op [a] pos) fa := pe_one h
theorem ve_and (h : VE X W a fa) (k : VE X W (.BoolOp .And (b :: rest) pos) fb) : VE X W (.BoolOp .And (a :: b :: rest) pos) (andE fa fb) := PE.to (pe_and h k) fun σ H Q z => by
  refine z.first fun c F H1 δ x v r1 d1 z1 => ?_
  cases x <;> first | exact False.elim z1 | skip
  rename_i k
  refine ⟨k, d1, ?_⟩
  cases k with
  | true => exact rd_here r1 z1
  | false => exact z1 _ F H1 r1 (.refl _) rfl
theorem ve_or (h : VE X W a fa) (k : VE X W (.BoolOp .Or (b :: rest) pos) fb) : VE X W (.BoolOp .Or (a :: b :: rest) pos) (orE fa fb) := PE.to (pe_or h k) fun σ H Q z => by
  refine z.first fun c F H1 δ x v r1 d1 z1 => ?_
  cases x <;> first | exact False.elim z1 | skip
  rename_i k
  refine ⟨k, d1, ?_⟩
  cases k with
  | true => exact z1 _ F H1 r1 (.refl _) rfl
  | false => exact rd_here r1 z1
theorem ve_not (h : VE X W a fa) : VE X W (.UnaryOp .Not a pos) (notE fa) := PE.to (pe_not h) fun σ H Q z => by
  refine z.first fun c F H1 δ x v r1 d1 z1 => ?_
  cases x <;> first | exact False.elim z1 | skip
  exact ⟨_, d1, z1 _ F H1 r1 (.refl _) rfl⟩
end
/-- x if t else y -/
def ifE (t : DE → R Bool) (f g : DE → R D) : DE → R D := fun δ => (t δ).bind fun b δ => if b = true then f δ else g δ
theorem ve_if {c : Expr} {ft : DE → R Bool} (hc : VT X W c ft) (ha : VE X W a fa) (hb : VE X W b fb) : VE X W (.IfExp c a b pos) (ifE ft fa fb) := PE.to (pe_ifExp hc ha hb) fun σ H Q z => by
  refine z.first (DM := dnB) fun c F H1 δ x v r1 d1 z1 => ?_
  cases (show v = x from d1)
  cases x with
  | true => exact rd_here r1 z1
  | false => exact rd_here r1 z1
/-- a op b op' c -/
def chn (o o' : D → D → Option D) (fa fb fc : DE → R D) : DE → R D := fun δ => (fa δ).bind fun x δ => (fb δ).bind fun y δ => (R.of (o x y) δ).bind fun z δ => match z with
  | .bl true => (fc δ).bind fun w δ => R.of (o' y w) δ
  | .bl false => .ok (.bl false) δ
  | _ => .stuck
theorem rd_chn {c : Expr} {fc : DE → R D} {op op' : CmpOp} {o o' : D → D → Option D} (h : Op2 X (compareOp op) o) (h' : Op2 X (compareOp op') o') : ∃ r r', OpR X (compareOp op) r ∧ OpR X (compareOp op') r' ∧
    ∀ σ H Q, rdE X.K W (chn o o' fa fb fc) σ H Q → tChain r r' (rdE X.K W fa) (rdE X.K W fb) (rdE X.K W fc) σ H Q := by
  obtain ⟨r, h1, h2⟩ := h
  obtain ⟨r', h1', h2'⟩ := h'
  refine ⟨r, r', h1, h1', fun σ H Q z => ?_⟩
  refine z.first fun c F H1 δ x v r1 d1 z1 => ?_
  refine z1.next (DM := dnE X.K) r1 fun F2 H2 δ2 y w r2 s2 d2 z2 => ?_
  cases e : o x y with
  | none => rw [e] at z2; exact False.elim z2
  | some q =>
    rw [e] at z2
    refine h2 c F2 H2 σ δ2 x y q v w _ r2 (Den.mono s2 _ _ d1) d2 e fun u F3 H3 r3 s3 d3 => ?_
    cases q <;> first | exact False.elim z2 | skip
    rename_i k
    refine ⟨k, d3, ?_⟩
    have z3 := z2.mono s3 fun _ _ z => z
    cases k with
    | true =>
      refine aft.next (DM := dnE X.K) (f := fc) (g := fun w δ => R.of (o' y w) δ) r3 z3 fun F4 H4 δ4 t w' r4 s4 d4 z4 => ?_
      cases e' : o' y t with
      | none => rw [e'] at z4; exact False.elim z4
      | some q' =>
        rw [e'] at z4
        exact h2' c F4 H4 σ δ4 y t q' w w' Q r4 (Den.mono (s3.trans s4) _ _ d2) d4 e' fun u F' H' r' s' d' => z4 u F' H' r' s' d'
    | false => exact z3 _ F3 H3 r3 (.refl _) rfl
theorem ve_chain {c : Expr} {fc : DE → R D} {op op' : CmpOp} {o o' : D → D → Option D} (h : Op2 X (compareOp op) o) (h' : Op2 X (compareOp op') o') (ha : VE X W a fa) (hb : VE X W b fb) (hc : VE X W c fc)
    (hm : lastMarks [op, op'] [b, c] = false := by with_unfolding_all rfl) : VE X W (.Compare a [op, op'] [b, c] pos) (chn o o' fa fb fc) := by
  obtain ⟨r, r', h1, h2, h3⟩ := rd_chn (W := W) (fa := fa) (fb := fb) (c := c) (fc := fc) h h'
  exact PE.to (pe_chain h1 h2 ha hb hc hm) h3
end
end PV

/-! PV3: what a def is worth; calls; statements. -/
namespace PV
open PySem PySem.Spec PyProof.Rows L2

/-! ### a def as a function -/
inductive FR where
  | ret (d : D) (as : List Sl)
  | exc (x : XD) (as : List Sl)
  | stuck
def ArgOk (K : PySem.W.Frag) (F H : Hp) (s : Sl) (v : V) : Prop :=
  match s with
  | .val d => Den K F d v
  | .bor m => ∃ a o, v = .ref a ∧ H a = some o ∧ MDen K F m o ∧ F a = none
  | .own _ => False
structure AOk (K : PySem.W.Frag) (F H : Hp) (as : List Sl) (vs : List V) : Prop where
  sub : Same F H
  len : as.length = vs.length
  ok : ∀ (i : Nat) (s : Sl) (v : V), as[i]? = some s → vs[i]? = some v → ArgOk K F H s v
  apart : ∀ (i j : Nat) (a : Addr) (m n : MD), as[i]? = some (.bor m) → as[j]? = some (.bor n) → vs[i]? = some (.ref a) → vs[j]? = some (.ref a) → i = j
structure Done (K : PySem.W.Frag) (F H : Hp) (as : List Sl) (vs : List V) (F' H' : Hp) (as' : List Sl) : Prop where
  low : Same F F'
  args : AOk K F' H' as' vs
  new : ∀ b o, F' b = some o → F b = some o ∨ H b = none
  pres : ∀ b o, H b = some o → (∀ (i : Nat) (m : MD), as[i]? = some (.bor m) → vs[i]? ≠ some (.ref b)) → H' b = some o
  keep : ∀ (i : Nat) (m : MD), as[i]? = some (.bor m) → ∃ m', as'[i]? = some (.bor m')
def spV (K : PySem.W.Frag) (φ : List Sl → FR) : Sp := fun vs H Q E => ∃ F as, AOk K F H as vs ∧
  match φ as with
  | .ret d as' => ∀ v F' H', Done K F H as vs F' H' as' → Den K F' d v → Q v H'
  | .exc x as' => ∀ cls od F' H', Done K F H as vs F' H' as' → XOk K F' H' x cls od → E cls od H'
  | .stuck => False

/-! ### a statement -/
inductive O where
  | nx (δ : DE)
  | ret (d : D) (δ : DE)
  | brk (δ : DE)
  | cnt (δ : DE)
  | exc (x : XD) (δ : DE)
  | stuck
def aftS (K : PySem.W.Frag) (W : WX) (N : Ends) (c : Cq) (F : Hp) : O → Prop
  | .nx δ => ∀ σ' F' H', Rel K c F' H' σ' δ → Same F F' → N.nx σ' H'
  | .ret d δ => ∀ v σ' F' H', Rel K c F' H' σ' δ → Same F F' → Den K F' d v → N.rt v H'
  | .brk δ => ∀ σ' F' H', Rel K c F' H' σ' δ → Same F F' → N.bk σ' H'
  | .cnt δ => ∀ σ' F' H', Rel K c F' H' σ' δ → Same F F' → N.ct σ' H'
  | .exc x δ => ∀ cls od σ' F' H', Rel K c F' H' σ' δ → Same F F' → XOk K F' H' x cls od → W cls od σ' H'
  | .stuck => False
def rdS (K : PySem.W.Frag) (W : WX) (g : DE → O) : TS := fun N σ H => ∃ c F δ, Rel K c F H σ δ ∧ aftS K W N c F (g δ)
abbrev VS (X : Cx) (W : WX) (st : Stmt) (g : DE → O) : Prop := PS X st (rdS X.K W g)
abbrev VSs (X : Cx) (W : WX) (st : List Stmt) (g : DE → O) : Prop := PSs X st (rdS X.K W g)
theorem PS.to {X : Cx} {st : Stmt} {t t' : TS} (h : PS X st t) (i : ∀ N σ H, t' N σ H → t N σ H) : PS X st t' := ⟨fun pins s σ H N I z => h.run pins s σ H N I (i N σ H z)⟩
theorem PSs.to {X : Cx} {st : List Stmt} {t t' : TS} (h : PSs X st t) (i : ∀ N σ H, t' N σ H → t N σ H) : PSs X st t' := ⟨fun pins s σ H N I z => h.run pins s σ H N I (i N σ H z)⟩

/-! ### the entry -/
/-- what is handed back of lent things -/
def back : List Sl → DE → List Sl
  | [], _ => []
  | .bor m :: as, some (.bor m') :: δ => .bor m' :: back as δ
  | a :: as, _ :: δ => a :: back as δ
  | a :: as, [] => a :: as
def fnF (n N : Nat) (g : DE → O) : List Sl → FR := fun as =>
  if as.length = n then
    match g (as.map some ++ List.replicate (N - n) none) with
    | .ret d δ => .ret d (back as δ)
    | .nx δ => .ret .non (back as δ)
    | .exc x δ => .exc x (back as δ)
    | _ => .stuck
  else .stuck
theorem back_len : ∀ (as : List Sl) (δ : DE), (back as δ).length = as.length
  | [], _ => rfl
  | .val d :: as, [] => rfl
  | .own d :: as, [] => rfl
  | .bor d :: as, [] => rfl
  | .val d :: as, x :: δ => congrArg (· + 1) (back_len as δ)
  | .own d :: as, x :: δ => congrArg (· + 1) (back_len as δ)
  | .bor d :: as, none :: δ => congrArg (· + 1) (back_len as δ)
  | .bor d :: as, some (.val _) :: δ => congrArg (· + 1) (back_len as δ)
  | .bor d :: as, some (.own _) :: δ => congrArg (· + 1) (back_len as δ)
  | .bor d :: as, some (.bor _) :: δ => congrArg (· + 1) (back_len as δ)
theorem back_val : ∀ {as : List Sl} {δ : DE} {i : Nat} {d : D}, as[i]? = some (.val d) → (back as δ)[i]? = some (.val d)
  | [], _, _, _, h => by simp at h
  | a :: as, [], i, d, h => by cases a <;> exact h
  | .val _ :: as, x :: δ, 0, d, h => h
  | .own _ :: as, x :: δ, 0, d, h => h
  | .bor _ :: as, x :: δ, 0, d, h => by simp at h
  | .val _ :: as, x :: δ, i + 1, d, h => back_val (as := as) (δ := δ) (i := i) h
  | .own _ :: as, x :: δ, i + 1, d, h => back_val (as := as) (δ := δ) (i := i) h
  | .bor _ :: as, none :: δ, i + 1, d, h => back_val (as := as) (δ := δ) (i := i) h
  | .bor _ :: as, some (.val _) :: δ, i + 1, d, h => back_val (as := as) (δ := δ) (i := i) h
  | .bor _ :: as, some (.own _) :: δ, i + 1, d, h => back_val (as := as) (δ := δ) (i := i) h
  | .bor _ :: as, some (.bor _) :: δ, i + 1, d, h => back_val (as := as) (δ := δ) (i := i) h
theorem back_bor : ∀ {as : List Sl} {δ : DE} {i : Nat} {m m' : MD}, as[i]? = some (.bor m) → δ[i]? = some (some (.bor m')) → (back as δ)[i]? = some (.bor m')
  | [], _, _, _, _, h, _ => by simp at h
  | a :: as, [], i, _, _, h, g => by simp at g
  | .val _ :: as, x :: δ, 0, _, _, h, g => by simp at h
  | .own _ :: as, x :: δ, 0, _, _, h, g => by simp at h
  | .bor _ :: as, none :: δ, 0, _, _, h, g => by simp at g
  | .bor _ :: as, some (.val _) :: δ, 0, _, _, h, g => by simp at g
  | .bor _ :: as, some (.own _) :: δ, 0, _, _, h, g => by simp at g
  | .bor _ :: as, some (.bor _) :: δ, 0, _, _, h, g => by
    have g : some (Sl.bor _) = some (Sl.bor _) := Option.some.inj g
    cases g
    rfl
  | .val _ :: as, x :: δ, i + 1, _, _, h, g => back_bor (as := as) (δ := δ) (i := i) h g
  | .own _ :: as, x :: δ, i + 1, _, _, h, g => back_bor (as := as) (δ := δ) (i := i) h g
  | .bor _ :: as, none :: δ, i + 1, _, _, h, g => back_bor (as := as) (δ := δ) (i := i) h g
  | .bor _ :: as, some (.val _) :: δ, i + 1, _, _, h, g => back_bor (as := as) (δ := δ) (i := i) h g
  | .bor _ :: as, some (.own _) :: δ, i + 1, _, _, h, g => back_bor (as := as) (δ := δ) (i := i) h g
  | .bor _ :: as, some (.bor _) :: δ, i + 1, _, _, h, g => back_bor (as := as) (δ := δ) (i := i) h g

/-- the places of lent things -/
def bIx (as : List Sl) : List Nat := (List.range as.length).filter fun i => match as[i]? with
  | some (.bor _) => true
  | _ => false
theorem mem_bIx {as : List Sl} {i : Nat} : i ∈ bIx as ↔ ∃ m, as[i]? = some (.bor m) := by
  unfold bIx
  rw [List.mem_filter, List.mem_range]
  constructor
  · rintro ⟨_, h⟩
    cases e : as[i]? with
    | none => rw [e] at h; cases h
    | some s =>
      rw [e] at h
      cases s <;> first | cases h | skip
      exact ⟨_, rfl⟩
  · rintro ⟨m, e⟩
    exact ⟨(List.getElem?_eq_some_iff.mp e).1, by rw [e]⟩
def adrOf (vs : List V) (i : Nat) : Addr := match vs[i]? with
  | some (.ref a) => a
  | _ => 0
def cq0 (F H : Hp) (as : List Sl) (vs : List V) : Cq := ⟨F, H, fun _ => none, adrOf vs, bIx as⟩

section
variable {K : PySem.W.Frag} {F H : Hp} {as : List Sl} {vs : List V} {N : List Str}
theorem AOk.bor (A : AOk K F H as vs) {i : Nat} {m : MD} (h : as[i]? = some (.bor m)) : ∃ o, vs[i]? = some (.ref (adrOf vs i)) ∧ H (adrOf vs i) = some o ∧ MDen K F m o ∧ F (adrOf vs i) = none := by
  have hl : i < vs.length := by rw [← A.len]; exact (List.getElem?_eq_some_iff.mp h).1
  have e := List.getElem?_eq_getElem hl
  obtain ⟨a, o, e1, e2, e3, e4⟩ := A.ok i _ _ h e
  rw [e1] at e
  have ea : adrOf vs i = a := by unfold adrOf; rw [e]
  rw [ea]
  exact ⟨o, e, e2, e3, e4⟩
theorem start_get {i : Nat} (h : i < vs.length) : (L2.start N vs)[i]? = some (vs[i]?) := by
  unfold L2.start
  rw [List.getElem?_append_left (by rw [List.length_map]; exact h), List.getElem?_map, List.getElem?_eq_getElem h]
  rfl
theorem ent_get {i n : Nat} {s : Sl} (h : (as.map some ++ List.replicate n none : DE)[i]? = some (some s)) : as[i]? = some s := by
  by_cases hi : i < as.length
  · rw [List.getElem?_append_left (by rw [List.length_map]; exact hi), List.getElem?_map] at h
    cases e : as[i]? with
    | none => rw [e] at h; cases h
    | some x => rw [e] at h; cases h; rfl
  · rw [List.getElem?_append_right (by rw [List.length_map]; omega), List.getElem?_replicate] at h
    split at h <;> cases h
theorem ent_of {i n : Nat} {s : Sl} (h : as[i]? = some s) : (as.map some ++ List.replicate n none : DE)[i]? = some (some s) := by
  have hi := (List.getElem?_eq_some_iff.mp h).1
  rw [List.getElem?_append_left (by rw [List.length_map]; exact hi), List.getElem?_map, h]
  rfl
theorem AOk.rel (A : AOk K F H as vs) : Rel K (cq0 F H as vs) F H (L2.start N vs) (as.map some ++ List.replicate (N.length - as.length) none) := by
  have b0 : ∀ i ∈ bIx as, ∃ m o, as[i]? = some (.bor m) ∧ vs[i]? = some (.ref (adrOf vs i)) ∧ H (adrOf vs i) = some o ∧ MDen K F m o ∧ F (adrOf vs i) = none := fun i hi => by
    obtain ⟨m, e⟩ := mem_bIx.mp hi
    obtain ⟨o, h⟩ := A.bor e
    exact ⟨m, o, e, h⟩
  refine ⟨A.sub, fun b o e _ => e, .refl _, fun b o e => .inl e, fun b o e => (nomatch e), fun i hi => ?_, fun i hi => ?_, fun i j hi hj q => ?_, ?_, fun i s e => ?_, fun i j a m n e _ _ _ => ?_⟩
  · obtain ⟨m, o, _, _, h, _⟩ := b0 i hi
    intro z
    have z : H (adrOf vs i) = none := z
    rw [h] at z; cases z
  · obtain ⟨m, o, e, _⟩ := b0 i hi
    exact ⟨m, ent_of e⟩
  · obtain ⟨m, o, e, e1, _⟩ := b0 i hi
    obtain ⟨m', o', e', e1', _⟩ := b0 j hj
    have q : adrOf vs i = adrOf vs j := q
    rw [q] at e1
    exact A.apart i j _ m m' e e' e1 e1'
  · unfold L2.start
    rw [List.length_append, List.length_map, List.length_replicate, List.length_append, List.length_map, List.length_replicate, A.len]
  · have e := ent_get e
    have hl : i < vs.length := by rw [← A.len]; exact (List.getElem?_eq_some_iff.mp e).1
    have hv := List.getElem?_eq_getElem hl
    have ok := A.ok i s _ e hv
    cases s with
    | val d => exact ⟨_, by rw [start_get hl, hv]; rfl, ok⟩
    | own m => exact False.elim ok
    | bor m =>
      obtain ⟨o, h1, h2, h3, h4⟩ := A.bor e
      exact ⟨mem_bIx.mpr ⟨m, e⟩, o, by rw [start_get hl, h1]; rfl, h2, h3, h4, rfl⟩
  · have e := ent_get e
    have hl : i < vs.length := by rw [← A.len]; exact (List.getElem?_eq_some_iff.mp e).1
    exact False.elim (A.ok i _ _ e (List.getElem?_eq_getElem hl))
/-- behind the body -/
theorem AOk.done (A : AOk K F H as vs) {F' H' : Hp} {σ : L2.St} {δ : DE} (r : Rel K (cq0 F H as vs) F' H' σ δ) : Done K F H as vs F' H' (back as δ) := by
  have lent : ∀ (i : Nat) (m : MD), as[i]? = some (.bor m) → ∃ m' o, δ[i]? = some (some (.bor m')) ∧ H' (adrOf vs i) = some o ∧ MDen K F' m' o ∧ F' (adrOf vs i) = none := fun i m e => by
    obtain ⟨m', o, h1, _, h2, h3, h4, _⟩ := r.borAt (mem_bIx.mpr ⟨m, e⟩)
    exact ⟨m', o, h1, h2, h3, h4⟩
  have borB : ∀ {i : Nat} {m : MD}, (back as δ)[i]? = some (.bor m) → ∃ n, as[i]? = some (.bor n) := fun {i m} e => by
    have hl : i < as.length := by rw [← back_len as δ]; exact (List.getElem?_eq_some_iff.mp e).1
    have e0 := List.getElem?_eq_getElem hl
    cases q : as[i] with
    | val d => rw [q] at e0; rw [back_val e0] at e; cases e
    | own n =>
      rw [q] at e0
      exact False.elim (A.ok i _ _ e0 (List.getElem?_eq_getElem (by rw [← A.len]; exact hl)))
    | bor n => rw [q] at e0; exact ⟨n, e0⟩
  refine ⟨r.low, ⟨r.sub, by rw [back_len]; exact A.len, fun i s v e1 e2 => ?_, fun i j a m n e1 e2 e3 e4 => ?_⟩, r.new, fun b o e q => r.pres b o e fun i hi z => ?_, fun i m e => ?_⟩
  · have hl : i < as.length := by rw [← back_len as δ]; exact (List.getElem?_eq_some_iff.mp e1).1
    have e0 := List.getElem?_eq_getElem hl
    cases q : as[i] with
    | val d =>
      rw [q] at e0
      rw [back_val e0] at e1
      cases e1
      exact Den.mono r.low _ _ (A.ok i _ _ e0 e2)
    | own n =>
      rw [q] at e0
      exact False.elim (A.ok i _ _ e0 e2)
    | bor n =>
      rw [q] at e0
      obtain ⟨m', o, h1, h2, h3, h4⟩ := lent i n e0
      rw [back_bor e0 h1] at e1
      cases e1
      obtain ⟨_, g1, _⟩ := A.bor e0
      rw [g1] at e2
      cases e2
      exact ⟨_, o, rfl, h2, h3, h4⟩
  · obtain ⟨_, h1⟩ := borB e1
    obtain ⟨_, h2⟩ := borB e2
    exact A.apart i j a _ _ h1 h2 e3 e4
  · obtain ⟨m, e⟩ := mem_bIx.mp hi
    obtain ⟨_, g1, _⟩ := A.bor e
    have z : adrOf vs i = b := z
    rw [z] at g1
    exact q i m e g1
  · obtain ⟨m', _, h1, _⟩ := lent i m e
    exact ⟨m', back_bor e h1⟩
/-- a promise, as a body's reading -/
theorem sp_body {n : Nat} {g : DE → O} {Q : VK} {E : XK} (h : spV K (fnF n N.length g) vs H Q E) : rdS K (fun cls od _ H => E cls od H) g { nx := fun _ H' => Q .non H', rt := Q } (L2.start N vs) H := by
  obtain ⟨F, as, A, z⟩ := h
  refine ⟨cq0 F H as vs, F, _, A.rel, ?_⟩
  unfold fnF at z
  by_cases hl : as.length = n
  · rw [if_pos hl] at z
    rw [hl]
    cases e : g (as.map some ++ List.replicate (N.length - n) none) with
    | nx δ => rw [e] at z; exact fun σ' F' H' r s => z _ F' H' (A.done r) rfl
    | ret d δ => rw [e] at z; exact fun v σ' F' H' r s d => z v F' H' (A.done r) d
    | brk δ => rw [e] at z; exact False.elim z
    | cnt δ => rw [e] at z; exact False.elim z
    | exc x δ => rw [e] at z; exact fun cls od σ' F' H' r s d => z cls od F' H' (A.done r) d
    | stuck => rw [e] at z; exact False.elim z
  · rw [if_neg hl] at z
    exact False.elim z
end

/-- the def at f is worth φ; g: repr's own marks are none where it is called -/
structure VOk (g : Bool) (P : Program) (w : World) (K : PySem.W.Frag) (mg : Str → Option Value) (base : Heap) (k : Nat) (f : Addr) (fd : FuncData) (ps : List Str) (φ : List Sl → FR) : Prop where
  len : ∀ as, φ as ≠ .stuck → as.length = ps.length
  run : ∀ (A : Around) (outer : List Env) (s : Shared) (H : Hp) (args : Args) (us : List Value) (vs : List V) (Q : VK) (E : XK), Room k A → (g = true → A.guards = some []) → Env0 P w K mg base A outer s H → BindsTo s fd args (ps.zip us) →
    Vals vs us → spV K φ vs H Q E → codeAny (model P w) A (.call (.ref f) args) (CR (L2.CX P w) outer P w H s Q E) s
theorem spV.len {K : PySem.W.Frag} {φ : List Sl → FR} {n : Nat} (hl : ∀ as, φ as ≠ .stuck → as.length = n) {vs : List V} {H : Hp} {Q : VK} {E : XK} (h : spV K φ vs H Q E) : vs.length = n := by
  obtain ⟨F, as, A, z⟩ := h
  rw [← A.len]
  refine hl as fun q => ?_
  rw [q] at z
  exact z
theorem fnF_len {n N : Nat} {g : DE → O} (as : List Sl) (h : fnF n N g as ≠ .stuck) : as.length = n := by
  unfold fnF at h
  by_cases q : as.length = n
  · exact q
  · rw [if_neg q] at h; exact absurd rfl h

end PV

/-! PV4: a def by its body; calls; statements. -/
namespace PV
open PySem PySem.Spec PyProof.Rows L2

theorem guards_in {A : Around} {env : Env} {g : Bool} (h : g = true → A.guards = some []) : g = true → (A.deeper env).guards = some [] := fun z => by
  first | exact h z | simpa [Around.deeper] using h z

/-- the context of a body -/
abbrev cxV (P : Program) (w : World) (K : PySem.W.Frag) (mg : Str → Option Value) (base : Heap) (N : List Str) (qual : Str) (scope : Scope) (f : Addr) (cd : Value) (A : Around) (outer : List Env) (s : Shared) (H : Hp) (E : XK) : Cx :=
  cxOf (L2.CX P w) P w K mg base N qual scope f cd A outer s H E
abbrev wE (E : XK) : WX := fun cls od _ H => E cls od H

section
variable {P : Program} {w : World} {K : PySem.W.Frag} {mg : Str → Option Value} {base : Heap}
/-- a def is worth what its body does -/
theorem Fun.val {x qual : Str} {st : Stmt} {f : Addr} {fd : FuncData} {N ps : List Str} {k n : Nat} {g : Bool} {G : DE → O} (T : Fun K x qual st f fd) (S : FnScope N ps (defScope st)) (hn : ps.length = n)
    (body : ∀ (cd : Value) (A : Around) (outer : List Env) (s : Shared) (H : Hp) (E : XK), Room k (A.deeper (envOfC qual (defScope st) s.heap.objs.size f cd)) → (g = true → (A.deeper (envOfC qual (defScope st) s.heap.objs.size f cd)).guards = some []) →
      Takes (cxV P w K mg base N qual (defScope st) f cd A outer s H E) (wE E) → VSs (cxV P w K mg base N qual (defScope st) f cd A outer s H E) (wE E) (defBody st) G) :
    VOk g P w K mg base (k + 1) f fd ps (fnF n N.length G) := by
  obtain ⟨oc, od, kV, doc, pm, an, cd, ct, osl, rfl, lk, hc⟩ := T.ex
  refine ⟨fun as h => by rw [hn]; exact fnF_len as h, fun A outer s H args us vs Q E room gd en hb rv sp => ?_⟩
  have stays : ∀ b o, base.get? b = some o → s.heap.get? b = some o := fun b o e => (en.bs b o e).1
  have hl : vs.length = ps.length := by rw [hn]; exact spV.len fnF_len sp
  have kinds : ∀ y ∈ ps.zip us, (defScope st).names.lookup y.1 = some .local ∨ ((defScope st).names.lookup y.1 = some .cell ∧ ((cellsFrom (s.heap.objs.size + 1) (defScope st).names []).lookup y.1).isSome = true) := by
    rintro ⟨nm, vl⟩ hy
    rcases S.par nm (List.of_mem_zip hy).1 with q | q
    · left; exact q
    · right; exact ⟨q, PySem.W.cellsFrom_some _ _ _ (Or.inl q)⟩
  refine codeAny_call_function room.depth ((en.mod.kin.keeps stays) _ _ lk) rfl S.co S.gen rfl (PySem.W.codeRec_of (en.mod.kin.keeps stays) hc) (hb _ _ _ _ ?_)
  refine wpAny_newFunctionEnv_cells S.kind kinds fun env he s1 inC => ?_
  subst he
  refine ⟨(en.mod.nolimit.keeps stays).keeps inC.toInCall.keep, codeAny_func ?_⟩
  have tk : Takes (cxV P w K mg base N qual (defScope st) f cd A outer s H E) (wE E) := takes_of rfl rfl rfl rfl
  have J := inv_start (CX := L2.CX P w) (E := E) S room.hd en hl rv inC
  refine wpAny_mono ((body cd A outer s H E (room.deeper _) (guards_in gd) tk).run [] s1 (L2.start N vs) H _ J (sp_body sp)) (fun fl s' hs => ?_) fun e s' hs => hs
  cases fl with
  | ret u =>
    obtain ⟨v, σ', H', J', rv', q⟩ := hs
    exact ⟨v, H', J'.os, J'.bare, J'.base, J'.hok, rv', q⟩
  | next =>
    obtain ⟨σ', H', J', q⟩ := hs
    exact ⟨V.non, H', J'.os, J'.bare, J'.base, J'.hok, rfl, q⟩
  | brk =>
    obtain ⟨_, _, _, q⟩ := hs
    exact q.elim
  | cont =>
    obtain ⟨_, _, _, q⟩ := hs
    exact q.elim
theorem VOk.mono {g : Bool} {j k : Nat} {f : Addr} {fd : FuncData} {ps : List Str} {φ : List Sl → FR} (V0 : VOk g P w K mg base j f fd ps φ) (h : j ≤ k) : VOk g P w K mg base k f fd ps φ :=
  ⟨V0.len, fun A outer s H args us vs Q E room => V0.run A outer s H args us vs Q E (room.mono h)⟩
theorem VOk.gd {k : Nat} {f : Addr} {fd : FuncData} {ps : List Str} {φ : List Sl → FR} (V0 : VOk false P w K mg base k f fd ps φ) {g : Bool} : VOk g P w K mg base k f fd ps φ :=
  ⟨V0.len, fun A outer s H args us vs Q E room _ => V0.run A outer s H args us vs Q E room (fun z => absurd z Bool.false_ne_true)⟩
end

/-! ### arguments -/
def noA : DE → R (List Arg) := fun δ => .ok [] δ
def valA (f : DE → R D) (r : DE → R (List Arg)) : DE → R (List Arg) := fun δ => (f δ).bind fun d δ => (r δ).bind fun as δ => .ok (.val d :: as) δ
/-- the object that a slot may write -/
def mutOf (δ : DE) (i : Nat) : Option (Sl × MD) := match δ[i]? with
  | some (some s) => s.mut.map fun m => (s, m)
  | _ => none
def slotA (i : Nat) (r : DE → R (List Arg)) : DE → R (List Arg) := fun δ => match mutOf δ i with
  | some _ => (r δ).bind fun as δ => .ok (.slot i :: as) δ
  | none => .stuck
theorem mutOf_some {δ : DE} {i : Nat} {s : Sl} {m : MD} (h : mutOf δ i = some (s, m)) : δ[i]? = some (some s) ∧ s.mut = some m := by
  unfold mutOf at h
  split at h
  · rename_i s' e
    cases q : s'.mut with
    | none => rw [q] at h; cases h
    | some m' => rw [q] at h; cases h; exact ⟨e, q⟩
  · cases h
section
variable {X : Cx} {W : WX} {e : Expr} {es : List Expr} {f : DE → R D} {r : DE → R (List Arg)}
theorem va_nil : VA X W [] noA := PA.to pa_nil fun σ H Q h => by
  obtain ⟨c, F, δ, r, z⟩ := h
  exact z [] F H r (.refl _) rfl
theorem va_val (h : VE X W e f) (k : VA X W es r) (hs : starEach (e :: es) X.env = (false, eval e X.env) :: starEach es X.env := by rfl) : VA X W (e :: es) (valA f r) := PA.to (pa_cons h k hs) fun σ H Q z => by
  refine z.first (DM := dnE X.K) fun c F H1 δ x v r1 d1 z1 => ?_
  refine z1.next (DM := dnA X.K) r1 fun F2 H2 δ2 as vs r2 s2 d2 z2 => ?_
  exact z2 _ F2 H2 r2 (.refl _) ⟨v, vs, rfl, Den.mono s2 _ _ d1, d2⟩
/-- a name whose object is lent -/
theorem va_slot (i : Nat) {x : Str} {pos : Pos} (k : VA X W es r) (hN : X.N[i]? = some x := by rfl) (hv : Vis X.env.scope x := by first | exact Or.inl rfl | exact Or.inr (Or.inl rfl) | exact Or.inr (Or.inr rfl))
    (hs : starEach (.Name x pos :: es) X.env = (false, eval (.Name x pos) X.env) :: starEach es X.env := by rfl) (hd : (x == ("__debug__" : Str)) = false := by decide) (hcd : (x == ("__classdict__" : Str)) = false := by decide) :
    VA X W (.Name x pos :: es) (slotA i r) := PA.to (pa_cons (pe_var hN hv hd hcd) k hs) fun σ H Q z => by
  obtain ⟨c, F, δ, r1, z⟩ := z
  unfold slotA at z
  cases e : mutOf δ i with
  | none => rw [e] at z; exact False.elim z
  | some p =>
    obtain ⟨s, m⟩ := p
    rw [e] at z
    obtain ⟨e1, e2⟩ := mutOf_some e
    obtain ⟨a, o, h1, _⟩ := r1.mutAt e1 e2
    refine ⟨.ref a, h1, ?_⟩
    refine aft.next (DM := dnA X.K) (f := r) (g := fun as δ => .ok (.slot i :: as) δ) r1 z fun F2 H2 δ2 as vs r2 s2 d2 z2 => ?_
    exact z2 _ F2 H2 r2 (.refl _) ⟨_, vs, rfl, h1, d2⟩
end

/-! ### a call -/
def lend (δ : DE) : List Arg → Option (List Sl)
  | [] => some []
  | .val d :: as => (lend δ as).map fun r => .val d :: r
  | .slot i :: as => match mutOf δ i with
    | some (_, m) => (lend δ as).map fun r => .bor m :: r
    | none => none
def slots : List Arg → List Nat
  | [] => []
  | .val _ :: as => slots as
  | .slot i :: as => i :: slots as
def unlend (δ : DE) : List Arg → List Sl → DE
  | .slot i :: as, .bor m :: r => match mutOf δ i with
    | some (s, _) => (unlend δ as r).set i (some (s.wr m))
    | none => unlend δ as r
  | _ :: as, _ :: r => unlend δ as r
  | _, _ => δ
def callF (φ : List Sl → FR) (fa : DE → R (List Arg)) : DE → R D := fun δ => (fa δ).bind fun as δ =>
  if (slots as).Nodup then
    match lend δ as with
    | none => .stuck
    | some ss => match φ ss with
      | .ret d ss' => .ok d (unlend δ as ss')
      | .exc x ss' => .exc x (unlend δ as ss')
      | .stuck => .stuck
  else .stuck

section
variable {K : PySem.W.Frag} {c : Cq} {F H : Hp} {σ : L2.St} {δ : DE}
/-- two slots whose objects may be written have two objects -/
theorem Rel.mutApart (r : Rel K c F H σ δ) {i j : Nat} {s t : Sl} {m n : MD} {a : Addr} (h1 : δ[i]? = some (some s)) (h2 : s.mut = some m) (h3 : δ[j]? = some (some t)) (h4 : t.mut = some n) (h5 : σ[i]? = some (some (.ref a))) (h6 : σ[j]? = some (some (.ref a))) : i = j := by
  have lent : ∀ {k : Nat} {q : MD}, δ[k]? = some (some (.bor q)) → σ[k]? = some (some (.ref a)) → k ∈ c.bs ∧ c.adr k = a := fun {k q} e1 e2 => by
    obtain ⟨hb, _, w, _⟩ := r.sl k _ e1
    rw [getD_some w] at e2
    exact ⟨hb, V.ref.inj (Option.some.inj (Option.some.inj e2))⟩
  have own0 : ∀ {k : Nat} {q : MD}, δ[k]? = some (some (.own q)) → σ[k]? = some (some (.ref a)) → c.H0 a = none := fun {k q} e1 e2 => by
    obtain ⟨_, _, w, _, _, _, _, w2⟩ := r.own e1
    rw [e2] at w; cases w
    exact w2
  cases s with
  | val d => cases h2
  | own m1 =>
    cases t with
    | val d => cases h4
    | own n1 => exact r.apart i j a _ _ h1 h3 h5 h6
    | bor n1 =>
      obtain ⟨b1, b2⟩ := lent h3 h6
      have := r.bor0 j b1
      rw [b2] at this
      exact absurd (own0 h1 h5) this
  | bor m1 =>
    obtain ⟨b1, b2⟩ := lent h1 h5
    cases t with
    | val d => cases h4
    | own n1 =>
      have := r.bor0 i b1
      rw [b2] at this
      exact absurd (own0 h3 h6) this
    | bor n1 =>
      obtain ⟨b3, b4⟩ := lent h3 h6
      exact r.binj i j b1 b3 (b2.trans b4.symm)

theorem ArgsD.len : ∀ {as : List Arg} {vs : List V}, ArgsD K F σ as vs → vs.length = as.length
  | [], _, h => by rw [show _ = _ from h]; rfl
  | _ :: _, _, ⟨v, r, e, _, h⟩ => by rw [e, List.length_cons, List.length_cons, h.len]
theorem ArgsD.get : ∀ {as : List Arg} {vs : List V} {k : Nat} {a : Arg}, ArgsD K F σ as vs → as[k]? = some a → ∃ v, vs[k]? = some v ∧ ArgD K F σ a v
  | [], _, k, _, _, h => by simp at h
  | x :: _, _, 0, a, ⟨v, r, e, h1, _⟩, h => by
    have q : x = a := by simpa using h
    rw [e, ← q]
    exact ⟨v, rfl, h1⟩
  | _ :: as, _, k + 1, a, ⟨v, r, e, _, h2⟩, h => by
    obtain ⟨w, h3, h4⟩ := ArgsD.get (k := k) (a := a) h2 (by simpa using h)
    rw [e]
    exact ⟨w, by simpa using h3, h4⟩
theorem lend_len : ∀ {as : List Arg} {ss : List Sl}, lend δ as = some ss → ss.length = as.length
  | [], _, h => by cases h; rfl
  | .val d :: as, ss, h => by
    obtain ⟨r, e, q⟩ := Option.map_eq_some_iff.mp h
    rw [← q, List.length_cons, List.length_cons, lend_len e]
  | .slot i :: as, ss, h => by
    unfold lend at h
    split at h
    · obtain ⟨r, e, q⟩ := Option.map_eq_some_iff.mp h
      rw [← q, List.length_cons, List.length_cons, lend_len e]
    · cases h
theorem lend_get : ∀ {as : List Arg} {ss : List Sl} {k : Nat} {s : Sl}, lend δ as = some ss → ss[k]? = some s → (∃ d, as[k]? = some (.val d) ∧ s = .val d) ∨ ∃ i t m, as[k]? = some (.slot i) ∧ mutOf δ i = some (t, m) ∧ s = .bor m
  | [], _, k, _, h, g => by cases h; simp at g
  | .val d :: as, ss, 0, s, h, g => by
    obtain ⟨r, e, q⟩ := Option.map_eq_some_iff.mp h
    rw [← q] at g
    have g : Sl.val d = s := by simpa using g
    exact .inl ⟨d, rfl, g.symm⟩
  | .val d :: as, ss, k + 1, s, h, g => by
    obtain ⟨r, e, q⟩ := Option.map_eq_some_iff.mp h
    rw [← q] at g
    have := lend_get (k := k) (s := s) e (by simpa using g)
    simpa using this
  | .slot i :: as, ss, 0, s, h, g => by
    unfold lend at h
    split at h
    · rename_i t m e'
      obtain ⟨r, e, q⟩ := Option.map_eq_some_iff.mp h
      rw [← q] at g
      have g : Sl.bor m = s := by simpa using g
      exact .inr ⟨i, t, m, rfl, e', g.symm⟩
    · cases h
  | .slot i :: as, ss, k + 1, s, h, g => by
    unfold lend at h
    split at h
    · obtain ⟨r, e, q⟩ := Option.map_eq_some_iff.mp h
      rw [← q] at g
      have := lend_get (k := k) (s := s) e (by simpa using g)
      simpa using this
    · cases h
theorem slots_mem : ∀ {as : List Arg} {k i : Nat}, as[k]? = some (.slot i) → i ∈ slots as
  | [], _, _, h => by simp at h
  | .val d :: as, 0, _, h => by simp at h
  | .val d :: as, k + 1, _, h => slots_mem (as := as) (k := k) (by simpa using h)
  | .slot j :: as, 0, i, h => by
    have q : j = i := by simpa using h
    rw [q]
    exact List.mem_cons_self
  | .slot j :: as, k + 1, i, h => List.mem_cons_of_mem _ (slots_mem (as := as) (k := k) (by simpa using h))
theorem slots_inj : ∀ {as : List Arg} {k l i : Nat}, (slots as).Nodup → as[k]? = some (.slot i) → as[l]? = some (.slot i) → k = l
  | [], _, _, _, _, h, _ => by simp at h
  | .val d :: as, 0, _, _, _, h, _ => by simp at h
  | .val d :: as, _ + 1, 0, _, _, _, h => by simp at h
  | .val d :: as, k + 1, l + 1, i, n, h, g => congrArg (· + 1) (slots_inj (as := as) (k := k) (l := l) n (by simpa using h) (by simpa using g))
  | .slot j :: as, 0, 0, _, _, _, _ => rfl
  | .slot j :: as, 0, l + 1, i, n, h, g => by
    have q : j = i := by simpa using h
    exact absurd (slots_mem (as := as) (k := l) (by simpa using g)) (q ▸ (List.nodup_cons.mp n).1)
  | .slot j :: as, k + 1, 0, i, n, h, g => by
    have q : j = i := by simpa using g
    exact absurd (slots_mem (as := as) (k := k) (by simpa using h)) (q ▸ (List.nodup_cons.mp n).1)
  | .slot j :: as, k + 1, l + 1, i, n, h, g => congrArg (· + 1) (slots_inj (as := as) (k := k) (l := l) (List.nodup_cons.mp n).2 (by simpa using h) (by simpa using g))
theorem unlend_len : ∀ (as : List Arg) (ss : List Sl), (unlend δ as ss).length = δ.length
  | [], _ => by unfold unlend; rfl
  | .val d :: as, [] => by unfold unlend; rfl
  | .val d :: as, s :: ss => by unfold unlend; exact unlend_len as ss
  | .slot i :: as, [] => by unfold unlend; rfl
  | .slot i :: as, .val _ :: ss => by unfold unlend; exact unlend_len as ss
  | .slot i :: as, .own _ :: ss => by unfold unlend; exact unlend_len as ss
  | .slot i :: as, .bor m :: ss => by
    unfold unlend
    split
    · rw [List.length_set]; exact unlend_len as ss
    · exact unlend_len as ss
theorem unlend_out : ∀ {as : List Arg} {ss : List Sl} {j : Nat}, j ∉ slots as → (unlend δ as ss)[j]? = δ[j]?
  | [], _, _, _ => by unfold unlend; rfl
  | .val d :: as, [], _, _ => by unfold unlend; rfl
  | .val d :: as, s :: ss, j, h => by unfold unlend; exact unlend_out (as := as) h
  | .slot i :: as, [], _, _ => by unfold unlend; rfl
  | .slot i :: as, .val _ :: ss, j, h => by unfold unlend; exact unlend_out (as := as) fun z => h (List.mem_cons_of_mem _ z)
  | .slot i :: as, .own _ :: ss, j, h => by unfold unlend; exact unlend_out (as := as) fun z => h (List.mem_cons_of_mem _ z)
  | .slot i :: as, .bor m :: ss, j, h => by
    have hj : i ≠ j := fun q => h (by rw [q]; exact List.mem_cons_self)
    unfold unlend
    split
    · rw [List.getElem?_set_ne hj]; exact unlend_out (as := as) fun z => h (List.mem_cons_of_mem _ z)
    · exact unlend_out (as := as) fun z => h (List.mem_cons_of_mem _ z)
theorem unlend_in : ∀ {as : List Arg} {ss : List Sl} {k i : Nat} {t : Sl} {m m' : MD}, (slots as).Nodup → as[k]? = some (.slot i) → ss[k]? = some (.bor m') → mutOf δ i = some (t, m) → (unlend δ as ss)[i]? = some (some (t.wr m'))
  | [], _, _, _, _, _, _, _, h, _, _ => by simp at h
  | .val d :: as, [], _, _, _, _, _, _, _, h, _ => by simp at h
  | .slot d :: as, [], _, _, _, _, _, _, _, h, _ => by simp at h
  | .val d :: as, s :: ss, 0, _, _, _, _, _, h, _, _ => by simp at h
  | .val d :: as, s :: ss, k + 1, i, t, m, m', n, h, g, e => by
    unfold unlend
    exact unlend_in (as := as) (ss := ss) (k := k) n (by simpa using h) (by simpa using g) e
  | .slot j :: as, s :: ss, 0, i, t, m, m', n, h, g, e => by
    have q : j = i := by simpa using h
    have g : s = .bor m' := by simpa using g
    subst q g
    unfold unlend
    rw [e]
    have hl : j < δ.length := (List.getElem?_eq_some_iff.mp (mutOf_some e).1).1
    exact List.getElem?_set_self (by rw [unlend_len]; exact hl)
  | .slot j :: as, s :: ss, k + 1, i, t, m, m', n, h, g, e => by
    have ih := unlend_in (as := as) (ss := ss) (k := k) (List.nodup_cons.mp n).2 (by simpa using h) (by simpa using g) e
    have hj : j ≠ i := fun q => (List.nodup_cons.mp n).1 (q ▸ slots_mem (as := as) (k := k) (by simpa using h))
    cases s with
    | val d => unfold unlend; exact ih
    | own d => unfold unlend; exact ih
    | bor d =>
      unfold unlend
      split
      · rw [List.getElem?_set_ne hj]; exact ih
      · exact ih

theorem Sl.mut_wr {s : Sl} {m n : MD} (h : s.mut = some m) : (s.wr n).mut = some n := by
  cases s with
  | val d => cases h
  | own d => rfl
  | bor d => rfl
theorem Rel.lent (r : Rel K c F H σ δ) {as : List Arg} {ss : List Sl} {vs : List V} (nd : (slots as).Nodup) (hl : lend δ as = some ss) (ha : ArgsD K F σ as vs) : AOk K F H ss vs := by
  refine ⟨r.sub, by rw [lend_len hl, ha.len], fun k s v e1 e2 => ?_, fun k l a m n e1 e2 e3 e4 => ?_⟩
  · rcases lend_get hl e1 with ⟨d, h1, rfl⟩ | ⟨i, t, m, h1, h2, rfl⟩
    · obtain ⟨v', g1, g2⟩ := ha.get h1
      rw [g1] at e2; cases e2
      exact g2
    · obtain ⟨v', g1, g2⟩ := ha.get h1
      rw [g1] at e2
      have ev : v' = v := Option.some.inj e2
      subst ev
      obtain ⟨q1, q2⟩ := mutOf_some h2
      obtain ⟨a, o, w1, w2, w3, w4⟩ := r.mutAt q1 q2
      have g2 : σ[i]? = some (some v') := g2
      rw [w1] at g2; cases g2
      exact ⟨a, o, rfl, w2, w3, w4⟩
  · rcases lend_get hl e1 with ⟨d, _, z⟩ | ⟨i, t, m1, h1, h2, _⟩
    · cases z
    rcases lend_get hl e2 with ⟨d, _, z⟩ | ⟨j, u, n1, g1, g2, _⟩
    · cases z
    obtain ⟨v1, x1, x2⟩ := ha.get h1
    obtain ⟨v2, y1, y2⟩ := ha.get g1
    rw [x1] at e3; cases e3
    rw [y1] at e4; cases e4
    have ij := r.mutApart (mutOf_some h2).1 (mutOf_some h2).2 (mutOf_some g2).1 (mutOf_some g2).2 x2 y2
    subst ij
    exact slots_inj nd h1 g1
/-- behind a call -/
theorem Rel.called (r : Rel K c F H σ δ) {as : List Arg} {ss ss' : List Sl} {vs : List V} {F' H' : Hp} (nd : (slots as).Nodup) (hl : lend δ as = some ss) (ha : ArgsD K F σ as vs) (z : Done K F H ss vs F' H' ss') : Rel K c F' H' σ (unlend δ as ss') := by
  -- a lent slot, before and behind
  have lent : ∀ {i : Nat}, i ∈ slots as → ∃ (k : Nat) (t : Sl) (m m' : MD) (a : Addr) (o : HO), as[k]? = some (.slot i) ∧ δ[i]? = some (some t) ∧ t.mut = some m ∧ σ[i]? = some (some (.ref a)) ∧ ss[k]? = some (.bor m) ∧ vs[k]? = some (.ref a) ∧ (unlend δ as ss')[i]? = some (some (t.wr m')) ∧ H' a = some o ∧ MDen K F' m' o ∧ F' a = none := by
    intro i hi
    have : ∀ {as : List Arg}, i ∈ slots as → ∃ (k : Nat), as[k]? = some (Arg.slot i) := by
      intro as
      induction as with
      | nil => intro h; cases h
      | cons x as ih =>
        intro h
        cases x with
        | val d => obtain ⟨k, e⟩ := ih h; exact ⟨k + 1, by simpa using e⟩
        | slot j =>
          rcases List.mem_cons.mp h with q | q
          · exact ⟨0, by rw [q]; rfl⟩
          · obtain ⟨k, e⟩ := ih q; exact ⟨k + 1, by simpa using e⟩
    obtain ⟨k, ek⟩ := this hi
    have hk : k < ss.length := by rw [lend_len hl]; exact (List.getElem?_eq_some_iff.mp ek).1
    have es := List.getElem?_eq_getElem hk
    rcases lend_get hl es with ⟨d, h1, _⟩ | ⟨i', t, m, h1, h2, h3⟩
    · rw [ek] at h1; cases h1
    rw [ek] at h1; cases h1
    rw [h3] at es
    obtain ⟨q1, q2⟩ := mutOf_some h2
    obtain ⟨a, o, w1, w2, w3, w4⟩ := r.mutAt q1 q2
    obtain ⟨v', g1, g2⟩ := ha.get ek
    have g2 : σ[i]? = some (some v') := g2
    rw [w1] at g2; cases g2
    obtain ⟨m', em'⟩ := z.keep k m es
    obtain ⟨a', o', x1, x2, x3, x4⟩ := z.args.ok k _ _ em' g1
    cases x1
    exact ⟨k, t, m, m', a, o', ek, q1, q2, w1, es, g1, unlend_in nd ek em' h2, x2, x3, x4⟩
  -- what is not lent
  have notB : ∀ {b : Addr} {o : HO}, H b = some o → (∀ (i : Nat) (t : Sl) (m : MD), i ∈ slots as → δ[i]? = some (some t) → t.mut = some m → σ[i]? ≠ some (some (.ref b))) → H' b = some o := fun {b o} e q => by
    refine z.pres b o e fun k m ek => ?_
    rcases lend_get hl ek with ⟨d, _, y⟩ | ⟨i, t, m1, h1, h2, _⟩
    · cases y
    obtain ⟨v', g1, g2⟩ := ha.get h1
    intro y
    rw [g1] at y; cases y
    exact q i t m1 (slots_mem h1) (mutOf_some h2).1 (mutOf_some h2).2 g2
  have outF : ∀ {a : Addr} {o : HO}, H a = some o → F a = none → F' a = none := fun {a o} e1 e2 => by
    cases q : F' a with
    | none => rfl
    | some x =>
      rcases z.new a x q with y | y
      · rw [e2] at y; cases y
      · rw [e1] at y; cases y
  have same : ∀ {j : Nat}, j ∉ slots as → (unlend δ as ss')[j]? = δ[j]? := fun h => unlend_out h
  refine ⟨z.args.sub, fun b o e q => notB (r.pres b o e q) fun i t m hi e1 e2 e3 => ?_, r.low.trans z.low, fun b o e => ?_, fun b o e => ?_, r.bor0, fun i hi => ?_, r.binj, by rw [unlend_len]; exact r.len, fun i s e => ?_, fun i j a m n e1 e2 e3 e4 => ?_⟩
  · cases t with
    | val d => cases e2
    | own n =>
      obtain ⟨_, _, w, _, _, _, _, w2⟩ := r.own e1
      rw [e3] at w; cases w
      rw [e] at w2; cases w2
    | bor n =>
      obtain ⟨hb, _, w, _⟩ := r.sl i _ e1
      rw [getD_some w] at e3
      exact q i hb (V.ref.inj (Option.some.inj (Option.some.inj e3)))
  · rcases z.new b o e with y | y
    · exact r.new b o y
    · exact .inr (r.free y)
  · obtain ⟨g1, g2⟩ := r.gs b o e
    refine ⟨notB g1 fun i t m hi e1 e2 e3 => ?_, outF g1 g2⟩
    cases t with
    | val d => cases e2
    | own n =>
      obtain ⟨_, _, w, _, _, _, w1, w2⟩ := r.own e1
      rw [e3] at w; cases w
      rw [e] at w1; cases w1
    | bor n =>
      obtain ⟨hb, _, w, _, _, _, w1⟩ := r.sl i _ e1
      rw [getD_some w] at e3
      have y := V.ref.inj (Option.some.inj (Option.some.inj e3))
      rw [y, e] at w1; cases w1
  · obtain ⟨m, em⟩ := r.borD i hi
    by_cases q : i ∈ slots as
    · obtain ⟨k, t, _, m', _, _, _, e1, _, _, _, _, e2, _⟩ := lent q
      rw [em] at e1; cases e1
      exact ⟨m', e2⟩
    · rw [same q]; exact ⟨m, em⟩
  · by_cases q : i ∈ slots as
    · obtain ⟨k, t, m, m', a, o, ek, e1, e2, e3, e4, e5, e6, e7, e8, e9⟩ := lent q
      rw [e6] at e
      cases e
      have ok := r.sl i _ e1
      cases t with
      | val d => cases e2
      | own n =>
        obtain ⟨a', o', w1, w2, w3, w4, w5, w6⟩ := ok
        rw [e3] at w1; cases w1
        exact ⟨a, o, by rw [e3]; rfl, e7, e8, e9, w5, w6⟩
      | bor n =>
        obtain ⟨hb, o', w1, w2, w3, w4, w5⟩ := ok
        rw [e3] at w1
        have y : a = c.adr i := V.ref.inj (Option.some.inj w1)
        subst y
        exact ⟨hb, o, by rw [e3]; rfl, e7, e8, e9, w5⟩
    · rw [same q] at e
      refine (r.sl i s e).to z.low (fun a o h1 h2 _ _ => outF h1 h2) fun a o z0 z1 z2 z3 => notB z2 fun j t m hj e1 e2 e3 => ?_
      have hs : ∃ n, s.mut = some n := by
        cases s with
        | val d => exact absurd rfl (z0 d)
        | own n => exact ⟨n, rfl⟩
        | bor n => exact ⟨n, rfl⟩
      obtain ⟨n, hs⟩ := hs
      have := r.mutApart e hs e1 e2 (getD_some z1) e3
      subst this
      exact q hj
  · have own0 : ∀ {j : Nat} {n : MD}, (unlend δ as ss')[j]? = some (some (Sl.own n)) → ∃ n', δ[j]? = some (some (Sl.own n')) := fun {j n} g => by
      by_cases q : j ∈ slots as
      · obtain ⟨k, t, m, m', a, o, ek, e1, e2, _, _, _, e6, _⟩ := lent q
        rw [e6] at g
        cases t with
        | val d => cases e2
        | own x => exact ⟨x, e1⟩
        | bor x => cases g
      · rw [same q] at g; exact ⟨n, g⟩
    obtain ⟨_, h1⟩ := own0 e1
    obtain ⟨_, h2⟩ := own0 e2
    exact r.apart i j a _ _ h1 h2 e3 e4
end

section
variable {X : Cx} {W : WX} {k : Nat} {f : Addr} {fd : FuncData} {ps : List Str} {φ : List Sl → FR} {x : Str} {p pos : Pos} {e : Expr} {es : List Expr} {fa : DE → R (List Arg)} {g : Bool}
theorem rd_call {σ : L2.St} {H : Hp} {Q : VK} (h : rdE X.K W (callF φ fa) σ H Q) : rdA X.K W fa σ H fun vs H1 => spV X.K φ vs H1 Q (WE W σ) := by
  refine h.first (DM := dnA X.K) fun c F H1 δ as vs r1 d1 z1 => ?_
  by_cases nd : (slots as).Nodup
  · rw [if_pos nd] at z1
    cases hl : lend δ as with
    | none => rw [hl] at z1; exact False.elim z1
    | some ss =>
      rw [hl] at z1
      refine ⟨F, ss, r1.lent nd hl d1, ?_⟩
      have z1 : aft X.K W (dnE X.K) c F σ Q (match φ ss with
        | .ret d ss' => .ok d (unlend δ as ss')
        | .exc x ss' => .exc x (unlend δ as ss')
        | .stuck => .stuck) := z1
      cases hq : φ ss with
      | ret d ss' => rw [hq] at z1; exact fun v F' H' dn dd => z1 v F' H' (r1.called nd hl d1 dn) dn.low dd
      | exc x ss' => rw [hq] at z1; exact fun cls od F' H' dn dd => z1 cls od F' H' (r1.called nd hl d1 dn) dn.low dd
      | stuck => rw [hq] at z1; exact z1
  · rw [if_neg nd] at z1; exact False.elim z1
theorem run_V {pins : List (Addr × Obj)} {σ : L2.St} {H : Hp} {s : Shared} {Q : VK} {us : List Value} {vs : List V} (V0 : VOk g X.prog X.w X.K X.mg X.base k f fd ps φ) (room : Room k X.A) (gd : g = true → X.A.guards = some []) (hb : Binds X.K fd ps []) (tk : Takes X W)
    (I : L2.Inv X pins σ H s) (rv : Vals vs us) (h : spV X.K φ vs H Q (WE W σ)) : wpAny (model X.prog X.w) X.A (call (.ref f) us) (EP X pins σ Q) X.xe s := by
  have lu : (us ++ []).length = ps.length := by rw [List.append_nil, ← rv.length]; exact spV.len V0.len h
  have bd := hb s us I.kIn lu
  rw [List.append_nil] at bd
  refine wpAny_call (codeAny_mono (V0.run X.A X.stack s H ⟨us, []⟩ us vs Q (WE W σ) room gd I.env0 bd rv h) fun res s' hq => ?_)
  cases res with
  | error e => exact passAt tk σ pins H s e s' I hq
  | ok fl => cases fl <;> first | exact I.after hq | exact False.elim hq
/-- f(e, ..) of a def -/
theorem ve_call (V0 : VOk g X.prog X.w X.K X.mg X.base k f fd ps φ) (room : Room k X.A) (gd : g = true → X.A.guards = some []) (tk : Takes X W) (hg : Gl X x) (hm : X.mg x = some (.ref f)) (hk : PySem.W.keepIn X.K (.ref f) = true) (hb : Binds X.K fd ps [])
    (ha : VA X W (e :: es) fa) (hdb : (x == ("__debug__" : Str)) = false := by decide) (he : starEach (e :: es) X.env = (false, eval e X.env) :: starEach es X.env := by rfl) (hpl : (backTo pos (starEach es X.env)).any (·.1) = false := by rfl) :
    VE X W (.Call (.Name x p) (e :: es) [] pos) (callF φ fa) := by
  refine ⟨fun pins s σ H Q I h => wpAny_Call_Name_kw (ld_glob I hg hm ?_ hdb)⟩
  exact PySem.W.callWith_K (h₀ := X.base) I.ok.mod.kin hk (thn (ha.run pos pins s σ H _ I (rd_call h)) fun us s1 ⟨vs, H1, I1, rv, q⟩ => ⟨I1.kIn, run_V V0 room gd hb tk I1 rv q⟩) he hpl
end
end PV

/-! PV5: statements, targets, loops. -/
namespace PV
open PySem PySem.Spec PyProof.Rows L2

section
variable {K : PySem.W.Frag} {W : WX} {N N' : Ends} {c : Cq} {F F1 : Hp}
theorem aftS.mono : ∀ {o : O}, aftS K W N c F o → Same F F1 → (∀ σ H, N.nx σ H → N'.nx σ H) → (∀ v H, N.rt v H → N'.rt v H) → (∀ σ H, N.bk σ H → N'.bk σ H) → (∀ σ H, N.ct σ H → N'.ct σ H) → aftS K W N' c F1 o
  | .nx δ, h, s, a, _, _, _ => fun σ' F' H' r e => a _ _ (h σ' F' H' r (s.trans e))
  | .ret d δ, h, s, _, a, _, _ => fun v σ' F' H' r e d => a _ _ (h v σ' F' H' r (s.trans e) d)
  | .brk δ, h, s, _, _, a, _ => fun σ' F' H' r e => a _ _ (h σ' F' H' r (s.trans e))
  | .cnt δ, h, s, _, _, _, a => fun σ' F' H' r e => a _ _ (h σ' F' H' r (s.trans e))
  | .exc x δ, h, s, _, _, _, _ => fun cls od σ' F' H' r e d => h cls od σ' F' H' r (s.trans e) d
  | .stuck, h, _, _, _, _, _ => h
theorem aftS.up {o : O} (h : aftS K W N c F o) (s : Same F F1) : aftS K W N c F1 o := h.mono s (fun _ _ z => z) (fun _ _ z => z) (fun _ _ z => z) fun _ _ z => z
end

/-- an expression, then a statement's end -/
def bindS {α : Type} (r : R α) (g : α → DE → O) : O :=
  match r with
  | .ok a δ => g a δ
  | .exc x δ => .exc x δ
  | .stuck => .stuck
theorem rdS.first {α β : Type} {K : PySem.W.Frag} {W : WX} {DM : Cq → Hp → Hp → L2.St → DE → α → β → Prop} {f : DE → R α} {g : α → DE → O} {N : Ends} {σ : L2.St} {H : Hp} {Q' : β → Hp → Prop} (h : rdS K W (fun δ => bindS (f δ) g) N σ H)
    (k : ∀ c F H1 δ a v, Rel K c F H1 σ δ → DM c F H1 σ δ a v → aftS K W N c F (g a δ) → Q' v H1) : rd K W DM f σ H Q' := by
  obtain ⟨c, F, δ, r, a⟩ := h
  refine ⟨c, F, δ, r, ?_⟩
  have a : aftS K W N c F (bindS (f δ) g) := a
  cases e : f δ with
  | ok x δ1 =>
    rw [e] at a
    exact fun v F' H' r' s d => k c F' H' δ1 x v r' d (a.up s)
  | exc x δ1 =>
    rw [e] at a
    exact fun cls od F' H' r' s d => a cls od σ F' H' r' s d
  | stuck => rw [e] at a; exact a
theorem aftS.next {α β : Type} {K : PySem.W.Frag} {W : WX} {DM : Cq → Hp → Hp → L2.St → DE → α → β → Prop} {f : DE → R α} {g : α → DE → O} {N : Ends} {c : Cq} {F H : Hp} {σ : L2.St} {δ : DE} {Q' : β → Hp → Prop} (r : Rel K c F H σ δ) (h : aftS K W N c F (bindS (f δ) g))
    (k : ∀ F1 H1 δ1 a v, Rel K c F1 H1 σ δ1 → Same F F1 → DM c F1 H1 σ δ1 a v → aftS K W N c F1 (g a δ1) → Q' v H1) : rd K W DM f σ H Q' := by
  refine ⟨c, F, δ, r, ?_⟩
  cases e : f δ with
  | ok x δ1 => rw [e] at h; exact fun v F' H' r' s d => k F' H' δ1 x v r' s d (h.up s)
  | exc x δ1 => rw [e] at h; exact fun cls od F' H' r' s d => h cls od σ F' H' r' s d
  | stuck => rw [e] at h; exact h
theorem rdS.here {K : PySem.W.Frag} {W : WX} {c : Cq} {F H : Hp} {σ : L2.St} {δ : DE} {g : DE → O} {N : Ends} (r : Rel K c F H σ δ) (h : aftS K W N c F (g δ)) : rdS K W g N σ H := ⟨c, F, δ, r, h⟩

def thenS (g h : DE → O) : DE → O := fun δ => match g δ with
  | .nx δ => h δ
  | o => o
def skipS : DE → O := fun δ => .nx δ
def neverS : DE → O := fun _ => .stuck
def retS (f : DE → R D) : DE → O := fun δ => bindS (f δ) fun d δ => .ret d δ
def dropS (f : DE → R D) : DE → O := fun δ => bindS (f δ) fun _ δ => .nx δ
def ifS (t : DE → R Bool) (g h : DE → O) : DE → O := fun δ => bindS (t δ) fun b δ => if b = true then g δ else h δ
/-- a slot that is not lent takes a datum | an own object -/
def setSl (i : Nat) (s : Sl) (δ : DE) : Option DE := match δ[i]? with
  | some (some (.bor _)) => none
  | some _ => some (δ.set i (some s))
  | none => none
def setS (i : Nat) (f : DE → R D) : DE → O := fun δ => bindS (f δ) fun d δ => match setSl i (.val d) δ with
  | some δ => .nx δ
  | none => .stuck
def ownS (i : Nat) (f : DE → R MD) : DE → O := fun δ => bindS (f δ) fun m δ => match setSl i (.own m) δ with
  | some δ => .nx δ
  | none => .stuck
theorem setSl_some {i : Nat} {s : Sl} {δ δ' : DE} (h : setSl i s δ = some δ') : δ' = δ.set i (some s) ∧ ∀ m, δ[i]? ≠ some (some (.bor m)) := by
  unfold setSl at h
  split at h
  · cases h
  · rename_i x hx e
    cases h
    refine ⟨rfl, fun m q => ?_⟩
    rw [e] at q
    exact hx m (Option.some.inj q)
  · cases h

section
variable {X : Cx} {W : WX} {e a b : Expr} {st : Stmt} {rest sts sts' : List Stmt} {g h : DE → O} {f : DE → R D} {pos pos' : Pos}
theorem vss_nil : VSs X W [] skipS := PSs.to pss_nil fun N σ H z => by
  obtain ⟨c, F, δ, r, z⟩ := z
  exact z σ F H r (.refl _)
theorem vss_one (k : VS X W st g) : VSs X W [st] g := pss_one k
theorem rd_then {K : PySem.W.Frag} {N : Ends} {σ : L2.St} {H : Hp} (z : rdS K W (thenS g h) N σ H) : tSeq (rdS K W g) (rdS K W h) N σ H := by
  obtain ⟨c, F, δ, r, z⟩ := z
  refine ⟨c, F, δ, r, ?_⟩
  unfold thenS at z
  cases e : g δ with
  | nx δ1 => rw [e] at z; exact fun σ' F' H' r' s => rdS.here r' (z.up s)
  | ret d δ1 => rw [e] at z; exact z
  | brk δ1 => rw [e] at z; exact z
  | cnt δ1 => rw [e] at z; exact z
  | exc x δ1 => rw [e] at z; exact z
  | stuck => rw [e] at z; exact z
theorem vss_cons (k : VS X W st g) (l : VSs X W rest h) : VSs X W (st :: rest) (thenS g h) := PSs.to (pss_cons k l) fun _ _ _ z => rd_then z
theorem vs_never : VS X W st neverS := PS.to ps_never fun N σ H z => by
  obtain ⟨c, F, δ, r, z⟩ := z
  exact z
theorem vs_pass : VS X W (.Pass pos) skipS := PS.to ps_pass fun N σ H z => by
  obtain ⟨c, F, δ, r, z⟩ := z
  exact z σ F H r (.refl _)
theorem vs_break : VS X W (.Break pos) (fun δ => .brk δ) := PS.to ps_break fun N σ H z => by
  obtain ⟨c, F, δ, r, z⟩ := z
  exact z σ F H r (.refl _)
theorem vs_continue : VS X W (.Continue pos) (fun δ => .cnt δ) := PS.to ps_continue fun N σ H z => by
  obtain ⟨c, F, δ, r, z⟩ := z
  exact z σ F H r (.refl _)
theorem vs_ret (k : VE X W e f) : VS X W (.Return (some e) pos) (retS f) := PS.to (ps_ret k) fun N σ H z =>
  z.first (DM := dnE X.K) fun c F H1 δ x v r1 d1 z1 => z1 v σ F H1 r1 (.refl _) d1
theorem vs_retN : VS X W (.Return none pos) (retS (cst .non)) := PS.to ps_retN fun N σ H z => by
  obtain ⟨c, F, δ, r, z⟩ := z
  exact z .non σ F H r (.refl _) rfl
theorem vs_expr (k : VE X W e f) (hs : swapsWith e none pos.line X.env = pure false := by rfl) : VS X W (.Expr e pos) (dropS f) := PS.to (ps_expr k hs) fun N σ H z =>
  z.first (DM := dnE X.K) fun c F H1 δ x v r1 d1 z1 => z1 σ F H1 r1 (.refl _)
theorem vs_if {t : DE → R Bool} (k : VT X W e t) (l : VSs X W sts g) (m : VSs X W sts' h) : VS X W (.If e sts sts' pos) (ifS t g h) := PS.to (ps_if k l m) fun N σ H z => by
  refine z.first (DM := dnB) fun c F H1 δ x v r1 d1 z1 => ?_
  cases (show v = x from d1)
  cases x with
  | true => exact rdS.here r1 z1
  | false => exact rdS.here r1 z1
theorem rd_set {K : PySem.W.Frag} {i : Nat} {N : Ends} {σ : L2.St} {H : Hp} (z : rdS K W (setS i f) N σ H) : tAsg (rdE K W f) (gName i) N σ H := by
  refine z.first (DM := dnE K) fun c F H1 δ x v r1 d1 z1 => ?_
  cases q : setSl i (.val x) δ with
  | none => rw [q] at z1; exact False.elim z1
  | some δ' =>
    rw [q] at z1
    obtain ⟨rfl, nb⟩ := setSl_some q
    exact z1 _ F H1 (r1.set d1 nb) (.refl _)
theorem vs_set {i : Nat} {x : Str} (hN : X.N.Nodup) (hi : X.N[i]? = some x) (hx : Loc X.env.scope x) (k : VE X W e f) (hs : swapsWith e (some (.Name x pos')) pos.line X.env = pure false := by rfl) (hf : X.fn x = true ∨ X.env.scope.names.lookup x = some .local := by first | exact .inl rfl | exact .inr rfl | assumption) :
    VS X W (.Assign [.Name x pos'] e pos) (setS i f) := PS.to (ps_set hN hi hx k hs hf) fun _ _ _ z => rd_set z
theorem rd_own {K : PySem.W.Frag} {i : Nat} {fm : DE → R MD} {N : Ends} {σ : L2.St} {H : Hp} (z : rdS K W (ownS i fm) N σ H) : tAsg (rdN K W fm) (gName i) N σ H := by
  refine z.first (DM := dnN K) fun c F H1 δ m v r1 d1 z1 => ?_
  cases q : setSl i (.own m) δ with
  | none => rw [q] at z1; exact False.elim z1
  | some δ' =>
    rw [q] at z1
    obtain ⟨rfl, nb⟩ := setSl_some q
    obtain ⟨p, o, rfl, h1, h2, h3, h4, h5, h6⟩ := d1
    exact z1 _ F H1 (r1.setOwn h1 h3 h4 h5 h2 h6 nb) (.refl _)
theorem vs_own {i : Nat} {x : Str} {fm : DE → R MD} (hN : X.N.Nodup) (hi : X.N[i]? = some x) (hx : Loc X.env.scope x) (k : VN X W e fm) (hs : swapsWith e (some (.Name x pos')) pos.line X.env = pure false := by rfl) (hf : X.fn x = true ∨ X.env.scope.names.lookup x = some .local := by first | exact .inl rfl | exact .inr rfl | assumption) :
    VS X W (.Assign [.Name x pos'] e pos) (ownS i fm) := PS.to (ps_set hN hi hx k hs hf) fun _ _ _ z => rd_own z
/-- a new object that is not changed any more -/
def ofN (f : DE → R MD) : DE → R D := fun δ => (f δ).bind fun m δ => .ok m.d δ
theorem rd_ofN {K : PySem.W.Frag} {fm : DE → R MD} {σ : L2.St} {H : Hp} {Q : VK} (z : rdE K W (ofN fm) σ H Q) : rdN K W fm σ H Q := by
  refine z.first (DM := dnN K) fun c F H1 δ m v r1 d1 z1 => ?_
  obtain ⟨p, o, rfl, h1, h2, h3, h4, h5, h6⟩ := d1
  have bne : ∀ i ∈ c.bs, c.adr i ≠ p := fun i hi q => by
    have := r1.bor0 i hi
    rw [q] at this
    exact this h5
  refine z1 _ (upd F p o) H1 ⟨fun b x e => ?_, r1.pres, r1.low.trans (same_new h3), fun b x e => ?_, fun b x e => ⟨(r1.gs b x e).1, ?_⟩, r1.bor0, r1.borD, r1.binj, r1.len, fun i s e => (r1.sl i s e).to (same_new h3) (fun a x y1 y2 y0 y3 => ?_) fun _ _ _ _ y _ => y, r1.apart⟩ (same_new h3) (h2.still h3)
  · by_cases q : b = p
    · subst q; rw [upd_same] at e; cases e; exact h1
    · rw [upd_ne q] at e; exact r1.sub _ _ e
  · by_cases q : b = p
    · subst q; exact .inr h5
    · rw [upd_ne q] at e; exact r1.new _ _ e
  · rw [upd_ne (fun q => by subst q; rw [h4] at e; cases e)]; exact (r1.gs b x e).2
  · rw [upd_ne ?_]; exact y2
    intro q
    subst q
    cases s with
    | val d => exact y0 d rfl
    | own n => exact h6 i n e (getD_some y3)
    | bor n =>
      obtain ⟨hb, _, w, _⟩ := r1.sl i _ e
      have y3 := getD_some y3
      rw [getD_some w] at y3
      exact bne i hb (V.ref.inj (Option.some.inj (Option.some.inj y3)))
theorem ve_new {fm : DE → R MD} (k : VN X W e fm) : VE X W e (ofN fm) := PE.to k fun σ H Q z => rd_ofN z
end

/-! ### targets -/
/-- t takes a datum; ts are its slots -/
def rdG (K : PySem.W.Frag) (ts : List Nat) (t : D → DE → Option DE) : TG := fun v σ H Q => ∃ c F δ d, Rel K c F H σ δ ∧ Den K F d v ∧
  match t d δ with
  | some δ' => ∀ σ', Rel K c F H σ' δ' → σ'.length = σ.length → (∀ j, j ∉ ts → σ'[j]? = σ[j]?) → Q σ' H
  | none => False
abbrev VG (X : Cx) (ts : List Nat) (tg : Expr) (t : D → DE → Option DE) : Prop := PG X tg (rdG X.K ts t)
def rdGs (K : PySem.W.Frag) (ts : List Nat) (t : List D → DE → Option DE) : TGs := fun vs σ H Q => ∃ c F δ ds, Rel K c F H σ δ ∧ Dens K F ds vs ∧
  match t ds δ with
  | some δ' => ∀ σ', Rel K c F H σ' δ' → σ'.length = σ.length → (∀ j, j ∉ ts → σ'[j]? = σ[j]?) → Q σ' H
  | none => False
abbrev VGs (X : Cx) (ts : List Nat) (tg : List Expr) (t : List D → DE → Option DE) : Prop := PGs X tg (rdGs X.K ts t)
theorem PG.to {X : Cx} {e : Expr} {t t' : TG} (h : PG X e t) (i : ∀ v σ H Q, t' v σ H Q → t v σ H Q) : PG X e t' := ⟨fun pins s σ H x v Q I r z => h.run pins s σ H x v Q I r (i _ _ _ _ z)⟩
theorem PGs.to {X : Cx} {e : List Expr} {t t' : TGs} (h : PGs X e t) (i : ∀ v σ H Q, t' v σ H Q → t v σ H Q) : PGs X e t' := ⟨fun pins s σ H x v Q I r z => h.run pins s σ H x v Q I r (i _ _ _ _ z)⟩
def nmG (i : Nat) : D → DE → Option DE := fun d δ => setSl i (.val d) δ
def nilG : List D → DE → Option DE := fun ds δ => match ds with
  | [] => some δ
  | _ => none
def consG (t : D → DE → Option DE) (r : List D → DE → Option DE) : List D → DE → Option DE := fun ds δ => match ds with
  | [] => none
  | d :: ds => (t d δ).bind fun δ => r ds δ
def tupG (n : Nat) (r : List D → DE → Option DE) : D → DE → Option DE := fun d δ => match d with
  | .tup ds => if ds.length = n then r ds δ else none
  | _ => none
section
variable {X : Cx} {ts ts' : List Nat} {e : Expr} {es : List Expr} {t : D → DE → Option DE} {r : List D → DE → Option DE}
theorem vg_name {i : Nat} {x : Str} {pos : Pos} (hN : X.N.Nodup) (hi : X.N[i]? = some x) (hx : Loc X.env.scope x) (hf : X.fn x = true ∨ X.env.scope.names.lookup x = some .local := by first | exact .inl rfl | exact .inr rfl | assumption) : VG X [i] (.Name x pos) (nmG i) :=
  PG.to (pg_name hN hi hx hf) fun v σ H Q z => by
    obtain ⟨c, F, δ, d, r, dd, z⟩ := z
    unfold nmG at z
    cases q : setSl i (.val d) δ with
    | none => rw [q] at z; exact False.elim z
    | some δ' =>
      rw [q] at z
      obtain ⟨rfl, nb⟩ := setSl_some q
      exact z _ (r.set dd nb) (List.length_set) fun j hj => List.getElem?_set_ne (fun y => hj (by rw [y]; exact List.mem_singleton.mpr rfl))
theorem vgs_nil : VGs X [] [] nilG := PGs.to pgs_nil fun v σ H Q z => by
  obtain ⟨c, F, δ, ds, r, dd, z⟩ := z
  unfold nilG at z
  cases ds with
  | nil => exact ⟨dd, z σ r rfl fun _ _ => rfl⟩
  | cons d ds => exact False.elim z
theorem vgs_cons (h : VG X ts e t) (k : VGs X ts' es r) (hs : (assignEach (e :: es) X.env).map (·.2) = assign e X.env :: (assignEach es X.env).map (·.2) := by rfl) : VGs X (ts ++ ts') (e :: es) (consG t r) := PGs.to (pgs_cons h k hs) fun v σ H Q z => by
  obtain ⟨c, F, δ, ds, r1, dd, z⟩ := z
  unfold consG at z
  cases ds with
  | nil => exact False.elim z
  | cons d ds =>
    obtain ⟨v1, vs, rfl, d1, d2⟩ := dd
    refine ⟨v1, vs, rfl, c, F, δ, d, r1, d1, ?_⟩
    have z : match (t d δ).bind (fun δ => r ds δ) with
      | some δ' => ∀ σ', Rel X.K c F H σ' δ' → σ'.length = σ.length → (∀ j, j ∉ ts ++ ts' → σ'[j]? = σ[j]?) → Q σ' H
      | none => False := z
    cases q : t d δ with
    | none => rw [q] at z; exact z
    | some δ1 =>
      rw [q] at z
      intro σ1 r2 l1 n1
      refine ⟨c, F, δ1, ds, r2, d2, ?_⟩
      have z : match r ds δ1 with
        | some δ' => ∀ σ', Rel X.K c F H σ' δ' → σ'.length = σ.length → (∀ j, j ∉ ts ++ ts' → σ'[j]? = σ[j]?) → Q σ' H
        | none => False := z
      cases q2 : r ds δ1 with
      | none => rw [q2] at z; exact z
      | some δ2 =>
        rw [q2] at z
        exact fun σ2 r3 l2 n2 => z σ2 r3 (l2.trans l1) fun j hj => (n2 j fun y => hj (List.mem_append_right _ y)).trans (n1 j fun y => hj (List.mem_append_left _ y))
theorem vg_tup {kt : Nat} {pos : Pos} {n : Nat} (hc : X.calm = true) (k : VGs X ts es r) (hn : (assignEach es X.env).length = n := by rfl) (hst : (assignEach es X.env).findIdx? (·.1) = none := by rfl) :
    VG X ts (.Tuple es kt pos) (tupG n r) := PG.to (pg_tup hc k hn hst) fun v σ H Q z => by
  obtain ⟨c, F, δ, d, r1, dd, z⟩ := z
  unfold tupG at z
  cases d <;> first | exact False.elim z | skip
  rename_i ds
  obtain ⟨a, xs, rfl, h1, h2⟩ := dd
  have z : match (if ds.length = n then r ds δ else none) with
    | some δ' => ∀ σ', Rel X.K c F H σ' δ' → σ'.length = σ.length → (∀ j, j ∉ ts → σ'[j]? = σ[j]?) → Q σ' H
    | none => False := z
  by_cases q : ds.length = n
  · rw [if_pos q] at z
    exact ⟨a, xs, rfl, PV.Same.tup r1.sub h1, by rw [h2.length, q], c, F, δ, ds, r1, h2, z⟩
  · rw [if_neg q] at z; exact False.elim z
end

/-! ### loops -/
/-- what a loop walks: these data, one after the other -/
def ItF (K : PySem.W.Frag) (F0 : Hp) (J : It) (ds : List D) : Prop := ∀ c F H σ δ (i : Nat), Rel K c F H σ δ → Same F0 F →
  (∀ d, ds[i]? = some d → J.go i H ∧ ∀ x H1, J.yld i H x H1 → ∃ F1, Rel K c F1 H1 σ δ ∧ Same F F1 ∧ Den K F1 d x) ∧ (i = ds.length → J.stop i H)
abbrev dnI (K : PySem.W.Frag) : Cq → Hp → Hp → L2.St → DE → List D → It → Prop := fun _ F _ _ _ ds J => ItF K F J ds
abbrev rdI (K : PySem.W.Frag) (W : WX) (f : DE → R (List D)) : TI := rd K W (dnI K) f
abbrev VI (X : Cx) (W : WX) (tg iter : Expr) (f : DE → R (List D)) : Prop := PI X tg iter (rdI X.K W f)
theorem PI.to {X : Cx} {tg e : Expr} {t t' : TI} (h : PI X tg e t) (i : ∀ σ H Q, t' σ H Q → t σ H Q) : PI X tg e t' := ⟨fun pins s σ H Q I z => h.run pins s σ H Q I (i σ H Q z)⟩
def loopF (t : D → DE → Option DE) (g : DE → O) : List D → DE → O
  | [], δ => .nx δ
  | d :: ds, δ => match t d δ with
    | none => .stuck
    | some δ => match g δ with
      | .nx δ => loopF t g ds δ
      | .cnt δ => loopF t g ds δ
      | .brk δ => .nx δ
      | o => o
def forS (f : DE → R (List D)) (t : D → DE → Option DE) (g : DE → O) : DE → O := fun δ => bindS (f δ) fun ds δ => loopF t g ds δ
theorem rd_for {K : PySem.W.Frag} {W : WX} {f : DE → R (List D)} {ts : List Nat} {t : D → DE → Option DE} {g : DE → O} {N : Ends} {σ : L2.St} {H : Hp} (z : rdS K W (forS f t g) N σ H) : tFor (rdI K W f) (rdG K ts t) (rdS K W g) N σ H := by
  refine z.first (DM := dnI K) fun c F H1 δ ds J r1 d1 z1 => ?_
  refine ⟨fun i m σ H => ∃ F' δ, Rel K c F' H σ δ ∧ Same F F' ∧ i + m = ds.length ∧ aftS K W N c F' (loopF t g (ds.drop i) δ), ⟨ds.length, F, δ, r1, .refl _, by omega, z1⟩, ?_⟩
  rintro i m σ H ⟨F2, δ2, r2, s2, em, z2⟩
  obtain ⟨hg, hs⟩ := d1 c F2 H σ δ2 i r2 s2
  by_cases hi : i < ds.length
  · have ed := List.getElem?_eq_getElem hi
    obtain ⟨go, yl⟩ := hg _ ed
    rw [List.drop_eq_getElem_cons hi] at z2
    refine .inr ⟨go, fun σ' H' => ∃ F' δ, Rel K c F' H' σ' δ ∧ Same F F' ∧ aftS K W N c F' (loopF t g (ds.drop (i + 1)) δ), ?_, fun x H3 hy => ?_⟩
    · rintro σ' H' ⟨F3, δ3, r3, s3, z3⟩
      exact ⟨m - 1, by omega, F3, δ3, r3, s3, by omega, z3⟩
    · obtain ⟨F3, r3, s3, d3⟩ := yl x H3 hy
      refine ⟨c, F3, δ2, ds[i], r3, d3, ?_⟩
      unfold loopF at z2
      cases q : t ds[i] δ2 with
      | none => rw [q] at z2; exact z2
      | some δ4 =>
        rw [q] at z2
        intro σ4 r4 _ _
        refine rdS.here r4 ?_
        have z2 : aftS K W N c F2 (match g δ4 with
          | .nx δ => loopF t g (ds.drop (i + 1)) δ
          | .cnt δ => loopF t g (ds.drop (i + 1)) δ
          | .brk δ => .nx δ
          | o => o) := z2
        have z2 := z2.up s3
        cases q2 : g δ4 with
        | nx δ5 => rw [q2] at z2; exact fun σ' F' H' r' s' => ⟨F', δ5, r', (s2.trans s3).trans s', z2.up s'⟩
        | cnt δ5 => rw [q2] at z2; exact fun σ' F' H' r' s' => ⟨F', δ5, r', (s2.trans s3).trans s', z2.up s'⟩
        | brk δ5 => rw [q2] at z2; exact z2
        | ret d δ5 => rw [q2] at z2; exact z2
        | exc x δ5 => rw [q2] at z2; exact z2
        | stuck => rw [q2] at z2; exact z2
  · refine .inl ⟨hs (by omega), ?_⟩
    rw [List.drop_eq_nil_of_le (by omega)] at z2
    exact z2 σ F2 H r2 (.refl _)
theorem vs_for {X : Cx} {W : WX} {tg iter : Expr} {body : List Stmt} {f : DE → R (List D)} {ts : List Nat} {t : D → DE → Option DE} {g : DE → O} {pos : Pos} (hp : PassesOwn (model X.prog X.w) X.A X.env X.xe) (hc : X.calm = true) (hi : VI X W tg iter f) (hg : VG X ts tg t) (hb : VSs X W body g)
    (hs : ∀ x, foldedSetIterable iter X.env x = pure x := by intro _; rfl) : VS X W (.For tg iter body [] pos) (forS f t g) := PS.to (ps_for hp hc hi hg hb hs) fun _ _ _ z => rd_for z
end PV

/-! PV6: displays, slots that are written, comprehensions. -/
namespace PV
open PySem PySem.Spec PyProof.Rows L2

abbrev LIM : Nat := 1000000
theorem lim_le {n : Nat} (h : n ≤ LIM) : n ≤ sizeLine := Nat.le_trans h (by decide)
theorem lim_lt {n : Nat} (h : n < LIM) : n < sizeLine := Nat.lt_of_lt_of_le h (by decide)

/-! ### displays -/
def valsOf : List Arg → Option (List D)
  | [] => some []
  | .val d :: as => (valsOf as).map fun r => d :: r
  | .slot _ :: _ => none
def tupE (fa : DE → R (List Arg)) : DE → R D := fun δ => (fa δ).bind fun as δ => match valsOf as with
  | some ds => if ds.length ≤ LIM then .ok (.tup ds) δ else .stuck
  | none => .stuck
def lstN (fa : DE → R (List Arg)) : DE → R MD := fun δ => (fa δ).bind fun as δ => match valsOf as with
  | some ds => if ds.length ≤ LIM then .ok (.lst ds) δ else .stuck
  | none => .stuck
theorem vals_den {K : PySem.W.Frag} {F : Hp} {σ : L2.St} : ∀ {as : List Arg} {ds : List D} {vs : List V}, valsOf as = some ds → ArgsD K F σ as vs → Dens K F ds vs
  | [], _, _, h, g => by cases h; exact g
  | .val d :: as, ds, vs, h, ⟨v, r, e, g1, g2⟩ => by
    obtain ⟨t, e1, e2⟩ := Option.map_eq_some_iff.mp h
    rw [← e2]
    exact ⟨v, r, e, g1, vals_den e1 g2⟩
  | .slot i :: as, _, _, h, _ => by cases h
section
variable {K : PySem.W.Frag} {c : Cq} {F H : Hp} {σ : L2.St} {δ : DE}
/-- a new object, as an object of one's own -/
theorem Rel.fresh (r : Rel K c F H σ δ) {p : Addr} {o : HO} {m : MD} (hp : H p = none) (hm : MDen K F m o) : Rel K c F (upd H p o) σ δ ∧ dnN K c F (upd H p o) σ δ m (.ref p) := by
  refine ⟨r.tmp hp, p, o, rfl, upd_same, hm, r.freeF hp, r.freeG hp, r.free hp, fun j n e z => ?_⟩
  obtain ⟨a, o', e1, e2, _⟩ := r.own e
  rw [z] at e1; cases e1
  rw [hp] at e2; cases e2
end
section
variable {X : Cx} {W : WX} {es : List Expr} {fa : DE → R (List Arg)} {pos : Pos}
theorem ve_tup {x1} (h : VA X W es fa) : VE X W (.Tuple es x1 pos) (tupE fa) := PE.to (pe_tup h) fun σ H Q z => by
  refine z.first (DM := dnA X.K) fun c F H1 δ as vs r1 d1 z1 => ?_
  cases e : valsOf as with
  | none => rw [e] at z1; exact False.elim z1
  | some ds =>
    rw [e] at z1
    have dd := vals_den e d1
    by_cases hl : ds.length ≤ LIM
    · have z1 : aft X.K W (dnE X.K) c F σ Q (if ds.length ≤ LIM then .ok (.tup ds) δ else .stuck) := z1
      rw [if_pos hl] at z1
      refine ⟨by rw [dd.length]; exact lim_le hl, fun p hp => z1 _ _ _ (r1.lay hp) (same_new (r1.freeF hp)) ⟨p, vs, rfl, .inl (.inl upd_same), Dens.mono (same_new (r1.freeF hp)) _ _ dd⟩⟩
    · have z1 : aft X.K W (dnE X.K) c F σ Q (if ds.length ≤ LIM then .ok (.tup ds) δ else .stuck) := z1
      rw [if_neg hl] at z1; exact False.elim z1
theorem vn_lst (h : VA X W es fa) : VN X W (.List es pos) (lstN fa) := PE.to (pe_lst h) fun σ H Q z => by
  refine z.first (DM := dnA X.K) fun c F H1 δ as vs r1 d1 z1 => ?_
  cases e : valsOf as with
  | none => rw [e] at z1; exact False.elim z1
  | some ds =>
    rw [e] at z1
    have dd := vals_den e d1
    by_cases hl : ds.length ≤ LIM
    · have z1 : aft X.K W (dnN X.K) c F σ Q (if ds.length ≤ LIM then .ok (.lst ds) δ else .stuck) := z1
      rw [if_pos hl] at z1
      refine ⟨by rw [dd.length]; exact lim_le hl, fun p hp => ?_⟩
      obtain ⟨h1, h2⟩ := r1.fresh (o := .lst vs) (m := .lst ds) hp dd
      exact z1 _ _ _ h1 (.refl _) h2
    · have z1 : aft X.K W (dnN X.K) c F σ Q (if ds.length ≤ LIM then .ok (.lst ds) δ else .stuck) := z1
      rw [if_neg hl] at z1; exact False.elim z1
end

/-! ### a list in a slot -/
/-- x.append(e) -/
def appS (i : Nat) (f : DE → R D) : DE → O := fun δ => match mutOf δ i with
  | some (_, .lst _) => bindS (f δ) fun d δ => match mutOf δ i with
    | some (s, .lst l) => if l.length < LIM then .nx (δ.set i (some (s.wr (.lst (l ++ [d]))))) else .stuck
    | _ => .stuck
  | _ => .stuck
theorem mden_lst {K : PySem.W.Frag} {F : Hp} {l : List D} {o : HO} (h : MDen K F (.lst l) o) : ∃ xs, o = .lst xs ∧ Dens K F l xs := by
  cases o <;> first | exact False.elim h | exact ⟨_, rfl, h⟩
section
variable {X : Cx} {W : WX} {e : Expr} {f : DE → R D} {pos : Pos}
theorem vs_append (i : Nat) {x : Str} {px apos cpos : Pos} (k : VE X W e f) (hN : X.N[i]? = some x := by rfl) (hv : Vis X.env.scope x := by first | exact Or.inl rfl | exact Or.inr (Or.inl rfl) | exact Or.inr (Or.inr rfl)) (hd : (x == ("__debug__" : Str)) = false := by decide) (hcd : (x == ("__classdict__" : Str)) = false := by decide)
    (hst : starEach [e] X.env = [(false, eval e X.env)] := by rfl) (hline : (apos.endLine == cpos.line) = true := by rfl) (hs : swapsWith (.Call (.Attribute (.Name x px) "append" apos) [e] [] cpos) none pos.line X.env = pure false := by rfl)
    (hbase : attributeBase (.Name x px) "append" X.env (eval (.Name x px) X.env) = eval (.Name x px) X.env := by rfl)
    (hfew : ((backTo cpos (starEach [e] X.env)).all (fun x => !x.1) && (backToKw cpos (keywordEach [] X.env)).all (fun x => x.1.isSome) && decide ([e].length + ([] : List Keyword).length + (if ([] : List Keyword).isEmpty then 0 else 1) < 30)) = true := by rfl) :
    VS X W (.Expr (.Call (.Attribute (.Name x px) "append" apos) [e] [] cpos) pos) (appS i f) :=
  PS.to (ps_expr (pe_bm PySem.F.plainAttrs_list PySem.F.slot_list_append PySem.F.type_list_append mt_append (pe_var hN hv hd hcd) (pa_cons k pa_nil hst) hbase hfew hline hst (by rfl)) hs) fun N σ H z => by
    obtain ⟨c, F, δ, r, z⟩ := z
    unfold appS at z
    split at z
    · rename_i s0 l0 q0
      obtain ⟨q1, q2⟩ := mutOf_some q0
      obtain ⟨a, o, h1, h2, h3, h4⟩ := r.mutAt q1 q2
      obtain ⟨xs, rfl, h3⟩ := mden_lst h3
      refine ⟨.ref a, h1, .inl ⟨rfl, xs, .inl (.inl h2)⟩, ?_⟩
      have z0 : rdS X.K W (fun δ => bindS (f δ) fun d δ => match mutOf δ i with
        | some (s, .lst l) => if l.length < LIM then .nx (δ.set i (some (s.wr (.lst (l ++ [d]))))) else .stuck
        | _ => .stuck) N σ H := ⟨c, F, δ, r, z⟩
      refine z0.first (DM := dnE X.K) fun c F H1 δ d v r1 d1 z1 => ?_
      split at z1
      · rename_i s l q
        obtain ⟨g1, g2⟩ := mutOf_some q
        obtain ⟨b, o, y1, y2, y3, y4⟩ := r1.mutAt g1 g2
        rw [h1] at y1; cases y1
        obtain ⟨ys, rfl, y3⟩ := mden_lst y3
        by_cases hl : l.length < LIM
        · rw [if_pos hl] at z1
          exact ⟨a, ys, v, rfl, rfl, y2, by rw [y3.length]; exact lim_lt hl, z1 σ F _ (r1.write (m' := .lst (l ++ [d])) g1 g2 h1 (Dens.append y3 (Dens.one d1))) (.refl _)⟩
        · rw [if_neg hl] at z1; exact False.elim z1
      · exact False.elim z1
    · exact False.elim z
/-- x[k] of a list in a slot -/
def ixSl (i : Nat) (fb : DE → R D) : DE → R D := fun δ => match mutOf δ i with
  | some _ => (fb δ).bind fun k δ => match mutOf δ i, k with
    | some (_, .lst l), .int k => R.of (atI l k) δ
    | _, _ => .stuck
  | none => .stuck
theorem Dens.atI {K : PySem.W.Frag} {F : Hp} {ds : List D} {vs : List V} {k : Int} {d : D} (h : Dens K F ds vs) (e : L2.atI ds k = some d) : ∃ v, L2.atI vs k = some v ∧ Den K F d v := by
  unfold L2.atI at e ⊢
  rw [h.length]
  cases q : ixN ds.length k with
  | none => rw [q] at e; cases e
  | some j => rw [q] at e; exact h.get e
theorem ve_ixSl (i : Nat) {x : Str} {px : Pos} {b : Expr} {fb : DE → R D} (k : VE X W b fb) (hs : PlainIx b) (hN : X.N[i]? = some x := by rfl) (hv : Vis X.env.scope x := by first | exact Or.inl rfl | exact Or.inr (Or.inl rfl) | exact Or.inr (Or.inr rfl)) (hd : (x == ("__debug__" : Str)) = false := by decide) (hcd : (x == ("__classdict__" : Str)) = false := by decide) :
    VE X W (.Subscript (.Name x px) b pos) (ixSl i fb) := PE.to (pe_ix ix_list (pe_var hN hv hd hcd) k hs) fun σ H Q z => by
  obtain ⟨c, F, δ, r, z⟩ := z
  unfold ixSl at z
  split at z
  · rename_i p q0
    obtain ⟨s0, m0⟩ := p
    obtain ⟨q1, q2⟩ := mutOf_some q0
    obtain ⟨a, o, h1, _⟩ := r.mutAt q1 q2
    refine ⟨.ref a, h1, ?_⟩
    refine aft.next (DM := dnE X.K) (f := fb) (g := fun k δ => match mutOf δ i, k with
      | some (_, .lst l), .int k => R.of (L2.atI l k) δ
      | _, _ => .stuck) r z fun F2 H2 δ2 kd v r2 s2 d2 z2 => ?_
    split at z2
    · rename_i s l kk q
      obtain ⟨g1, g2⟩ := mutOf_some q
      obtain ⟨b, o, y1, y2, y3, y4⟩ := r2.mutAt g1 g2
      rw [h1] at y1; cases y1
      obtain ⟨ys, rfl, y3⟩ := mden_lst y3
      cases e : L2.atI l kk with
      | none => rw [e] at z2; exact False.elim z2
      | some d =>
        rw [e] at z2
        obtain ⟨w, w1, w2⟩ := y3.atI e
        exact ⟨a, ys, kk, w, rfl, d2, .inl (.inl y2), w1, z2 w F2 H2 r2 (.refl _) w2⟩
    · exact False.elim z2
  · exact False.elim z
/-- x[k] = e -/
def putS (i : Nat) (fk f : DE → R D) : DE → O := fun δ => bindS (f δ) fun d δ => match mutOf δ i with
  | some _ => bindS (fk δ) fun k δ => match mutOf δ i, k with
    | some (s, .lst l), .int k => match ixN l.length k with
      | some j => .nx (δ.set i (some (s.wr (.lst (l.set j d)))))
      | none => .stuck
    | _, _ => .stuck
  | none => .stuck
theorem vs_put (i : Nat) {x : Str} {px tpos : Pos} {ik : Expr} {fk : DE → R D} (k : VE X W e f) (kk : VE X W ik fk) (hN : X.N[i]? = some x := by rfl) (hv : Vis X.env.scope x := by first | exact Or.inl rfl | exact Or.inr (Or.inl rfl) | exact Or.inr (Or.inr rfl)) (hd : (x == ("__debug__" : Str)) = false := by decide) (hcd : (x == ("__classdict__" : Str)) = false := by decide)
    (ha : ∀ v, assign (.Subscript (.Name x px) ik tpos) X.env v = (do let ov ← holding [v] (eval (.Name x px) X.env); let iv ← holding [v, ov] (eval ik X.env); standAt tpos; holding [v, ov, iv] (setItem ov iv v); release [v, ov, iv] []) := by intro _; rfl)
    (hs : swapsWithSole [.Subscript (.Name x px) ik tpos] e pos.line X.env = pure false := by rfl) (hw : swappedStores [.Subscript (.Name x px) ik tpos] e X.env = pure none := by rfl)
    (h1 : (assignEach [.Subscript (.Name x px) ik tpos] X.env).map (·.2) = [assign (.Subscript (.Name x px) ik tpos) X.env] := by rfl) :
    VS X W (.Assign [.Subscript (.Name x px) ik tpos] e pos) (putS i fk f) := PS.to (ps_asg k (pg_sub (pe_var hN hv hd hcd) kk set_list ha) hs hw h1) fun N σ H z => by
  refine z.first (DM := dnE X.K) fun c F H1 δ d v r1 d1 z1 => ?_
  split at z1
  · rename_i p q0
    obtain ⟨s0, m0⟩ := p
    obtain ⟨q1, q2⟩ := mutOf_some q0
    obtain ⟨a, o, h1, _⟩ := r1.mutAt q1 q2
    refine ⟨.ref a, h1, ?_⟩
    refine aftS.next (DM := dnE X.K) (f := fk) (g := fun k δ => match mutOf δ i, k with
      | some (s, .lst l), .int k => match ixN l.length k with
        | some j => .nx (δ.set i (some (s.wr (.lst (l.set j d)))))
        | none => .stuck
      | _, _ => .stuck) r1 z1 fun F2 H2 δ2 kd kv r2 s2 d2 z2 => ?_
    split at z2
    · rename_i s l n q
      obtain ⟨g1, g2⟩ := mutOf_some q
      obtain ⟨b, o, y1, y2, y3, y4⟩ := r2.mutAt g1 g2
      rw [h1] at y1; cases y1
      obtain ⟨ys, rfl, y3⟩ := mden_lst y3
      split at z2
      · rename_i j e
        exact ⟨a, ys, n, j, rfl, d2, y2, by rw [y3.length]; exact e, z2 σ F2 _ (r2.write (m' := .lst (l.set j d)) g1 g2 h1 (Dens.set j y3 (Den.mono s2 _ _ d1))) (.refl _)⟩
      · exact False.elim z2
    · exact False.elim z2
  · exact False.elim z1
end
end PV

/-! PV7: comprehensions. -/
namespace PV
open PySem PySem.Spec PyProof.Rows L2

/-- the slots of a comprehension's own names forgotten; they may not hold what may be written -/
def wipeD (δ : DE) : List Nat → Option DE
  | [] => some δ
  | v :: vs => match mutOf δ v with
    | some _ => none
    | none => (wipeD δ vs).map fun δ' => δ'.set v none
theorem wipeD_get {δ : DE} : ∀ {vs : List Nat} {δ' : DE} {j : Nat}, wipeD δ vs = some δ' → (j ∉ vs → δ'[j]? = δ[j]?) ∧ (j ∈ vs → ∀ s, δ'[j]? ≠ some (some s)) ∧ δ'.length = δ.length ∧ ∀ v ∈ vs, mutOf δ v = none
  | [], δ', j, h => by cases h; exact ⟨fun _ => rfl, fun h => (nomatch h), rfl, fun _ h => (nomatch h)⟩
  | v :: vs, δ', j, h => by
    unfold wipeD at h
    split at h
    · cases h
    · rename_i q
      obtain ⟨δ1, e, q2⟩ := Option.map_eq_some_iff.mp h
      obtain ⟨i1, i2, i3, i4⟩ := wipeD_get (j := j) e
      rw [← q2]
      refine ⟨fun hj => ?_, fun hj s => ?_, by rw [List.length_set]; exact i3, fun w hw => ?_⟩
      · rw [List.getElem?_set_ne (fun z => hj (by rw [z]; exact List.mem_cons_self))]
        exact i1 fun z => hj (List.mem_cons_of_mem _ z)
      · by_cases z : v = j
        · subst z
          rw [List.getElem?_set]
          simp only [if_true]
          split <;> exact fun y => nomatch y
        · rw [List.getElem?_set_ne z]
          rcases List.mem_cons.mp hj with y | y
          · exact absurd y.symm z
          · exact i2 y s
      · rcases List.mem_cons.mp hw with y | y
        · rw [y]; exact q
        · exact i4 w y
theorem wipe_get {σ : L2.St} {j : Nat} {vs : List Nat} (h : j ∉ vs) : (wipe σ vs)[j]? = σ[j]? := wipe_out h
theorem wipe_in (ρ : L2.St) {j : Nat} : ∀ {vs : List Nat}, j ∈ vs → (wipe ρ vs)[j]? = if j < ρ.length then some none else none
  | [], h => nomatch h
  | v :: vs, h => by
    unfold wipe
    by_cases z : v = j
    · subst z
      rw [List.getElem?_set]
      simp only [if_true]
      rw [wipe_length]
    · rw [List.getElem?_set_ne z]
      rcases List.mem_cons.mp h with y | y
      · exact absurd y.symm z
      · exact wipe_in ρ y
theorem wipe_ext {σ σ' : L2.St} {vs : List Nat} (hl : σ'.length = σ.length) (h : ∀ j, j ∉ vs → σ'[j]? = σ[j]?) : wipe σ' vs = wipe σ vs := by
  refine List.ext_getElem? fun j => ?_
  by_cases hj : j ∈ vs
  · rw [wipe_in σ' hj, wipe_in σ hj, hl]
  · rw [wipe_get hj, wipe_get hj]; exact h j hj

section
variable {K : PySem.W.Frag} {c : Cq} {F H : Hp} {σ : L2.St} {δ δ' : DE} {vs : List Nat}
theorem mutOf_of {δ : DE} {i : Nat} {s : Sl} {m : MD} (h : δ[i]? = some (some s)) (hm : s.mut = some m) : mutOf δ i = some (s, m) := by
  unfold mutOf
  rw [h]
  show s.mut.map _ = _
  rw [hm]; rfl
theorem Rel.wipe (r : Rel K c F H σ δ) (h : wipeD δ vs = some δ') : Rel K c F H (L2.wipe σ vs) δ' := by
  have nb : ∀ {i : Nat} {m : MD}, δ[i]? = some (some (.bor m)) → i ∉ vs := fun {i m} e hi => by
    have := (wipeD_get (j := i) h).2.2.2 i hi
    rw [mutOf_of e rfl] at this; cases this
  have at_ : ∀ {i : Nat} {s : Sl}, δ'[i]? = some (some s) → i ∉ vs ∧ δ[i]? = some (some s) := fun {i s} e => by
    obtain ⟨h1, h2, _⟩ := wipeD_get (j := i) h
    by_cases hi : i ∈ vs
    · exact absurd e (h2 hi s)
    · exact ⟨hi, by rw [← h1 hi]; exact e⟩
  refine ⟨r.sub, r.pres, r.low, r.new, r.gs, r.bor0, fun i hi => ?_, r.binj, by rw [wipe_length, (wipeD_get (j := 0) h).2.2.1]; exact r.len, fun i s e => ?_, fun i j a m n e1 e2 e3 e4 => ?_⟩
  · obtain ⟨m, e⟩ := r.borD i hi
    exact ⟨m, by rw [(wipeD_get (j := i) h).1 (nb e)]; exact e⟩
  · obtain ⟨h1, h2⟩ := at_ e
    rw [wipe_get h1]
    exact r.sl i s h2
  · obtain ⟨h1, h2⟩ := at_ e1
    obtain ⟨g1, g2⟩ := at_ e2
    rw [wipe_get h1] at e3
    rw [wipe_get g1] at e4
    exact r.apart i j a m n h2 g2 e3 e4
/-- the outer slots as they were, the others as they are -/
def unwipe (δ0 δ : DE) : List Nat → DE
  | [] => δ
  | v :: vs => (unwipe δ0 δ vs).set v (δ0[v]?.getD none)
theorem unwipe_get {δ0 δ : DE} (hl : δ.length = δ0.length) : ∀ {vs : List Nat} {j : Nat}, (j ∉ vs → (unwipe δ0 δ vs)[j]? = δ[j]?) ∧ (j ∈ vs → (unwipe δ0 δ vs)[j]? = δ0[j]?) ∧ (unwipe δ0 δ vs).length = δ.length
  | [], j => ⟨fun _ => rfl, fun h => (nomatch h), rfl⟩
  | v :: vs, j => by
    obtain ⟨i1, i2, i3⟩ := unwipe_get (δ0 := δ0) hl (vs := vs) (j := j)
    unfold unwipe
    refine ⟨fun hj => ?_, fun hj => ?_, by rw [List.length_set]; exact i3⟩
    · rw [List.getElem?_set_ne (fun z => hj (by rw [z]; exact List.mem_cons_self))]
      exact i1 fun z => hj (List.mem_cons_of_mem _ z)
    · by_cases z : v = j
      · subst z
        rw [List.getElem?_set]
        simp only [if_true]
        rw [i3, hl]
        split
        · rename_i hv
          rw [List.getElem?_eq_getElem hv]; rfl
        · rename_i hv
          exact (List.getElem?_eq_none (by omega)).symm
      · rw [List.getElem?_set_ne z]
        rcases List.mem_cons.mp hj with y | y
        · exact absurd y.symm z
        · exact i2 y
theorem Rel.unwipe {δ0 : DE} {F0 H0 : Hp} (r0 : Rel K c F0 H0 σ δ0) (e0 : Same F0 F) (h0 : ∀ v ∈ vs, mutOf δ0 v = none) (r : Rel K c F H (L2.wipe σ vs) δ) (hd : ∀ v ∈ vs, ∀ m, δ[v]? ≠ some (some (.bor m))) : Rel K c F H σ (PV.unwipe δ0 δ vs) := by
  have hl : δ.length = δ0.length := by rw [← r.len, wipe_length]; exact r0.len
  have in_ : ∀ {i : Nat} {s : Sl}, i ∈ vs → (PV.unwipe δ0 δ vs)[i]? = some (some s) → ∃ d, s = .val d ∧ δ0[i]? = some (some (.val d)) := fun {i s} hi e => by
    rw [(unwipe_get (δ0 := δ0) hl (j := i)).2.1 hi] at e
    cases s with
    | val d => exact ⟨d, rfl, e⟩
    | own m => have := h0 i hi; rw [mutOf_of e rfl] at this; cases this
    | bor m => have := h0 i hi; rw [mutOf_of e rfl] at this; cases this
  have own_ : ∀ {i : Nat} {n : MD}, (PV.unwipe δ0 δ vs)[i]? = some (some (Sl.own n)) → i ∉ vs ∧ δ[i]? = some (some (Sl.own n)) := fun {i n} e => by
    by_cases hi : i ∈ vs
    · obtain ⟨d, q, _⟩ := in_ hi e; cases q
    · rw [(unwipe_get (δ0 := δ0) hl (j := i)).1 hi] at e; exact ⟨hi, e⟩
  refine ⟨r.sub, r.pres, r.low, r.new, r.gs, r.bor0, fun i hi => ?_, r.binj, by rw [(unwipe_get (δ0 := δ0) hl (j := 0)).2.2, hl]; exact r0.len, fun i s e => ?_, fun i j a m n e1 e2 e3 e4 => ?_⟩
  · obtain ⟨m, e⟩ := r.borD i hi
    have : i ∉ vs := fun z => hd i z m e
    exact ⟨m, by rw [(unwipe_get (δ0 := δ0) hl (j := i)).1 this]; exact e⟩
  · by_cases hi : i ∈ vs
    · obtain ⟨d, rfl, e1⟩ := in_ hi e
      obtain ⟨v, e2, e3⟩ := r0.sl i _ e1
      exact ⟨v, e2, Den.mono e0 _ _ e3⟩
    · rw [(unwipe_get (δ0 := δ0) hl (j := i)).1 hi] at e
      have z := r.sl i s e
      rw [wipe_get hi] at z
      exact z
  · obtain ⟨h1, h2⟩ := own_ e1
    obtain ⟨g1, g2⟩ := own_ e2
    exact r.apart i j a m n h2 g2 (by rw [wipe_get h1]; exact e3) (by rw [wipe_get g1]; exact e4)
end

/-! ### [elt for t in items if cond] -/
/-- inside a comprehension nothing may be raised -/
def R.calm {α : Type} (r : R α) : R α := match r with
  | .exc _ _ => .stuck
  | r => r
def lcLoop (t : D → DE → Option DE) (cond : DE → R Bool) (elt : DE → R D) (vs : List Nat) : List D → DE → List D → R (List D)
  | [], δ, acc => .ok acc δ
  | d :: ds, δ, acc => match t d δ with
    | none => .stuck
    | some δ => (cond δ).calm.bind fun b δ => if b = true then
        (elt δ).calm.bind fun y δ => if acc.length < LIM then
          match wipeD δ vs with
          | some δ => lcLoop t cond elt vs ds δ (acc ++ [y])
          | none => .stuck
        else .stuck
      else match wipeD δ vs with
        | some δ => lcLoop t cond elt vs ds δ acc
        | none => .stuck
/-- the items, then the walk over them -/
def lcN (f : DE → R (List D)) (t : D → DE → Option DE) (cond : DE → R Bool) (elt : DE → R D) (vs : List Nat) : DE → R MD := fun δ => (f δ).bind fun ds δ => match wipeD δ vs with
  | none => .stuck
  | some δ1 => (lcLoop t cond elt vs ds δ1 []).bind fun ys δ2 => .ok (.lst ys) (unwipe δ δ2 vs)
abbrev W0 : WX := fun _ _ _ _ => False
theorem aft.calm {α β : Type} {K : PySem.W.Frag} {W : WX} {DN : Cq → Hp → Hp → L2.St → DE → α → β → Prop} {c : Cq} {F : Hp} {σ : L2.St} {Q : β → Hp → Prop} {r : R α} (h : aft K W DN c F σ Q r.calm) : aft K W0 DN c F σ Q r := by
  cases r with
  | ok a δ => exact h
  | exc x δ => exact False.elim h
  | stuck => exact h
def noCond : DE → R Bool := fun δ => .ok true δ
section
variable {X : Cx} {W : WX}
theorem vts_nil : PTs X [] (rdT X.K W noCond) := ⟨fun pins s σ H Q I z => pts_nil.run pins s σ H Q I (by
  obtain ⟨c, F, δ, r, z⟩ := z
  exact z true F H r (.refl _) rfl)⟩
theorem vts_one {e : Expr} {t : DE → R Bool} (h : VT X W e t) : PTs X [e] (rdT X.K W t) := pts_one h
end
/-- the bookkeeping of the walk -/
theorem lc_walk {K : PySem.W.Frag} {c : Cq} {F0 : Hp} {σ : L2.St} {ts vs : List Nat} {J : It} {ds : List D} {p : Addr} {t : D → DE → Option DE} {cond : DE → R Bool} {elt : DE → R D} {Q : Hp → Prop} (hts : ∀ i ∈ ts, i ∈ vs) (hJ : ItF K F0 J ds) (hg : c.G p = none) (h0 : c.H0 p = none)
    {F1 H1 : Hp} {δ1 : DE} (r1 : Rel K { c with G := upd c.G p (.lst []) } F1 H1 (wipe σ vs) δ1) (s1 : Same F0 F1)
    (fin : ∀ ys δ F H xs, lcLoop t cond elt vs ds δ1 [] = .ok ys δ → Rel K { c with G := upd c.G p (.lst xs) } F H (wipe σ vs) δ → Same F1 F → Dens K F ys xs → Q H) (good : ∃ ys δ, lcLoop t cond elt vs ds δ1 [] = .ok ys δ) :
    ∃ W : Nat → Nat → Hp → Prop, (∃ m, W 0 m H1) ∧ ∀ i m H, W i m H → (J.stop i H ∧ Q H) ∨ (J.go i H ∧ ∃ Nx : Hp → Prop, (∀ H', Nx H' → ∃ m', m' < m ∧ W (i + 1) m' H') ∧
      ∀ x H', J.yld i H x H' → rdG K ts t x (wipe σ vs) H' fun σ2 H2 => wipe σ2 vs = wipe σ vs ∧ rdT K W0 cond σ2 H2 fun b H3 =>
        if b = true then rdE K W0 elt σ2 H3 fun y H4 => ∃ acc, H4 p = some (.lst acc) ∧ acc.length < sizeLine ∧ Nx (upd H4 p (.lst (acc ++ [y]))) else Nx H3) := by
  obtain ⟨ys, δf, good⟩ := good
  have ww : ∀ ρ : L2.St, wipe ρ vs = wipe σ vs → wipe (wipe ρ vs) vs = wipe σ vs := fun ρ e => by
    rw [e]
    exact wipe_ext (wipe_length _ _) fun j hj => wipe_get hj
  refine ⟨fun i m H => ∃ F δ acc xs, Rel K { c with G := upd c.G p (.lst xs) } F H (wipe σ vs) δ ∧ Same F1 F ∧ Dens K F acc xs ∧ i + m = ds.length ∧ lcLoop t cond elt vs (ds.drop i) δ acc = .ok ys δf,
    ⟨ds.length, F1, δ1, [], [], r1, .refl _, rfl, by omega, good⟩, ?_⟩
  rintro i m H ⟨F2, δ2, acc, xs, r2, s2, d2, em, z2⟩
  obtain ⟨hgo, hst⟩ := hJ _ F2 H _ δ2 i r2 (s1.trans s2)
  by_cases hi : i < ds.length
  · have ed := List.getElem?_eq_getElem hi
    obtain ⟨go, yl⟩ := hgo _ ed
    rw [List.drop_eq_getElem_cons hi] at z2
    refine .inr ⟨go, fun H' => ∃ F δ acc xs, Rel K { c with G := upd c.G p (.lst xs) } F H' (wipe σ vs) δ ∧ Same F1 F ∧ Dens K F acc xs ∧ lcLoop t cond elt vs (ds.drop (i + 1)) δ acc = .ok ys δf, ?_, fun x H3 hy => ?_⟩
    · rintro H' ⟨F3, δ3, acc3, xs3, r3, s3, d3, z3⟩
      exact ⟨m - 1, by omega, F3, δ3, acc3, xs3, r3, s3, d3, by omega, z3⟩
    · obtain ⟨F3, r3, s3, d3⟩ := yl x H3 hy
      refine ⟨_, F3, δ2, ds[i], r3, d3, ?_⟩
      unfold lcLoop at z2
      split at z2
      · cases z2
      · rename_i δ4 q
        rw [q]
        intro σ4 r4 l4 n4
        have w4 : wipe σ4 vs = wipe σ vs := by
          rw [show wipe σ vs = wipe (wipe σ vs) vs from (ww σ rfl).symm]
          exact wipe_ext l4 fun j hj => n4 j fun y => hj (hts j y)
        refine ⟨w4, ?_⟩
        refine ⟨_, F3, δ4, r4, ?_⟩
        cases qc : cond δ4 with
        | exc e δ5 => rw [qc] at z2; cases z2
        | stuck => rw [qc] at z2; cases z2
        | ok b δ5 =>
          rw [qc] at z2
          intro b' F5 H5 r5 s5 eb
          cases (show b' = b from eb)
          cases b with
          | false =>
            have z2 : (match wipeD δ5 vs with
              | some δ => lcLoop t cond elt vs (ds.drop (i + 1)) δ acc
              | none => .stuck) = R.ok ys δf := z2
            show ∃ F δ acc xs, _
            split at z2
            · rename_i δ6 q6
              have r6 := r5.wipe q6
              rw [w4] at r6
              exact ⟨F5, δ6, acc, xs, r6, (s2.trans s3).trans s5, Dens.mono (s3.trans s5) _ _ d2, z2⟩
            · cases z2
          | true =>
            show rdE K W0 elt σ4 H5 _
            refine ⟨_, F5, δ5, r5, ?_⟩
            have z2 : ((elt δ5).calm.bind fun y δ => if acc.length < LIM then
              match wipeD δ vs with
              | some δ => lcLoop t cond elt vs (ds.drop (i + 1)) δ (acc ++ [y])
              | none => .stuck
              else .stuck) = R.ok ys δf := z2
            cases qe : elt δ5 with
            | exc e δ6 => rw [qe] at z2; cases z2
            | stuck => rw [qe] at z2; cases z2
            | ok y δ6 =>
              rw [qe] at z2
              intro v F6 H6 r6 s6 d6
              have z2 : (if acc.length < LIM then
                match wipeD δ6 vs with
                | some δ => lcLoop t cond elt vs (ds.drop (i + 1)) δ (acc ++ [y])
                | none => .stuck
                else .stuck) = R.ok ys δf := z2
              by_cases hl : acc.length < LIM
              · rw [if_pos hl] at z2
                have dx := Dens.mono ((s3.trans s5).trans s6) _ _ d2
                refine ⟨xs, (r6.drop hg).2.1, by rw [dx.length]; exact lim_lt hl, ?_⟩
                split at z2
                · rename_i δ7 q7
                  have r7 := (r6.holdPut (o' := .lst (xs ++ [v])) hg h0).wipe q7
                  rw [w4] at r7
                  exact ⟨F6, δ7, acc ++ [y], xs ++ [v], r7, ((s2.trans s3).trans s5).trans s6, Dens.append dx (Dens.one d6), z2⟩
                · cases z2
              · rw [if_neg hl] at z2; cases z2
  · refine .inl ⟨hst (by omega), ?_⟩
    rw [List.drop_eq_nil_of_le (by omega)] at z2
    have z2 : R.ok acc δ2 = R.ok ys δf := z2
    cases z2
    exact fin _ _ F2 H xs good r2 s2 d2
section
variable {X : Cx} {W : WX} {elt tg iter : Expr} {ifs : List Expr} {scope : Scope} {own : List (Str × Nat)} {pos : Pos} {f : DE → R (List D)} {ts : List Nat} {t : D → DE → Option DE} {cond : DE → R Bool} {fe : DE → R D}
theorem rd_lc {K : PySem.W.Frag} {vs : List Nat} {σ : L2.St} {H : Hp} {Q : VK} (hts : ∀ i ∈ ts, i ∈ vs) (z : rdN K W (lcN f t cond fe vs) σ H Q) : tLc (rdI K W f) (rdG K ts t) (rdT K W0 cond) (rdE K W0 fe) vs σ H Q := by
  refine z.first (DM := dnI K) fun c F H1 δ ds J r1 d1 z1 => ?_
  intro p hp
  split at z1
  · exact False.elim z1
  · rename_i δ1 q
    have rw1 := r1.wipe q
    obtain ⟨rf, p', o', e0, f1, f2, f3, f4, f5, f6⟩ := rw1.fresh (o := .lst []) (m := .lst []) hp rfl
    cases e0
    have eo : o' = HO.lst [] := by rw [upd_same] at f1; exact (Option.some.inj f1).symm
    subst eo
    have bne : ∀ i ∈ c.bs, c.adr i ≠ p := fun i hi y => by
      have := r1.bor0 i hi
      rw [y] at this
      exact this f5
    have rh := rf.hold f1 f3 f6 bne
    cases hl : lcLoop t cond fe vs ds δ1 [] with
    | exc x δ2 =>
      exfalso
      have never : ∀ (ds : List D) (δ : DE) (acc : List D) (x : XD) (δ' : DE), lcLoop t cond fe vs ds δ acc ≠ .exc x δ' := by
        intro ds
        induction ds with
        | nil => intro δ acc x δ' y; cases y
        | cons d ds ih =>
          intro δ acc x δ' y
          unfold lcLoop at y
          split at y
          · cases y
          · rename_i δ2 _
            cases qc : cond δ2 with
            | exc _ _ => rw [qc] at y; cases y
            | stuck => rw [qc] at y; cases y
            | ok b δ3 =>
              rw [qc] at y
              cases b with
              | false =>
                have y : (match wipeD δ3 vs with
                  | some δ => lcLoop t cond fe vs ds δ acc
                  | none => .stuck) = R.exc x δ' := y
                split at y
                · exact ih _ _ _ _ y
                · cases y
              | true =>
                have y : ((fe δ3).calm.bind fun y δ => if acc.length < LIM then
                  match wipeD δ vs with
                  | some δ => lcLoop t cond fe vs ds δ (acc ++ [y])
                  | none => .stuck
                  else .stuck) = R.exc x δ' := y
                cases qe : fe δ3 with
                | exc _ _ => rw [qe] at y; cases y
                | stuck => rw [qe] at y; cases y
                | ok w δ4 =>
                  rw [qe] at y
                  have y : (if acc.length < LIM then
                    match wipeD δ4 vs with
                    | some δ => lcLoop t cond fe vs ds δ (acc ++ [w])
                    | none => .stuck
                    else .stuck) = R.exc x δ' := y
                  split at y
                  · split at y
                    · exact ih _ _ _ _ y
                    · cases y
                  · cases y
      exact never _ _ _ _ _ hl
    | stuck => rw [hl] at z1; exact False.elim z1
    | ok ys δ2 =>
      rw [hl] at z1
      refine lc_walk (c := c) (F1 := F) (H1 := upd H1 p (.lst [])) (δ1 := δ1) hts d1 f4 f5 rh (.refl _) (fun ys' δ' F' H' xs e r' s' d' => ?_) ⟨ys, δ2, hl⟩
      rw [hl] at e
      cases e
      obtain ⟨rd', g1, g2, g3, g4⟩ := r'.drop f4
      have hw := (wipeD_get (j := 0) q).2.2.2
      have hlen : List.length δ2 = List.length δ := by rw [← rd'.len, wipe_length]; exact r1.len
      refine z1 _ F' H' (Rel.unwipe r1 s' hw rd' fun v hv m e => ?_) s' ⟨p, _, rfl, g1, d', g2, f4, f5, fun j n e y => ?_⟩
      · obtain ⟨hb, _⟩ := rd'.sl v _ e
        obtain ⟨m', e'⟩ := r1.borD v hb
        have := hw v hv
        rw [mutOf_of e' rfl] at this; cases this
      · by_cases hj : j ∈ vs
        · rw [(unwipe_get (δ0 := δ) hlen (j := j)).2.1 hj] at e
          have := hw j hj
          rw [mutOf_of e rfl] at this; cases this
        · rw [(unwipe_get (δ0 := δ) hlen (j := j)).1 hj] at e
          exact g3 j n e (by rw [wipe_get hj]; exact y)
theorem vn_lc (hc : X.calm = true) (hN : X.N.Nodup) (hi : VI X W tg iter f) (ok : BlkOk X.N X.env.scope scope own) (hts : ∀ i ∈ ts, i ∈ own.map (·.2))
    (hg : ∀ (s : Shared) (H : Hp) (C : Addr) (cl : List (Str × Addr)) (fp : List Addr), VG (X.blk s H scope (compEnvC scope cl C X.env) fp) ts tg t)
    (ht : ∀ (s : Shared) (H : Hp) (C : Addr) (cl : List (Str × Addr)) (fp : List Addr), PTs (X.blk s H scope (compEnvC scope cl C X.env) fp) ifs (rdT X.K W0 cond))
    (he : ∀ (s : Shared) (H : Hp) (C : Addr) (cl : List (Str × Addr)) (fp : List Addr), VE (X.blk s H scope (compEnvC scope cl C X.env) fp) W0 elt fe) (hs : ∀ x, foldedSetIterable iter X.env x = pure x := by intro _; rfl) :
    VN X W (.ListComp elt [⟨tg, iter, ifs, 0⟩] scope pos) (lcN f t cond fe (own.map (·.2))) := PE.to (pe_lc hc hN hi ok hg ht he hs) fun σ H Q z => rd_lc hts z
/-- y = [..] -/
theorem vs_ownLc {i : Nat} {y : Str} {py spos : Pos} (hc : X.calm = true) (hN : X.N.Nodup) (hy : X.N[i]? = some y) (hyl : X.env.scope.names.lookup y = some .local)
    (hsw : swapsWith (.ListComp elt [⟨tg, iter, ifs, 0⟩] scope pos) (some (.Name y py)) spos.line X.env = pure true) (hi : VI X W tg iter f) (ok : BlkOk X.N X.env.scope scope own) (hts : ∀ i ∈ ts, i ∈ own.map (·.2))
    (hg : ∀ (s : Shared) (H : Hp) (C : Addr) (cl : List (Str × Addr)) (fp : List Addr), VG (X.blk s H scope (compEnvC scope cl C X.env) fp) ts tg t)
    (ht : ∀ (s : Shared) (H : Hp) (C : Addr) (cl : List (Str × Addr)) (fp : List Addr), PTs (X.blk s H scope (compEnvC scope cl C X.env) fp) ifs (rdT X.K W0 cond))
    (he : ∀ (s : Shared) (H : Hp) (C : Addr) (cl : List (Str × Addr)) (fp : List Addr), VE (X.blk s H scope (compEnvC scope cl C X.env) fp) W0 elt fe) (hs : ∀ x, foldedSetIterable iter X.env x = pure x := by intro _; rfl) :
    VS X W (.Assign [.Name y py] (.ListComp elt [⟨tg, iter, ifs, 0⟩] scope pos) spos) (ownS i (lcN f t cond fe (own.map (·.2)))) := PS.to (ps_setLc hc hN hy hyl hsw hi ok hg ht he hs) fun N σ H z => by
  have z := rd_own z
  exact rd_lc hts z
theorem vs_setLc {i : Nat} {y : Str} {py spos : Pos} (hc : X.calm = true) (hN : X.N.Nodup) (hy : X.N[i]? = some y) (hyl : X.env.scope.names.lookup y = some .local)
    (hsw : swapsWith (.ListComp elt [⟨tg, iter, ifs, 0⟩] scope pos) (some (.Name y py)) spos.line X.env = pure true) (hi : VI X W tg iter f) (ok : BlkOk X.N X.env.scope scope own) (hts : ∀ i ∈ ts, i ∈ own.map (·.2))
    (hg : ∀ (s : Shared) (H : Hp) (C : Addr) (cl : List (Str × Addr)) (fp : List Addr), VG (X.blk s H scope (compEnvC scope cl C X.env) fp) ts tg t)
    (ht : ∀ (s : Shared) (H : Hp) (C : Addr) (cl : List (Str × Addr)) (fp : List Addr), PTs (X.blk s H scope (compEnvC scope cl C X.env) fp) ifs (rdT X.K W0 cond))
    (he : ∀ (s : Shared) (H : Hp) (C : Addr) (cl : List (Str × Addr)) (fp : List Addr), VE (X.blk s H scope (compEnvC scope cl C X.env) fp) W0 elt fe) (hs : ∀ x, foldedSetIterable iter X.env x = pure x := by intro _; rfl) :
    VS X W (.Assign [.Name y py] (.ListComp elt [⟨tg, iter, ifs, 0⟩] scope pos) spos) (setS i (ofN (lcN f t cond fe (own.map (·.2))))) := PS.to (ps_setLc hc hN hy hyl hsw hi ok hg ht he hs) fun N σ H z => by
  have z := rd_set z
  exact rd_lc hts (rd_ofN z)
end
end PV

/-! PV8: operators and built-ins on data. -/
namespace PV
open PySem PySem.Spec PyProof.Rows L2

/-! ### ints -/
def iop (h : Int → Int → D) : D → D → Option D
  | .int i, .int j => some (h i j)
  | _, _ => none
def iopC (C : Int → Int → Bool) (h : Int → Int → D) : D → D → Option D
  | .int i, .int j => if C i j = true then some (h i j) else none
  | _, _ => none
section
variable {X : Cx} {sem : Value → Value → Sem Value}
theorem o2_I0 {g : Int → Int → V} {h : Int → Int → D} (o : OpR X sem (rI0 g)) (e : ∀ F i j, Den X.K F (h i j) (g i j)) : Op2 X sem (iop h) := by
  refine ⟨_, o, fun c F H σ δ d e' z v w Q r d1 d2 q k => ?_⟩
  cases d <;> first | cases q | skip
  cases e' <;> first | cases q | skip
  exact ⟨_, _, d1, d2, k _ F H r (.refl _) (e F _ _)⟩
theorem o2_I {C : Int → Int → Prop} {B : Int → Int → Bool} {g : Int → Int → V} {h : Int → Int → D} (o : OpR X sem (rI C g)) (b : ∀ i j, B i j = true → C i j) (e : ∀ F i j, Den X.K F (h i j) (g i j)) : Op2 X sem (iopC B h) := by
  refine ⟨_, o, fun c F H σ δ d e' z v w Q r d1 d2 q k => ?_⟩
  cases d <;> first | cases q | skip
  cases e' <;> first | cases q | skip
  rename_i i j
  have q : (if B i j = true then some (h i j) else none) = some z := q
  split at q
  · rename_i hb
    cases q
    exact ⟨_, _, d1, d2, b _ _ hb, k _ F H r (.refl _) (e F _ _)⟩
  · cases q
abbrev iadd := iop fun i j => .int (i + j)
abbrev isub := iop fun i j => .int (i - j)
def mulOk (i j : Int) : Bool := (decide (-(2 ^ 64) < i) && decide (i < 2 ^ 64)) || (decide (-(2 ^ 64) < j) && decide (j < 2 ^ 64))
abbrev imul := iopC mulOk fun i j => .int (i * j)
def divOk (_ j : Int) : Bool := decide (0 < j) && decide (j < 2 ^ 64)
abbrev idiv := iopC divOk fun i j => .int (i / j)
abbrev imod := iopC divOk fun i j => .int (i % j)
def powOk (i j : Int) : Bool := decide (0 ≤ j) && decide (j ≤ 1000) && decide (i.natAbs < 2 ^ 64)
abbrev ipow := iopC powOk fun i j => .int (i ^ j.toNat)
abbrev ilt := iop fun i j => .bl (decide (i < j))
abbrev ile := iop fun i j => .bl (decide (i ≤ j))
abbrev igt := iop fun i j => .bl (decide (j < i))
abbrev ige := iop fun i j => .bl (decide (j ≤ i))
theorem o_iadd : Op2 X (binaryOp .Add) iadd := o2_I0 op_add fun _ _ _ => rfl
theorem o_isub : Op2 X (binaryOp .Sub) isub := o2_I0 op_sub fun _ _ _ => rfl
theorem o_imul : Op2 X (binaryOp .Mult) imul := o2_I op_mul (fun i j h => by
  unfold mulOk at h
  rw [Bool.or_eq_true, Bool.and_eq_true, Bool.and_eq_true, decide_eq_true_iff, decide_eq_true_iff, decide_eq_true_iff, decide_eq_true_iff] at h
  exact h) fun _ _ _ => rfl
theorem o_idiv : Op2 X (binaryOp .FloorDiv) idiv := o2_I op_fdivW (fun i j h => by
  unfold divOk at h
  rw [Bool.and_eq_true, decide_eq_true_iff, decide_eq_true_iff] at h
  exact wide_div (b := 64) h.1 (by omega) (by decide) (by decide)) fun _ _ _ => rfl
theorem o_imod : Op2 X (binaryOp .Mod) imod := o2_I op_mod (fun i j h => by
  unfold divOk at h
  rw [Bool.and_eq_true, decide_eq_true_iff, decide_eq_true_iff] at h
  exact h.1) fun _ _ _ => rfl
theorem o_ipow : Op2 X (binaryOp .Pow) ipow := o2_I op_pow (fun i j h => by
  unfold powOk at h
  rw [Bool.and_eq_true, Bool.and_eq_true, decide_eq_true_iff, decide_eq_true_iff, decide_eq_true_iff] at h
  exact ⟨h.1.1, by omega, h.2⟩) fun _ _ _ => rfl
theorem o_ilt : Op2 X (compareOp .Lt) ilt := o2_I0 op_lt fun _ _ _ => rfl
theorem o_ile : Op2 X (compareOp .LtE) ile := o2_I0 op_le fun _ _ _ => rfl
theorem o_igt : Op2 X (compareOp .Gt) igt := o2_I0 op_gt fun _ _ _ => rfl
theorem o_ige : Op2 X (compareOp .GtE) ige := o2_I0 op_ge fun _ _ _ => rfl
end

/-! ### texts, lists, tuples: + and * -/
def sadd : D → D → Option D
  | .str a, .str b => if a.length + b.length ≤ LIM then some (.str (a ++ b)) else none
  | _, _ => none
def ladd : D → D → Option D
  | .lst a, .lst b => if a.length + b.length ≤ LIM then some (.lst (a ++ b)) else none
  | _, _ => none
def tadd : D → D → Option D
  | .tup a, .tup b => if a.length + b.length ≤ LIM then some (.tup (a ++ b)) else none
  | _, _ => none
def lmul : D → D → Option D
  | .lst a, .int k => if 0 ≤ k ∧ k ≤ 1000 ∧ a.length ≤ 1000 then some (.lst (List.replicate k.toNat a).flatten) else none
  | _, _ => none
def tmul : D → D → Option D
  | .tup a, .int k => if a ≠ [] ∧ 2 ≤ k ∧ k ≤ 1000 ∧ a.length ≤ 1000 then some (.tup (List.replicate k.toNat a).flatten) else none
  | _, _ => none
section
variable {X : Cx}
theorem o_sadd : Op2 X (binaryOp .Add) sadd := by
  refine ⟨_, op_add_str, fun c F H σ δ d e z v w Q r d1 d2 q k => ?_⟩
  cases d <;> first | cases q | skip
  cases e <;> first | cases q | skip
  rename_i a b
  have q : (if a.length + b.length ≤ LIM then some (D.str (a ++ b)) else none) = some z := q
  split at q
  · rename_i hl
    cases q
    exact ⟨a, b, d1, d2, lim_le hl, k _ F H r (.refl _) rfl⟩
  · cases q
theorem o_ladd : Op2 X (binaryOp .Add) ladd := by
  refine ⟨_, op_cat, fun c F H σ δ d e z v w Q r d1 d2 q k => ?_⟩
  cases d <;> first | cases q | skip
  cases e <;> first | cases q | skip
  rename_i la lb
  have q : (if la.length + lb.length ≤ LIM then some (D.lst (la ++ lb)) else none) = some z := q
  obtain ⟨a, xs, rfl, h1, h2⟩ := d1
  obtain ⟨b, ys, rfl, g1, g2⟩ := d2
  split at q
  · rename_i hl
    cases q
    refine ⟨a, b, xs, ys, rfl, rfl, r.sub _ _ h1, r.sub _ _ g1, by rw [h2.length, g2.length]; exact lim_le hl, fun p hp => k _ _ _ (r.lay hp) (same_new (r.freeF hp)) ⟨p, _, rfl, upd_same, ?_⟩⟩
    exact Dens.mono (same_new (r.freeF hp)) _ _ (Dens.append h2 g2)
  · cases q
theorem o_tadd : Op2 X (binaryOp .Add) tadd := by
  refine ⟨_, op_catA, fun c F H σ δ d e z v w Q r d1 d2 q k => ?_⟩
  cases d <;> first | cases q | skip
  cases e <;> first | cases q | skip
  rename_i la lb
  have q : (if la.length + lb.length ≤ LIM then some (D.tup (la ++ lb)) else none) = some z := q
  obtain ⟨a, xs, rfl, h1, h2⟩ := d1
  obtain ⟨b, ys, rfl, g1, g2⟩ := d2
  split at q
  · rename_i hl
    cases q
    refine ⟨a, b, xs, ys, rfl, rfl, PV.Same.tup r.sub h1, PV.Same.tup r.sub g1, by rw [h2.length, g2.length]; exact lim_le hl, fun e1 => ?_, fun e1 e2 => ?_, fun _ _ p hp => ?_⟩
    · have l0 := h2.length
      rw [e1] at l0
      have : la = [] := List.length_eq_zero_iff.mp l0.symm
      rw [this] at k
      exact k _ F H r (.refl _) ⟨b, ys, rfl, g1, g2⟩
    · have l0 := g2.length
      rw [e2] at l0
      have : lb = [] := List.length_eq_zero_iff.mp l0.symm
      rw [this, List.append_nil] at k
      exact k _ F H r (.refl _) ⟨a, xs, rfl, h1, h2⟩
    · exact k _ _ _ (r.lay hp) (same_new (r.freeF hp)) ⟨p, _, rfl, .inl (.inl upd_same), Dens.mono (same_new (r.freeF hp)) _ _ (Dens.append h2 g2)⟩
  · cases q
theorem o_lmul : Op2 X (binaryOp .Mult) lmul := by
  refine ⟨_, op_rep, fun c F H σ δ d e z v w Q r d1 d2 q k => ?_⟩
  cases d <;> first | cases q | skip
  cases e <;> first | cases q | skip
  rename_i la n
  have q : (if 0 ≤ n ∧ n ≤ 1000 ∧ la.length ≤ 1000 then some (D.lst (List.replicate n.toNat la).flatten) else none) = some z := q
  obtain ⟨a, xs, rfl, h1, h2⟩ := d1
  split at q
  · rename_i hl
    cases q
    refine ⟨a, n, xs, rfl, d2, r.sub _ _ h1, by omega, by omega, ?_, fun p hp => k _ _ _ (r.lay hp) (same_new (r.freeF hp)) ⟨p, _, rfl, upd_same, Dens.mono (same_new (r.freeF hp)) _ _ (Dens.rep h2 _)⟩⟩
    rw [h2.length]
    exact lim_le (Nat.le_trans (Nat.mul_le_mul hl.2.2 (show n.toNat ≤ 1000 by omega)) (by decide))
  · cases q
theorem o_tmul : Op2 X (binaryOp .Mult) tmul := by
  refine ⟨_, op_repT, fun c F H σ δ d e z v w Q r d1 d2 q k => ?_⟩
  cases d <;> first | cases q | skip
  cases e <;> first | cases q | skip
  rename_i la n
  have q : (if la ≠ [] ∧ 2 ≤ n ∧ n ≤ 1000 ∧ la.length ≤ 1000 then some (D.tup (List.replicate n.toNat la).flatten) else none) = some z := q
  obtain ⟨a, xs, rfl, h1, h2⟩ := d1
  split at q
  · rename_i hl
    cases q
    have lx := h2.length
    refine ⟨a, n, xs, rfl, d2, PV.Same.tup r.sub h1, fun y => ?_, hl.2.1, hl.2.2.1, by rw [lx]; exact hl.2.2.2, fun p hp => k _ _ _ (r.lay hp) (same_new (r.freeF hp)) ⟨p, _, rfl, .inl (.inl upd_same), Dens.mono (same_new (r.freeF hp)) _ _ (Dens.rep h2 _)⟩⟩
    rw [y] at lx
    exact hl.1 (List.length_eq_zero_iff.mp lx.symm)
  · cases q
end

/-! ### == and != -/
mutual
/-- as the library's data, where it has them -/
def D.py : D → Option PyData
  | .non => some .none
  | .bl b => some (.bool b)
  | .int i => some (.int i)
  | .str s => some (.str s)
  | .tup l => (D.pys l).map .tuple
  | .lst l => (D.pys l).map .list
  | _ => none
def D.pys : List D → Option (List PyData)
  | [] => some []
  | d :: ds => (D.py d).bind fun p => (D.pys ds).map fun ps => p :: ps
end
section
variable {K : PySem.W.Frag} {F H : Hp}
mutual
theorem py_dp (e : Same F H) : ∀ {d : D} {p : PyData} {v : V}, D.py d = some p → Den K F d v → Dp K H v p
  | .non, _, _, h, g => by unfold D.py at h; cases h; cases g; exact .non
  | .bl b, _, _, h, g => by unfold D.py at h; cases h; cases g; exact .bl b
  | .int b, _, _, h, g => by unfold D.py at h; cases h; cases g; exact .int b
  | .str b, _, _, h, g => by unfold D.py at h; cases h; cases g; exact .str b
  | .byt _, _, _, h, _ => by unfold D.py at h; cases h
  | .ty _, _, _, h, _ => by unfold D.py at h; cases h
  | .fn _, _, _, h, _ => by unfold D.py at h; cases h
  | .scr _, _, _, h, _ => by unfold D.py at h; cases h
  | .dct _, _, _, h, _ => by unfold D.py at h; cases h
  | .ins _ _, _, _, h, _ => by unfold D.py at h; cases h
  | .tup l, _, _, h, g => by
    unfold D.py at h
    obtain ⟨ps, h1, rfl⟩ := Option.map_eq_some_iff.mp h
    obtain ⟨a, xs, rfl, g1, g2⟩ := g
    exact .tup (PV.Same.tup e g1) (pys_dp e h1 g2)
  | .lst l, _, _, h, g => by
    unfold D.py at h
    obtain ⟨ps, h1, rfl⟩ := Option.map_eq_some_iff.mp h
    obtain ⟨a, xs, rfl, g1, g2⟩ := g
    exact .lst (.inl (.inl (e _ _ g1))) (pys_dp e h1 g2)
theorem pys_dp (e : Same F H) : ∀ {ds : List D} {ps : List PyData} {vs : List V}, D.pys ds = some ps → Dens K F ds vs → DpAll K H vs ps
  | [], _, _, h, g => by unfold D.pys at h; cases h; rw [show _ = _ from g]; exact .nil
  | d :: ds, _, _, h, ⟨v, r, e1, g1, g2⟩ => by
    unfold D.pys at h
    obtain ⟨p, h1, h2⟩ := Option.bind_eq_some_iff.mp h
    obtain ⟨ps, h3, rfl⟩ := Option.map_eq_some_iff.mp h2
    rw [e1]
    exact .cons (py_dp e h1 g1) (pys_dp e h3 g2)
end
end
/-- of scalars -/
def eqS : D → D → Option Bool
  | .non, .non => some true
  | .int i, .int j => some (decide (i = j))
  | .str i, .str j => some (decide (i = j))
  | .bl i, .bl j => some (decide (i = j))
  | .byt i, .byt j => some (decide (i = j))
  | .non, .int _ => some false
  | .int _, .non => some false
  | .non, .bl _ => some false
  | .bl _, .non => some false
  | .non, .str _ => some false
  | .str _, .non => some false
  | .int _, .str _ => some false
  | .str _, .int _ => some false
  | .bl _, .str _ => some false
  | .str _, .bl _ => some false
  | _, _ => none
/-- of data -/
def eqP (x y : D) : Option Bool := match x.py, y.py with
  | some p, some q => if SeqAt.shaped p = true ∧ SeqAt.shaped q = true then some (PyData.eqv p q) else none
  | _, _ => none
def eqD (x y : D) : Option D := ((eqS x y).or (eqP x y)).map .bl
def neD (x y : D) : Option D := ((eqS x y).or (eqP x y)).map fun b => .bl (!b)
section
variable {X : Cx}
theorem eqS_v {K : PySem.W.Frag} {F : Hp} {x y : D} {v w : V} {b : Bool} (h : eqS x y = some b) (d1 : Den K F x v) (d2 : Den K F y w) : scal v w = true ∧ decide (v = w) = b := by
  unfold eqS at h
  split at h <;> first | (cases h; done) | skip
  all_goals
    cases h
    rw [show v = _ from d1, show w = _ from d2]
    refine ⟨rfl, ?_⟩
    first
      | rfl
      | (rw [Bool.eq_iff_iff]; simp)
theorem o_eq (hu : X.A.units + 64 < cLine) : Op2 X (compareOp .Eq) eqD := by
  refine ⟨_, OpR.or op_eq (op_eqD hu), fun c F H σ δ d e z v w Q r d1 d2 q k => ?_⟩
  obtain ⟨b, q1, rfl⟩ := Option.map_eq_some_iff.mp q
  cases qs : eqS d e with
  | some b' =>
    rw [qs] at q1
    cases q1
    obtain ⟨h1, h2⟩ := eqS_v qs d1 d2
    exact .inl ⟨h1, by rw [h2]; exact k _ F H r (.refl _) rfl⟩
  | none =>
    rw [qs] at q1
    have q1 : eqP d e = some b := q1
    unfold eqP at q1
    split at q1
    · rename_i p p' e1 e2
      split at q1
      · rename_i hs
        cases q1
        exact .inr ⟨p, p', py_dp r.sub e1 d1, py_dp r.sub e2 d2, hs.1, hs.2, k _ F H r (.refl _) rfl⟩
      · cases q1
    · cases q1
theorem o_ne (hu : X.A.units + 64 < cLine) : Op2 X (compareOp .NotEq) neD := by
  refine ⟨_, OpR.or op_ne (op_neD hu), fun c F H σ δ d e z v w Q r d1 d2 q k => ?_⟩
  obtain ⟨b, q1, rfl⟩ := Option.map_eq_some_iff.mp q
  cases qs : eqS d e with
  | some b' =>
    rw [qs] at q1
    cases q1
    obtain ⟨h1, h2⟩ := eqS_v qs d1 d2
    exact .inl ⟨h1, by rw [h2]; exact k _ F H r (.refl _) rfl⟩
  | none =>
    rw [qs] at q1
    have q1 : eqP d e = some b := q1
    unfold eqP at q1
    split at q1
    · rename_i p p' e1 e2
      split at q1
      · rename_i hs
        cases q1
        exact .inr ⟨p, p', py_dp r.sub e1 d1, py_dp r.sub e2 d2, hs.1, hs.2, k _ F H r (.refl _) rfl⟩
      · cases q1
    · cases q1
end
/-! ### is None -/
def D.isN : D → Bool
  | .non => true
  | _ => false
theorem isN_v {K : PySem.W.Frag} {F : Hp} {x : D} {v : V} (h : Den K F x v) : decide (v = .non) = x.isN := by
  cases x with
  | non => rw [show v = _ from h]; rfl
  | bl b => rw [show v = _ from h]; rfl
  | int b => rw [show v = _ from h]; rfl
  | str b => rw [show v = _ from h]; rfl
  | byt b => rw [show v = _ from h]; rfl
  | ty b => rw [show v = _ from h]; rfl
  | fn b => rw [show v = _ from h]; rfl
  | scr l => obtain ⟨a, e, _⟩ := h; rw [e]; rfl
  | tup l => obtain ⟨a, xs, e, _⟩ := h; rw [e]; rfl
  | lst l => obtain ⟨a, xs, e, _⟩ := h; rw [e]; rfl
  | dct l => obtain ⟨a, xs, e, _⟩ := h; rw [e]; rfl
  | ins c l => obtain ⟨a, dx, xs, e, _⟩ := h; rw [e]; rfl
def isNo : D → D → Option D := fun x y => match y with
  | .non => some (.bl x.isN)
  | _ => none
def notNo : D → D → Option D := fun x y => match y with
  | .non => some (.bl (!x.isN))
  | _ => none
section
variable {X : Cx}
theorem o_isN : Op2 X (compareOp .Is) isNo := by
  refine ⟨_, op_isN, fun c F H σ δ d e z v w Q r d1 d2 q k => ?_⟩
  cases e <;> first | cases q | skip
  exact ⟨d2, by rw [isN_v d1]; exact k _ F H r (.refl _) rfl⟩
theorem o_notN : Op2 X (compareOp .IsNot) notNo := by
  refine ⟨_, op_notN, fun c F H σ δ d e z v w Q r d1 d2 q k => ?_⟩
  cases e <;> first | cases q | skip
  exact ⟨d2, by rw [isN_v d1]; exact k _ F H r (.refl _) rfl⟩
end
/-! ### in a tuple or list of scalars -/
def D.flat : D → Option V
  | .non => some .non
  | .bl b => some (.bl b)
  | .int i => some (.int i)
  | .str s => some (.str s)
  | _ => none
def flats : List D → Option (List V)
  | [] => some []
  | d :: ds => d.flat.bind fun v => (flats ds).map fun r => v :: r
theorem flat_v {K : PySem.W.Frag} {F : Hp} {x : D} {u v : V} (h : x.flat = some u) (d : Den K F x v) : v = u ∧ flatV v = true := by
  cases x <;> first | (cases h; done) | skip
  all_goals
    cases h
    rw [show v = _ from d]
    exact ⟨rfl, rfl⟩
theorem flats_v {K : PySem.W.Frag} {F : Hp} : ∀ {xs : List D} {us vs : List V}, flats xs = some us → Dens K F xs vs → vs = us ∧ vs.all flatV = true
  | [], _, _, h, d => by cases h; rw [show _ = _ from d]; exact ⟨rfl, rfl⟩
  | x :: xs, us, vs, h, ⟨v, r, e, d1, d2⟩ => by
    obtain ⟨u, h1, h2⟩ := Option.bind_eq_some_iff.mp h
    obtain ⟨us', h3, rfl⟩ := Option.map_eq_some_iff.mp h2
    obtain ⟨e1, e2⟩ := flat_v h1 d1
    obtain ⟨e3, e4⟩ := flats_v h3 d2
    rw [e, e1, e3]
    rw [e1] at e2
    rw [e3] at e4
    exact ⟨rfl, by rw [List.all_cons, e2, e4]; rfl⟩
def itemsOf : D → Option (List D)
  | .tup l => some l
  | .lst l => some l
  | _ => none
def inF (neg : Bool) (x y : D) : Option D := match x.flat, (itemsOf y).bind flats with
  | some u, some us => some (.bl (if neg = true then !inV u us else inV u us))
  | _, _ => none
section
variable {X : Cx}
theorem in_r {K : PySem.W.Frag} {c : Cq} {F H : Hp} {σ : L2.St} {δ : DE} {neg : Bool} {d e z : D} {v w : V} {Q : VK} (r : Rel K c F H σ δ) (d1 : Den K F d v) (d2 : Den K F e w) (q : inF neg d e = some z)
    (k : ∀ u F' H', Rel K c F' H' σ δ → Same F F' → Den K F' z u → Q u H') : rIn K neg v w H Q := by
  unfold inF at q
  split at q
  · rename_i u us h1 h2
    cases q
    obtain ⟨ds, h3, h4⟩ := Option.bind_eq_some_iff.mp h2
    obtain ⟨e1, e2⟩ := flat_v h1 d1
    cases e <;> first | (cases h3; done) | skip
    · cases h3
      obtain ⟨a, xs, rfl, g1, g2⟩ := d2
      obtain ⟨e3, e4⟩ := flats_v h4 g2
      exact ⟨a, xs, rfl, .inr (PV.Same.tup r.sub g1), e2, e4, by rw [e1, e3]; exact k _ F H r (.refl _) (by cases neg <;> rfl)⟩
    · cases h3
      obtain ⟨a, xs, rfl, g1, g2⟩ := d2
      obtain ⟨e3, e4⟩ := flats_v h4 g2
      exact ⟨a, xs, rfl, .inl (.inl (.inl (r.sub _ _ g1))), e2, e4, by rw [e1, e3]; exact k _ F H r (.refl _) (by cases neg <;> rfl)⟩
  · cases q
theorem o_in : Op2 X (compareOp .In) (inF false) := ⟨_, op_in_seq, fun c F H σ δ d e z v w Q r d1 d2 q k => in_r r d1 d2 q k⟩
theorem o_notIn : Op2 X (compareOp .NotIn) (inF true) := ⟨_, op_notIn_seq, fun c F H σ δ d e z v w Q r d1 d2 q k => in_r r d1 d2 q k⟩
end

/-! ### subscripts, slices -/
def ixD : D → D → Option D
  | .tup l, .int k => atI l k
  | .lst l, .int k => atI l k
  | .scr l, .int k => (atI l k).map .int
  | .str s, .int k => if s.length ≤ LIM then (atI s.cps.toList k).map fun c => .str ⟨#[c]⟩ else none
  | _, _ => none
section
variable {X : Cx} {W : WX} {a b : Expr} {fa fb : DE → R D} {pos : Pos}
theorem atI_map {α β : Type} {f : α → β} {l : List α} {k : Int} {x : α} (h : atI l k = some x) : atI (l.map f) k = some (f x) := by
  unfold atI at h ⊢
  rw [List.length_map]
  cases q : ixN l.length k with
  | none => rw [q] at h; cases h
  | some j =>
    rw [q] at h
    have h : l[j]? = some x := h
    show (l.map f)[j]? = _
    rw [List.getElem?_map, h]; rfl
theorem ve_ix (ha : VE X W a fa) (hb : VE X W b fb) (hs : PlainIx b) : VE X W (.Subscript a b pos) (op2 ixD fa fb) := PE.to (pe_ix ix_seq ha hb hs) fun σ H Q z => by
  refine z.first (DM := dnE X.K) fun c F H1 δ x v r1 d1 z1 => ?_
  refine z1.next (DM := dnE X.K) r1 fun F2 H2 δ2 y w r2 s2 d2 z2 => ?_
  replace d1 := Den.mono s2 _ _ d1
  cases q : ixD x y with
  | none => rw [q] at z2; exact False.elim z2
  | some d =>
    rw [q] at z2
    have fin : ∀ u, Den X.K F2 d u → Q u H2 := fun u du => z2 u F2 H2 r2 (.refl _) du
    cases x <;> first | (cases q; done) | skip
    · cases y <;> first | (cases q; done) | skip
      rename_i s n
      have q : (if s.length ≤ LIM then (atI s.cps.toList n).map (fun c => D.str ⟨#[c]⟩) else none) = some d := q
      split at q
      · rename_i hl
        obtain ⟨c', h1, rfl⟩ := Option.map_eq_some_iff.mp q
        exact .inr (.inr ⟨s, n, c', d1, d2, lim_le hl, h1, fin _ rfl⟩)
      · cases q
    · cases y <;> first | (cases q; done) | skip
      rename_i l n
      obtain ⟨i, h1, rfl⟩ := Option.map_eq_some_iff.mp q
      obtain ⟨p, rfl, g1⟩ := d1
      exact .inl ⟨p, _, n, .int i, rfl, d2, r2.sub.seq g1, atI_map h1, fin _ rfl⟩
    · cases y <;> first | (cases q; done) | skip
      rename_i l n
      obtain ⟨p, xs, rfl, g1, g2⟩ := d1
      obtain ⟨u, h1, h2⟩ := g2.atI q
      exact .inr (.inl ⟨p, xs, n, u, rfl, d2, PV.Same.tup r2.sub g1, h1, fin _ h2⟩)
    · cases y <;> first | (cases q; done) | skip
      rename_i l n
      obtain ⟨p, xs, rfl, g1, g2⟩ := d1
      obtain ⟨u, h1, h2⟩ := g2.atI q
      exact .inl ⟨p, xs, n, u, rfl, d2, .inl (.inl (r2.sub _ _ g1)), h1, fin _ h2⟩
def oNo : DE → R (Option Int) := fun δ => .ok none δ
def oSome (f : DE → R D) : DE → R (Option Int) := fun δ => (f δ).bind fun x δ => match x with
  | .int i => .ok (some i) δ
  | _ => .stuck
theorem vo_none : VO X W none oNo := PO.to po_none fun σ H Q z => by
  obtain ⟨c, F, δ, r, z⟩ := z
  exact z none F H r (.refl _) rfl
theorem vo_some {e : Expr} {f : DE → R D} (h : VE X W e f) : VO X W (some e) (oSome f) := PO.to (po_some h) fun σ H Q z => by
  refine z.first (DM := dnE X.K) fun c F H1 δ x v r1 d1 z1 => ?_
  cases x <;> first | exact False.elim z1 | skip
  exact ⟨_, d1, z1 _ F H1 r1 (.refl _) rfl⟩
def cutD {α : Type} (xs : List α) (lo hi : Option Int) : List α := (xs.drop (HT.sIx xs.length 0 lo)).take (HT.sIx xs.length xs.length hi - HT.sIx xs.length 0 lo)
def slD (x : D) (lo hi : Option Int) : Option D := match x with
  | .tup l => some (.tup (cutD l lo hi))
  | .lst l => some (.lst (cutD l lo hi))
  | _ => none
def slE (fa : DE → R D) (fl fh : DE → R (Option Int)) : DE → R D := fun δ => (fa δ).bind fun x δ => (fl δ).bind fun lo δ => (fh δ).bind fun hi δ => R.of (slD x lo hi) δ
theorem Dens.cut {K : PySem.W.Frag} {F : Hp} {ds : List D} {vs : List V} (h : Dens K F ds vs) (lo hi : Option Int) : Dens K F (cutD ds lo hi) (cutV vs lo hi) := by
  unfold cutD cutV
  rw [h.length]
  exact Dens.take _ (Dens.drop _ h)
theorem cut_all {α : Type} {l : List α} {lo hi : Option Int} (h : HT.sIx l.length 0 lo = 0 ∧ HT.sIx l.length l.length hi = l.length) : cutD l lo hi = l := by
  unfold cutD
  rw [h.1, h.2, List.drop_zero, Nat.sub_zero, List.take_length]
theorem ve_slice {lo hi : Option Expr} {fl fh : DE → R (Option Int)} {p2 : Pos} (ha : VE X W a fa) (hl : VO X W lo fl) (hh : VO X W hi fh) : VE X W (.Subscript a (.Slice lo hi none p2) pos) (slE fa fl fh) := PE.to (pe_slice (SlR.or sl_tupA sl_list) ha hl hh) fun σ H Q z => by
  refine z.first (DM := dnE X.K) fun c F H1 δ x v r1 d1 z1 => ?_
  refine z1.next (DM := dnO) r1 fun F2 H2 δ2 lo v2 r2 s2 d2 z2 => ?_
  cases (show v2 = lo from d2)
  refine z2.next (DM := dnO) r2 fun F3 H3 δ3 hi v3 r3 s3 d3 z3 => ?_
  cases (show v3 = hi from d3)
  replace d1 := Den.mono (s2.trans s3) _ _ d1
  cases x <;> first | (exact False.elim z3; done) | skip
  · rename_i l
    obtain ⟨p, xs, rfl, g1, g2⟩ := d1
    refine .inl ⟨p, xs, rfl, PV.Same.tup r3.sub g1, fun hw => ?_, fun hw q hq => ?_⟩
    · rw [g2.length] at hw
      have z3 : aft X.K W (dnE X.K) c F3 σ Q (.ok (.tup (cutD l lo hi)) δ3) := z3
      rw [cut_all hw] at z3
      exact z3 _ F3 H3 r3 (.refl _) ⟨p, xs, rfl, g1, g2⟩
    · exact z3 _ _ _ (r3.lay hq) (same_new (r3.freeF hq)) ⟨q, _, rfl, .inl (.inl upd_same), Dens.mono (same_new (r3.freeF hq)) _ _ (g2.cut lo hi)⟩
  · obtain ⟨p, xs, rfl, g1, g2⟩ := d1
    exact .inr ⟨p, xs, rfl, .inl (.inl (r3.sub _ _ g1)), fun q hq => z3 _ _ _ (r3.lay hq) (same_new (r3.freeF hq)) ⟨q, _, rfl, upd_same, Dens.mono (same_new (r3.freeF hq)) _ _ (g2.cut lo hi)⟩⟩
end
end PV

/-! PVE: enumerate(tuple). -/
namespace PV
open PySem PySem.Spec PyProof.Rows L2

theorem enum1_meets {v : Value} {o : Obj} {P : Heap → Prop} (B : Begins v o P) :
    Meets (Builtin.«enumerate.__new__» ⟨[.type "enumerate", v], []⟩) (fun _ R s => P s.heap ∧ R (.ok (.ret (.ref (s.heap.push o).objs.size))) { s with heap := (s.heap.push o).push { cls := .type "enumerate", data := .fields #[.none, .bool false, .ref s.heap.objs.size, rawInt 0, .none, .none] } }) :=
  .of_wp fun prog w A R s hh => by
    obtain ⟨hp, gs, dr, tk, os⟩ := s
    obtain ⟨hP, hR⟩ := hh
    have sub := sub_enumerate
    have it0 : ∀ {A' : Around} {E : Value → Shared → Prop} {Q : Value → Shared → Prop}, Q (.ref hp.objs.size) ⟨hp.push o, gs, dr, tk, os⟩ → wpAny (model prog w) A' (pyIter v) Q E ⟨hp, gs, dr, tk, os⟩ := fun q => B.iter prog w _ _ ⟨hp, gs, dr, tk, os⟩ _ hP q
    wp_walk using it0
    refine wpAny_stack_any fun st => wpAny_pure ?_
    split
    · rename_i c _ _ _ _ _
      cases (c == Value.type "enumerate")
      · wp_walk using it0
        exact ⟨_, rfl, hR⟩
      · wp_walk using it0
        exact ⟨_, rfl, hR⟩
    · wp_walk using it0
      exact ⟨_, rfl, hR⟩
theorem enum1_call {prog : Program} {w : World} {A : Around} {E : Value → Shared → Prop} {s : Shared} {v : Value} {o : Obj} {P : Heap → Prop} {Q : Value → Shared → Prop} (B : Begins v o P) (hP : P s.heap)
    (h : ∀ h', IsEnum h' (s.heap.objs.size + 1) s.heap.objs.size 0 .none → h'.get? s.heap.objs.size = some o → (∀ b o, s.heap.get? b = some o → h'.get? b = some o) → Q (.ref (s.heap.objs.size + 1)) { s with heap := h' }) :
    wpAny (model prog w) A (call (.type "enumerate") [v]) Q E s := by
  refine callType_new F.called_enumerate (by decide) (F.typeCall_enumerate_1 _) (F.newCall_enumerate_1 _) (fun obj => F.args_object_init_2 obj _) F.entry_enumerate_new (enum1_meets B) ⟨hP, ?_⟩
  have z1 : (s.heap.push o).objs.size = s.heap.objs.size + 1 := Heap.size_push ..
  show _ ∧ _
  rw [z1]
  have e1 : IsEnum ((s.heap.push o).push { cls := .type "enumerate", data := .fields #[.none, .bool false, .ref s.heap.objs.size, rawInt 0, .none, .none] }) (s.heap.objs.size + 1) s.heap.objs.size 0 .none := by
    have q := Heap.get?_push_size (s.heap.push o) (o := { cls := .type "enumerate", data := .fields #[.none, .bool false, .ref s.heap.objs.size, rawInt 0, .none, .none] }) rfl
    rw [z1] at q
    exact q
  exact ⟨⟨_, e1, rfl⟩, h _ e1 (Heap.get?_push_of_some _ (Heap.get?_push_size _ B.free)) fun b o x => Heap.get?_push_of_some _ (Heap.get?_push_of_some _ x)⟩

/-- the tuple at a, each item in a new pair -/
def ItnT (K : PySem.W.Frag) (a : Addr) : It :=
  ⟨fun i H => ∃ (xs : List V) (x : V), SqT K H a xs ∧ xs[i]? = some x, fun i H v H' => ∃ T x, v = .ref T ∧ H T = none ∧ H' = upd H T (.tup [.int (i : Nat), x]) ∧ ∀ xs, SqT K H a xs → xs[i]? = some x, fun i H => ∃ xs : List V, SqT K H a xs ∧ i = xs.length⟩
theorem turn_enumT {P : Program} {w : World} {K : PySem.W.Frag} {elts : List Expr} {kk : Nat} {tpos : Pos} (a e it : Addr) (hne : e ≠ it) (hai : a ≠ it) (hae : e ≠ a) :
    Turn P w K (.Tuple elts kk tpos) (ItnT K a) [e, it] e (fun i h => (∃ old, IsEnum h e it ((i : Nat) : Int) old) ∧ h.IsTupleIter it a i) where
  mem := by simp
  obj := fun i h st b hb => by
    obtain ⟨⟨old, he⟩, ⟨o, ho, hc, hd⟩⟩ := st
    rcases (show b = e ∨ b = it by simpa using hb) with z | z
    · rw [z]; exact ⟨_, he, fun v q => nomatch q⟩
    · rw [z]; exact ⟨o, ho, fun v q => by rw [hd] at q; cases q⟩
  keep := fun i h h' st k => by
    obtain ⟨⟨old, he⟩, hi⟩ := st
    exact ⟨⟨old, k e (by simp) _ he⟩, hi.at fun o q => k it (by simp) o q⟩
  item := by
    intro X hP hw hK hc i pins s σ H E I hf st hg
    subst hP hw hK
    obtain ⟨⟨old, he⟩, hit⟩ := st
    obtain ⟨xs, x, hq, hx⟩ := hg
    obtain ⟨its, rv, p, hz⟩ := I.tuple hq
    have tp : s.heap.IsTuple a its.toArray := p
    have hel : e < s.heap.objs.size := Heap.lt_size he
    have hil : it < s.heap.objs.size := by obtain ⟨_, q, _⟩ := hit; exact Heap.lt_size q
    have hi : i < its.length := by rw [← rv.length]; exact (List.getElem?_eq_some_iff.mp hx).1
    refine wpAny_pyNext_enum_itemD (Draws.tuple (show X.A.in1.handled = none from I.ok.hd hc) it a hai its.toArray) he ⟨hit, tp⟩ (by simpa using hi) hne (by simp [hne, hae]) fun u h' tk hu ho st' hT hsz hk => ?_
    obtain ⟨u', hu', ru'⟩ := rv.get hx
    have eu : u = u' := by
      have hu : its.toArray[i]? = some u := hu
      rw [show its.toArray[i]? = its[i]? by simp, hu'] at hu
      exact (Option.some.inj hu).symm
    subst eu
    refine ⟨_, rfl, wpAny_letOwnedTupleGo_enum (s := { s with heap := h', toks := tk + 1 }) ho fun h'' he' sb => ?_⟩
    have hT2 : h''.get? s.heap.objs.size = some { cls := .type "tuple", data := .seq #[.int i tk, u] } := (sb.2 _ (Nat.ne_of_gt hel)).trans hT
    have new : ObjOk X.prog X.w (upd H s.heap.objs.size (.tup [.int (i : Nat), x])) h'' s.heap.objs.size (.tup [.int (i : Nat), x]) :=
      ⟨by show 2 ≤ sizeLine; decide, [.int i tk, u], .cons ⟨_, rfl⟩ (.cons ru' .nil), ⟨_, hT2, rfl, _, rfl⟩⟩
    have I1 : Inv X pins σ (upd H s.heap.objs.size (.tup [.int (i : Nat), x])) { s with heap := h'', toks := tk + 1 } :=
      I.turnedNew (ch := [e, it]) (fun b ob hb q => (sb.2 b (fun z => hb (by simp [z]))).trans (hk b ob (fun z => hb (by simp [z])) (fun z => hb (by simp [z])) q)) hf (Nat.le_refl _) new
    refine ⟨.ref s.heap.objs.size, _, I1, rfl, ⟨_, x, rfl, I.hok.fresh (Nat.le_refl _), rfl, fun ys hy => by rw [I.tuple_inj hy hq]; exact hx⟩, ⟨⟨u, ?_⟩, st'.1.at fun o q => (sb.2 it (Ne.symm hne)).trans q⟩, fun b hb => ?_⟩
    · have e1 : ((i + 1 : Nat) : Int) = (i : Int) + 1 := by omega
      rw [e1]
      exact he'
    · have hb' : b < s.heap.objs.size := by
        rcases (show b = e ∨ b = it by simpa using hb) with z | z
        · rw [z]; exact hel
        · rw [z]; exact hil
      rw [upd_ne (Nat.ne_of_lt hb')]
      exact (hf b hb).1
  done := by
    intro X hP hw hK hc i pins s σ H E I hf st hg
    subst hP hw hK
    obtain ⟨⟨old, he⟩, hit⟩ := st
    obtain ⟨xs, hq, hx⟩ := hg
    obtain ⟨its, rv, p, hz⟩ := I.tuple hq
    obtain ⟨f0, f1, f2, f3, f4, f5⟩ := hf it (by simp)
    have tp : s.heap.IsTuple a its.toArray := p
    have hi : i = its.toArray.size := by rw [hx, rv.length]; simp
    rw [hi] at hit
    exact wpAny_pyNext_enum_endD (Draws.tuple (show X.A.in1.handled = none from I.ok.hd hc) it a hai its.toArray) he ⟨hit, tp⟩ fun h' eb => ⟨rfl, I.turned (t' := s.toks) (fun b o hb q => eb b o hb q) f0 f1 f3 f4 f5⟩
  self := fun A i s Q E st h => by
    obtain ⟨⟨_, he⟩, _⟩ := st
    exact wpAny_pyIter_enum he h
def iEnT (K : PySem.W.Frag) (ta : TA) : TI := fun σ H R => ta σ H fun vs H1 => ∃ a xs, vs = [.ref a] ∧ SqT K H1 a xs ∧ R (ItnT K a) H1
theorem pi_enumT {X : Cx} {e : Expr} {ta : TA} {p pos tpos : Pos} {elts : List Expr} {kk : Nat} (hg : Gl X "enumerate") (hm : X.mg "enumerate" = none) (ha : PA X [e] ta) (hs : starEach [e] X.env = [(false, eval e X.env)] := by rfl) :
    PI X (.Tuple elts kk tpos) (.Call (.Name "enumerate" p) [e] [] pos) (iEnT X.K ta) := by
  refine ⟨fun pins s σ H R I h => ?_⟩
  refine Call_ (ld_blt I hg hm boot_enumerate (PyProof.Rows.callWith_type1 (thn (ha.run pos pins s σ H _ I h) fun us s1 ⟨vs, H1, I1, r1, q1⟩ => ?_) hs rfl))
  obtain ⟨a, xs, rfl, hq, q⟩ := q1
  have eu := Vals.ref1 r1
  subst eu
  obtain ⟨its, rv, p', hz⟩ := I1.tuple hq
  have tp : s1.heap.IsTuple a its.toArray := p'
  have hal : a < s1.heap.objs.size := by obtain ⟨o, ho, _⟩ := p'; exact Heap.lt_size ho
  refine enum1_call (begins_tuple a its.toArray) tp fun h' he hit hk => wpAny_pyIter_enum he ?_
  have I2 : Inv X pins σ H1 { s1 with heap := h' } := I1.kept (t' := s1.toks) hk
  refine ⟨s1.heap.objs.size + 1, [s1.heap.objs.size + 1, s1.heap.objs.size], _, _, H1, rfl, I2, turn_enumT a (s1.heap.objs.size + 1) s1.heap.objs.size (Nat.succ_ne_self _) (Nat.ne_of_lt hal) (Nat.ne_of_gt (Nat.lt_succ_of_lt hal)), ⟨⟨.none, he⟩, ⟨_, hit, rfl, rfl⟩⟩, fun b hb => ?_, q⟩
  have hle : s1.heap.objs.size ≤ b := by
    rcases (show b = s1.heap.objs.size + 1 ∨ b = s1.heap.objs.size by simpa using hb) with z | z
    · rw [z]; exact Nat.le_add_right _ _
    · rw [z]; exact Nat.le_refl _
  exact I1.fpOk hle (I1.hok.fresh hle)
end PV

/-! PV9: calls of built-ins; what loops walk; repr. -/
namespace PV
open PySem PySem.Spec PyProof.Rows L2

/-- a datum as it stands: not changed any more, or a slot's object -/
def DenH (K : PySem.W.Frag) (F H : Hp) (d : D) (v : V) : Prop := Den K F d v ∨ ∃ (m : MD) (a : Addr) (o : HO), d = m.d ∧ v = .ref a ∧ H a = some o ∧ MDen K F m o
def DensH (K : PySem.W.Frag) (F H : Hp) : List D → List V → Prop
  | [], vs => vs = []
  | d :: ds, vs => ∃ v r, vs = v :: r ∧ DenH K F H d v ∧ DensH K F H ds r
def peekA (δ : DE) : Arg → Option D
  | .val d => some d
  | .slot i => (mutOf δ i).map fun p => p.2.d
def peeks (δ : DE) : List Arg → Option (List D)
  | [] => some []
  | a :: as => (peekA δ a).bind fun d => (peeks δ as).map fun r => d :: r
section
variable {K : PySem.W.Frag} {c : Cq} {F H : Hp} {σ : L2.St} {δ : DE}
theorem Rel.peek (r : Rel K c F H σ δ) : ∀ {as : List Arg} {ds : List D} {vs : List V}, peeks δ as = some ds → ArgsD K F σ as vs → DensH K F H ds vs
  | [], _, _, h, g => by cases h; exact g
  | a :: as, ds, vs, h, ⟨v, t, e, g1, g2⟩ => by
    obtain ⟨d, h1, h2⟩ := Option.bind_eq_some_iff.mp h
    obtain ⟨ds', h3, rfl⟩ := Option.map_eq_some_iff.mp h2
    refine ⟨v, t, e, ?_, r.peek h3 g2⟩
    cases a with
    | val d' => cases h1; exact .inl g1
    | slot i =>
      obtain ⟨p, h4, rfl⟩ := Option.map_eq_some_iff.mp h1
      obtain ⟨s, m⟩ := p
      obtain ⟨q1, q2⟩ := mutOf_some h4
      obtain ⟨b, o, w1, w2, w3, _⟩ := r.mutAt q1 q2
      have g1 : σ[i]? = some (some v) := g1
      rw [w1] at g1; cases g1
      exact .inr ⟨m, b, o, rfl, rfl, w2, w3⟩
theorem DenH.lst (s : Same F H) {l : List D} {v : V} (h : DenH K F H (.lst l) v) : ∃ a xs, v = .ref a ∧ H a = some (.lst xs) ∧ Dens K F l xs := by
  rcases h with ⟨a, xs, e, h1, h2⟩ | ⟨m, a, o, e, e1, h1, h2⟩
  · exact ⟨a, xs, e, s _ _ h1, h2⟩
  · cases m with
    | lst l' =>
      cases e
      obtain ⟨xs, rfl, h2⟩ := mden_lst h2
      exact ⟨a, xs, e1, h1, h2⟩
    | dct l' => cases e
    | ins c l' => cases e
theorem DenH.low {d : D} {v : V} (h : DenH K F H d v) (n1 : ∀ l, d ≠ .lst l) (n2 : ∀ l, d ≠ .dct l) (n3 : ∀ c l, d ≠ .ins c l) : Den K F d v := by
  rcases h with h | ⟨m, a, o, e, _⟩
  · exact h
  · cases m with
    | lst l => exact absurd e (n1 l)
    | dct l => exact absurd e (n2 l)
    | ins c l => exact absurd e (n3 c l)
end

/-! ### a call of a built-in, by data -/
def callB (o : List D → Option D) (fa : DE → R (List Arg)) : DE → R D := fun δ => (fa δ).bind fun as δ => match peeks δ as with
  | some ds => R.of (o ds) δ
  | none => .stuck
def callN (o : List D → Option MD) (fa : DE → R (List Arg)) : DE → R MD := fun δ => (fa δ).bind fun as δ => match peeks δ as with
  | some ds => R.of (o ds) δ
  | none => .stuck
def Bf (X : Cx) (f : Value) (o : List D → Option D) : Prop := ∃ r, CallR X f r ∧ ∀ c F H σ δ ds z vs (Q : VK), Rel X.K c F H σ δ → DensH X.K F H ds vs → o ds = some z →
  (∀ u F' H', Rel X.K c F' H' σ δ → Same F F' → Den X.K F' z u → Q u H') → r vs H Q
def Bn (X : Cx) (f : Value) (o : List D → Option MD) : Prop := ∃ r, CallR X f r ∧ ∀ c F H σ δ ds z vs (Q : VK), Rel X.K c F H σ δ → DensH X.K F H ds vs → o ds = some z →
  (∀ u F' H', Rel X.K c F' H' σ δ → Same F F' → dnN X.K c F' H' σ δ z u → Q u H') → r vs H Q
section
variable {X : Cx} {W : WX} {x : Str} {p pos : Pos} {e : Expr} {es : List Expr} {fa : DE → R (List Arg)} {id T : String}
theorem rd_callB {f : Value} {o : List D → Option D} (h : Bf X f o) : ∃ r, CallR X f r ∧ ∀ σ H Q, rdE X.K W (callB o fa) σ H Q → tCB r (rdA X.K W fa) σ H Q := by
  obtain ⟨r, h1, h2⟩ := h
  refine ⟨r, h1, fun σ H Q z => ?_⟩
  refine z.first (DM := dnA X.K) fun c F H1 δ as vs r1 d1 z1 => ?_
  cases q : peeks δ as with
  | none => rw [q] at z1; exact False.elim z1
  | some ds =>
    rw [q] at z1
    have z1 : aft X.K W (dnE X.K) c F σ Q (R.of (o ds) δ) := z1
    cases q2 : o ds with
    | none => rw [q2] at z1; exact False.elim z1
    | some d =>
      rw [q2] at z1
      exact h2 c F H1 σ δ ds d vs Q r1 (r1.peek q d1) q2 fun u F' H' r' s' d' => z1 u F' H' r' s' d'
theorem rd_callN {f : Value} {o : List D → Option MD} (h : Bn X f o) : ∃ r, CallR X f r ∧ ∀ σ H Q, rdN X.K W (callN o fa) σ H Q → tCB r (rdA X.K W fa) σ H Q := by
  obtain ⟨r, h1, h2⟩ := h
  refine ⟨r, h1, fun σ H Q z => ?_⟩
  refine z.first (DM := dnA X.K) fun c F H1 δ as vs r1 d1 z1 => ?_
  cases q : peeks δ as with
  | none => rw [q] at z1; exact False.elim z1
  | some ds =>
    rw [q] at z1
    have z1 : aft X.K W (dnN X.K) c F σ Q (R.of (o ds) δ) := z1
    cases q2 : o ds with
    | none => rw [q2] at z1; exact False.elim z1
    | some d =>
      rw [q2] at z1
      exact h2 c F H1 σ δ ds d vs Q r1 (r1.peek q d1) q2 fun u F' H' r' s' d' => z1 u F' H' r' s' d'
theorem ve_bf {o : List D → Option D} (h : Bf X (.builtin id) o) (hg : Gl X x) (hm : X.mg x = none) (hv : bootBuiltins x = some (.builtin id)) (ha : VA X W (e :: es) fa) (hn : x ≠ "__name__" := by decide) (hdb : (x == ("__debug__" : Str)) = false := by decide)
    (he : starEach (e :: es) X.env = (false, eval e X.env) :: starEach es X.env := by rfl) (hpl : (backTo pos (starEach es X.env)).any (·.1) = false := by rfl) : VE X W (.Call (.Name x p) (e :: es) [] pos) (callB o fa) := by
  obtain ⟨r, h1, h2⟩ := rd_callB (W := W) (fa := fa) h
  exact PE.to (pe_callB h1 hg hm hv ha hn hdb he hpl) h2
theorem ve_bty {o : List D → Option D} (h : Bf X (.type T) o) (hg : Gl X x) (hm : X.mg x = none) (hv : bootBuiltins x = some (.type T)) (ha : VA X W (e :: es) fa) (hn : x ≠ "__name__" := by decide) (hdb : (x == ("__debug__" : Str)) = false := by decide)
    (he : starEach (e :: es) X.env = (false, eval e X.env) :: starEach es X.env := by rfl) (hpl : (backTo pos (starEach es X.env)).any (·.1) = false := by rfl) : VE X W (.Call (.Name x p) (e :: es) [] pos) (callB o fa) := by
  obtain ⟨r, h1, h2⟩ := rd_callB (W := W) (fa := fa) h
  exact PE.to (pe_callTy h1 hg hm hv ha hn hdb he hpl) h2
theorem vn_bf {o : List D → Option MD} (h : Bn X (.builtin id) o) (hg : Gl X x) (hm : X.mg x = none) (hv : bootBuiltins x = some (.builtin id)) (ha : VA X W (e :: es) fa) (hn : x ≠ "__name__" := by decide) (hdb : (x == ("__debug__" : Str)) = false := by decide)
    (he : starEach (e :: es) X.env = (false, eval e X.env) :: starEach es X.env := by rfl) (hpl : (backTo pos (starEach es X.env)).any (·.1) = false := by rfl) : VN X W (.Call (.Name x p) (e :: es) [] pos) (callN o fa) := by
  obtain ⟨r, h1, h2⟩ := rd_callN (W := W) (fa := fa) h
  exact PE.to (pe_callB h1 hg hm hv ha hn hdb he hpl) h2
theorem vn_bty {o : List D → Option MD} (h : Bn X (.type T) o) (hg : Gl X x) (hm : X.mg x = none) (hv : bootBuiltins x = some (.type T)) (ha : VA X W (e :: es) fa) (hn : x ≠ "__name__" := by decide) (hdb : (x == ("__debug__" : Str)) = false := by decide)
    (he : starEach (e :: es) X.env = (false, eval e X.env) :: starEach es X.env := by rfl) (hpl : (backTo pos (starEach es X.env)).any (·.1) = false := by rfl) : VN X W (.Call (.Name x p) (e :: es) [] pos) (callN o fa) := by
  obtain ⟨r, h1, h2⟩ := rd_callN (W := W) (fa := fa) h
  exact PE.to (pe_callTy h1 hg hm hv ha hn hdb he hpl) h2
end
theorem Bf.or {X : Cx} {f : Value} {o o' : List D → Option D} (h : Bf X f o) (h' : Bf X f o') : Bf X f (fun ds => (o ds).or (o' ds)) := by
  obtain ⟨r, h1, h2⟩ := h
  obtain ⟨r', h1', h2'⟩ := h'
  refine ⟨_, CallR.or h1 h1', fun c F H σ δ ds z vs Q r0 d1 q k => ?_⟩
  have q : (o ds).or (o' ds) = some z := q
  cases e1 : o ds with
  | some y => rw [e1] at q; exact .inl (h2 c F H σ δ ds z vs Q r0 d1 (by rw [e1]; exact q) k)
  | none => rw [e1] at q; exact .inr (h2' c F H σ δ ds z vs Q r0 d1 q k)

/-! ### len, max, min, sum, all, any, tuple, list -/
def lenD : List D → Option D
  | [.lst l] => some (.int l.length)
  | [.tup l] => some (.int l.length)
  | [.scr l] => some (.int l.length)
  | [.str s] => if s.length ≤ LIM then some (.int s.length) else none
  | [.byt s] => if s.size ≤ LIM then some (.int s.size) else none
  | _ => none
def max2D : List D → Option D
  | [.int i, .int j] => some (.int (if j > i then j else i))
  | _ => none
def min2D : List D → Option D
  | [.int i, .int j] => some (.int (if j < i then j else i))
  | _ => none
def intsOf : List D → Option (List Int)
  | [] => some []
  | .int i :: ds => (intsOf ds).map fun r => i :: r
  | _ :: _ => none
def blsOf : List D → Option (List Bool)
  | [] => some []
  | .bl i :: ds => (blsOf ds).map fun r => i :: r
  | _ :: _ => none
def maxI : List Int → Int
  | [] => 0
  | [x] => x
  | x :: y :: r => max x (maxI (y :: r))
def minI : List Int → Int
  | [] => 0
  | [x] => x
  | x :: y :: r => min x (minI (y :: r))
theorem maxI_mem : ∀ {l : List Int}, l ≠ [] → maxI l ∈ l ∧ ∀ y ∈ l, y ≤ maxI l
  | [], h => absurd rfl h
  | [x], _ => ⟨List.mem_singleton.mpr rfl, fun y hy => by rw [List.mem_singleton.mp hy]; exact Int.le_refl _⟩
  | x :: y :: r, _ => by
    obtain ⟨h1, h2⟩ := maxI_mem (l := y :: r) (by simp)
    unfold maxI
    refine ⟨?_, fun z hz => ?_⟩
    · by_cases q : x ≤ maxI (y :: r)
      · rw [Int.max_eq_right q]; exact List.mem_cons_of_mem _ h1
      · rw [Int.max_eq_left (by omega)]; exact List.mem_cons_self
    · rcases List.mem_cons.mp hz with q | q
      · rw [q]; exact Int.le_max_left _ _
      · exact Int.le_trans (h2 z q) (Int.le_max_right _ _)
theorem minI_mem : ∀ {l : List Int}, l ≠ [] → minI l ∈ l ∧ ∀ y ∈ l, minI l ≤ y
  | [], h => absurd rfl h
  | [x], _ => ⟨List.mem_singleton.mpr rfl, fun y hy => by rw [List.mem_singleton.mp hy]; exact Int.le_refl _⟩
  | x :: y :: r, _ => by
    obtain ⟨h1, h2⟩ := minI_mem (l := y :: r) (by simp)
    unfold minI
    refine ⟨?_, fun z hz => ?_⟩
    · by_cases q : maxI [0] ≤ 0 ∧ x ≤ minI (y :: r)
      · rw [Int.min_eq_left q.2]; exact List.mem_cons_self
      · have : minI (y :: r) ≤ x := by
          have : maxI [0] = 0 := rfl
          omega
        rw [Int.min_eq_right this]; exact List.mem_cons_of_mem _ h1
    · rcases List.mem_cons.mp hz with q | q
      · rw [q]; exact Int.min_le_left _ _
      · exact Int.le_trans (Int.min_le_right _ _) (h2 z q)
def maxLD : List D → Option D
  | [.lst l] => (intsOf l).bind fun ns => if ns = [] then none else some (.int (maxI ns))
  | _ => none
def minLD : List D → Option D
  | [.lst l] => (intsOf l).bind fun ns => if ns = [] then none else some (.int (minI ns))
  | _ => none
def sumLD : List D → Option D
  | [.lst l] => (intsOf l).map fun ns => .int ns.sum
  | _ => none
def allD : List D → Option D
  | [.lst l] => (blsOf l).map fun bs => .bl (bs.all id)
  | _ => none
def anyD : List D → Option D
  | [.lst l] => (blsOf l).map fun bs => .bl (bs.any id)
  | _ => none
def tupleD : List D → Option D
  | [.lst l] => some (.tup l)
  | [.tup l] => some (.tup l)
  | _ => none
def listN : List D → Option MD
  | [.lst l] => some (.lst l)
  | [.tup l] => some (.lst l)
  | _ => none
theorem ints_den {K : PySem.W.Frag} {F : Hp} : ∀ {ds : List D} {ns : List Int} {vs : List V}, intsOf ds = some ns → Dens K F ds vs → vs = ns.map V.int
  | [], _, _, h, g => by cases h; exact g
  | d :: ds, ns, vs, h, ⟨v, r, e, g1, g2⟩ => by
    cases d <;> first | (cases h; done) | skip
    obtain ⟨t, h1, rfl⟩ := Option.map_eq_some_iff.mp h
    rw [e, show v = _ from g1, ints_den h1 g2]
    rfl
theorem bls_den {K : PySem.W.Frag} {F : Hp} : ∀ {ds : List D} {ns : List Bool} {vs : List V}, blsOf ds = some ns → Dens K F ds vs → vs = ns.map V.bl
  | [], _, _, h, g => by cases h; exact g
  | d :: ds, ns, vs, h, ⟨v, r, e, g1, g2⟩ => by
    cases d <;> first | (cases h; done) | skip
    obtain ⟨t, h1, rfl⟩ := Option.map_eq_some_iff.mp h
    rw [e, show v = _ from g1, bls_den h1 g2]
    rfl
section
variable {X : Cx}
theorem densH1 {K : PySem.W.Frag} {F H : Hp} {d : D} {vs : List V} (h : DensH K F H [d] vs) : ∃ v, vs = [v] ∧ DenH K F H d v := by
  obtain ⟨v, r, e, h1, h2⟩ := h
  rw [show r = _ from h2] at e
  exact ⟨v, e, h1⟩
theorem densH2 {K : PySem.W.Frag} {F H : Hp} {d d' : D} {vs : List V} (h : DensH K F H [d, d'] vs) : ∃ v v', vs = [v, v'] ∧ DenH K F H d v ∧ DenH K F H d' v' := by
  obtain ⟨v, r, e, h1, h2⟩ := h
  obtain ⟨v', e', h3⟩ := densH1 h2
  rw [e'] at e
  exact ⟨v, v', e, h1, h3⟩
theorem b_len : Bf X (.builtin "len") lenD := by
  refine ⟨_, call_len, fun c F H σ δ ds z vs Q r d1 q k => ?_⟩
  unfold lenD at q
  split at q
  · cases q
    obtain ⟨v, rfl, h⟩ := densH1 d1
    obtain ⟨a, xs, rfl, h1, h2⟩ := h.lst r.sub
    exact ⟨_, xs.length, rfl, .inl ⟨xs, .inl (.inl h1), rfl⟩, k _ F H r (.refl _) (by rw [h2.length]; rfl)⟩
  · cases q
    obtain ⟨v, rfl, h⟩ := densH1 d1
    obtain ⟨a, xs, rfl, h1, h2⟩ := h.low (fun _ z => nomatch z) (fun _ z => nomatch z) fun _ _ z => nomatch z
    exact ⟨_, xs.length, rfl, .inr ⟨xs, PV.Same.tup r.sub h1, rfl⟩, k _ F H r (.refl _) (by rw [h2.length]; rfl)⟩
  · cases q
    obtain ⟨v, rfl, h⟩ := densH1 d1
    obtain ⟨a, rfl, h1⟩ := h.low (fun _ z => nomatch z) (fun _ z => nomatch z) fun _ _ z => nomatch z
    exact ⟨_, _, rfl, .inl ⟨_, r.sub.seq h1, rfl⟩, k _ F H r (.refl _) (by rw [List.length_map]; rfl)⟩
  · rename_i s
    split at q
    · rename_i hl
      cases q
      obtain ⟨v, rfl, h⟩ := densH1 d1
      have h := h.low (fun _ z => nomatch z) (fun _ z => nomatch z) fun _ _ z => nomatch z
      rw [show v = _ from h]
      exact ⟨_, s.length, rfl, ⟨lim_le hl, rfl⟩, k _ F H r (.refl _) rfl⟩
    · cases q
  · rename_i s
    split at q
    · rename_i hl
      cases q
      obtain ⟨v, rfl, h⟩ := densH1 d1
      have h := h.low (fun _ z => nomatch z) (fun _ z => nomatch z) fun _ _ z => nomatch z
      rw [show v = _ from h]
      exact ⟨_, s.size, rfl, ⟨lim_le hl, rfl⟩, k _ F H r (.refl _) rfl⟩
    · cases q
  · cases q
theorem two_ints {K : PySem.W.Frag} {F H : Hp} {i j : Int} {vs : List V} (h : DensH K F H [.int i, .int j] vs) : vs = [.int i, .int j] := by
  obtain ⟨v, v', rfl, h1, h2⟩ := densH2 h
  have h1 := h1.low (fun _ z => nomatch z) (fun _ z => nomatch z) fun _ _ z => nomatch z
  have h2 := h2.low (fun _ z => nomatch z) (fun _ z => nomatch z) fun _ _ z => nomatch z
  rw [show v = _ from h1, show v' = _ from h2]
theorem b_max2 (hc : X.calm = true) : Bf X (.builtin "max") max2D := by
  refine ⟨_, call_max2 hc, fun c F H σ δ ds z vs Q r d1 q k => ?_⟩
  unfold max2D at q
  split at q
  · cases q
    exact ⟨_, _, two_ints d1, k _ F H r (.refl _) rfl⟩
  · cases q
theorem b_min2 (hc : X.calm = true) : Bf X (.builtin "min") min2D := by
  refine ⟨_, call_min2 hc, fun c F H σ δ ds z vs Q r d1 q k => ?_⟩
  unfold min2D at q
  split at q
  · cases q
    exact ⟨_, _, two_ints d1, k _ F H r (.refl _) rfl⟩
  · cases q
theorem b_maxL (hc : X.calm = true) : Bf X (.builtin "max") maxLD := by
  refine ⟨_, cr_max hc, fun c F H σ δ ds z vs Q r d1 q k => ?_⟩
  unfold maxLD at q
  split at q
  · obtain ⟨ns, q1, q2⟩ := Option.bind_eq_some_iff.mp q
    split at q2
    · cases q2
    · rename_i hne
      cases q2
      obtain ⟨v, rfl, h⟩ := densH1 d1
      obtain ⟨a, xs, rfl, h1, h2⟩ := h.lst r.sub
      rw [ints_den q1 h2] at h1
      refine ⟨a, ns, rfl, .inl (.inl h1), List.length_pos_iff.mpr hne, fun m hm hy => ?_⟩
      obtain ⟨g1, g2⟩ := maxI_mem hne
      have : m = maxI ns := Int.le_antisymm (g2 m hm) (hy _ g1)
      rw [this]
      exact k _ F H r (.refl _) rfl
  · cases q
theorem b_minL (hc : X.calm = true) : Bf X (.builtin "min") minLD := by
  refine ⟨_, cr_min hc, fun c F H σ δ ds z vs Q r d1 q k => ?_⟩
  unfold minLD at q
  split at q
  · obtain ⟨ns, q1, q2⟩ := Option.bind_eq_some_iff.mp q
    split at q2
    · cases q2
    · rename_i hne
      cases q2
      obtain ⟨v, rfl, h⟩ := densH1 d1
      obtain ⟨a, xs, rfl, h1, h2⟩ := h.lst r.sub
      rw [ints_den q1 h2] at h1
      refine ⟨a, ns, rfl, .inl (.inl h1), List.length_pos_iff.mpr hne, fun m hm hy => ?_⟩
      obtain ⟨g1, g2⟩ := minI_mem hne
      have : m = minI ns := Int.le_antisymm (hy _ g1) (g2 m hm)
      rw [this]
      exact k _ F H r (.refl _) rfl
  · cases q
theorem b_sum (hc : X.calm = true) : Bf X (.builtin "sum") sumLD := by
  refine ⟨_, cr_sum hc, fun c F H σ δ ds z vs Q r d1 q k => ?_⟩
  unfold sumLD at q
  split at q
  · obtain ⟨ns, q1, rfl⟩ := Option.map_eq_some_iff.mp q
    obtain ⟨v, rfl, h⟩ := densH1 d1
    obtain ⟨a, xs, rfl, h1, h2⟩ := h.lst r.sub
    rw [ints_den q1 h2] at h1
    exact ⟨a, ns, rfl, .inl (.inl h1), k _ F H r (.refl _) rfl⟩
  · cases q
theorem b_all (hc : X.calm = true) : Bf X (.builtin "all") allD := by
  refine ⟨_, cr_all hc, fun c F H σ δ ds z vs Q r d1 q k => ?_⟩
  unfold allD at q
  split at q
  · obtain ⟨ns, q1, rfl⟩ := Option.map_eq_some_iff.mp q
    obtain ⟨v, rfl, h⟩ := densH1 d1
    obtain ⟨a, xs, rfl, h1, h2⟩ := h.lst r.sub
    rw [bls_den q1 h2] at h1
    exact ⟨a, ns, rfl, .inl (.inl h1), k _ F H r (.refl _) rfl⟩
  · cases q
theorem b_any (hc : X.calm = true) : Bf X (.builtin "any") anyD := by
  refine ⟨_, cr_any hc, fun c F H σ δ ds z vs Q r d1 q k => ?_⟩
  unfold anyD at q
  split at q
  · obtain ⟨ns, q1, rfl⟩ := Option.map_eq_some_iff.mp q
    obtain ⟨v, rfl, h⟩ := densH1 d1
    obtain ⟨a, xs, rfl, h1, h2⟩ := h.lst r.sub
    rw [bls_den q1 h2] at h1
    exact ⟨a, ns, rfl, .inl (.inl h1), k _ F H r (.refl _) rfl⟩
  · cases q
theorem b_tuple : Bf X (.type "tuple") tupleD := by
  refine ⟨_, call_tuple_of, fun c F H σ δ ds z vs Q r d1 q k => ?_⟩
  unfold tupleD at q
  split at q
  · cases q
    obtain ⟨v, rfl, h⟩ := densH1 d1
    obtain ⟨a, xs, rfl, h1, h2⟩ := h.lst r.sub
    exact ⟨a, xs, rfl, .inl ⟨.inl (.inl h1), fun p hp => k _ _ _ (r.lay hp) (same_new (r.freeF hp)) ⟨p, xs, rfl, .inl (.inl upd_same), Dens.mono (same_new (r.freeF hp)) _ _ h2⟩⟩⟩
  · cases q
    obtain ⟨v, rfl, h⟩ := densH1 d1
    obtain ⟨a, xs, rfl, h1, h2⟩ := h.low (fun _ z => nomatch z) (fun _ z => nomatch z) fun _ _ z => nomatch z
    exact ⟨a, xs, rfl, .inr ⟨PV.Same.tup r.sub h1, k _ F H r (.refl _) ⟨a, xs, rfl, h1, h2⟩⟩⟩
  · cases q
theorem b_list : Bn X (.type "list") listN := by
  refine ⟨_, call_list_of, fun c F H σ δ ds z vs Q r d1 q k => ?_⟩
  unfold listN at q
  split at q
  · cases q
    obtain ⟨v, rfl, h⟩ := densH1 d1
    obtain ⟨a, xs, rfl, h1, h2⟩ := h.lst r.sub
    refine ⟨a, xs, rfl, .inl (.inl (.inl h1)), fun p hp => ?_⟩
    obtain ⟨g1, g2⟩ := r.fresh (o := .lst xs) (m := .lst _) hp h2
    exact k _ _ _ g1 (.refl _) g2
  · cases q
    obtain ⟨v, rfl, h⟩ := densH1 d1
    obtain ⟨a, xs, rfl, h1, h2⟩ := h.low (fun _ z => nomatch z) (fun _ z => nomatch z) fun _ _ z => nomatch z
    refine ⟨a, xs, rfl, .inr (PV.Same.tup r.sub h1), fun p hp => ?_⟩
    obtain ⟨g1, g2⟩ := r.fresh (o := .lst xs) (m := .lst _) hp h2
    exact k _ _ _ g1 (.refl _) g2
  · cases q
end

/-! ### isinstance of a built-in type -/
def D.tyN : D → Option String
  | .non => some "NoneType"
  | .bl _ => some "bool"
  | .int _ => some "int"
  | .str _ => some "str"
  | .byt _ => some "bytes"
  | .tup _ => some "tuple"
  | .lst _ => some "list"
  | .dct _ => some "dict"
  | _ => none
def isiD : List D → Option D
  | [x, .ty T] => x.tyN.bind fun t => (kitB t T).map .bl
  | _ => none
theorem sqT_ty {K : PySem.W.Frag} {H : Hp} {a : Addr} {xs : List V} (h : SqT K H a xs) : TyX K H (.ref a) (.type "tuple") := by
  rcases h with (h | ⟨o, h⟩) | h
  · exact .base (.tup h)
  · exact .fTuple h
  · obtain ⟨o, its, n, e, c, _⟩ := h
    exact .kTuple e c
theorem tyN_x {K : PySem.W.Frag} {F H : Hp} (s : Same F H) {x : D} {v : V} {t : String} (h : DenH K F H x v) (e : x.tyN = some t) : TyX K H v (.type t) := by
  cases x <;> first | (cases e; done) | skip
  · have h := h.low (fun _ z => nomatch z) (fun _ z => nomatch z) fun _ _ z => nomatch z
    cases e; rw [show v = _ from h]; exact .base .non
  · have h := h.low (fun _ z => nomatch z) (fun _ z => nomatch z) fun _ _ z => nomatch z
    cases e; rw [show v = _ from h]; exact .base (.bl _)
  · have h := h.low (fun _ z => nomatch z) (fun _ z => nomatch z) fun _ _ z => nomatch z
    cases e; rw [show v = _ from h]; exact .base (.int _)
  · have h := h.low (fun _ z => nomatch z) (fun _ z => nomatch z) fun _ _ z => nomatch z
    cases e; rw [show v = _ from h]; exact .base (.str _)
  · have h := h.low (fun _ z => nomatch z) (fun _ z => nomatch z) fun _ _ z => nomatch z
    cases e; rw [show v = _ from h]; exact .byt _
  · have h := h.low (fun _ z => nomatch z) (fun _ z => nomatch z) fun _ _ z => nomatch z
    cases e
    obtain ⟨a, xs, rfl, h1, _⟩ := h
    exact sqT_ty (PV.Same.tup s h1)
  · cases e
    obtain ⟨a, xs, rfl, h1, _⟩ := h.lst s
    exact .base (.lst h1)
  · cases e
    rcases h with ⟨a, xs, rfl, h1, _⟩ | ⟨m, a, o, e', rfl, h1, h2⟩
    · exact .base (.dK (s _ _ h1))
    · cases m with
      | lst l => cases e'
      | ins c l => cases e'
      | dct l =>
        cases o <;> first | exact False.elim h2 | skip
        exact .base (.dK h1)
theorem b_isi {X : Cx} : Bf X (.builtin "isinstance") isiD := by
  refine ⟨_, call_isi, fun c F H σ δ ds z vs Q r d1 q k => ?_⟩
  unfold isiD at q
  split at q
  · obtain ⟨t, q1, q2⟩ := Option.bind_eq_some_iff.mp q
    obtain ⟨b, q3, rfl⟩ := Option.map_eq_some_iff.mp q2
    obtain ⟨v, v', rfl, h1, h2⟩ := densH2 d1
    have h2 := h2.low (fun _ z => nomatch z) (fun _ z => nomatch z) fun _ _ z => nomatch z
    rw [show v' = _ from h2]
    exact ⟨v, _, _, _, b, rfl, .ty _, tyN_x r.sub h1 q1, kit_ty q3, k _ F H r (.refl _) rfl⟩
  · cases q
end PV

/-! PV10: what loops walk; repr; the end of a law. -/
namespace PV
open PySem PySem.Spec PyProof.Rows L2

theorem PI.or {X : Cx} {tg e : Expr} {t t' : TI} (h : PI X tg e t) (h' : PI X tg e t') : PI X tg e (fun σ H Q => t σ H Q ∨ t' σ H Q) := ⟨fun pins s σ H Q I z => z.elim (h.run pins s σ H Q I) (h'.run pins s σ H Q I)⟩
/-! ### walks -/
def seqE (f : DE → R D) : DE → R (List D) := fun δ => (f δ).bind fun x δ => match x with
  | .lst l => .ok l δ
  | .tup l => .ok l δ
  | .scr l => .ok (l.map .int) δ
  | .str s => .ok (s.cps.toList.map fun c => .str ⟨#[c]⟩) δ
  | _ => .stuck
section
variable {K : PySem.W.Frag} {F0 : Hp}
theorem it_list {a : Addr} {xs : List V} {ds : List D} (h : SqL K F0 a xs) (d : Dens K F0 ds xs) : ItF K F0 (Itl K a) ds := by
  intro c F H σ δ i r s
  have h1 : SqL K H a xs := r.sub.seq (s.seq h)
  refine ⟨fun d0 e => ?_, fun e => ⟨xs, h1, by rw [d.length, e]; exact Nat.le_refl _⟩⟩
  obtain ⟨v, g1, g2⟩ := d.get e
  refine ⟨⟨xs, v, h1, g1⟩, fun x H1 y => ?_⟩
  obtain ⟨rfl, y2⟩ := y
  have := (y2 xs h1).symm.trans g1
  cases this
  exact ⟨F, r, .refl _, Den.mono s _ _ g2⟩
theorem it_tup {a : Addr} {xs : List V} {ds : List D} (h : SqT K F0 a xs) (d : Dens K F0 ds xs) : ItF K F0 (Itt K a) ds := by
  intro c F H σ δ i r s
  have h1 : SqT K H a xs := PV.Same.tup r.sub (PV.Same.tup s h)
  refine ⟨fun d0 e => ?_, fun e => ⟨xs, h1, by rw [d.length, e]; exact Nat.le_refl _⟩⟩
  obtain ⟨v, g1, g2⟩ := d.get e
  refine ⟨⟨xs, v, h1, g1⟩, fun x H1 y => ?_⟩
  obtain ⟨rfl, y2⟩ := y
  have := (y2 xs h1).symm.trans g1
  cases this
  exact ⟨F, r, .refl _, Den.mono s _ _ g2⟩
theorem it_str {x : Str} : ItF K F0 (Its x) (x.cps.toList.map fun c => .str ⟨#[c]⟩) := by
  intro c F H σ δ i r s
  refine ⟨fun d0 e => ?_, fun e => ?_⟩
  · rw [List.getElem?_map] at e
    cases q : x.cps.toList[i]? with
    | none => rw [q] at e; cases e
    | some cp =>
      rw [q] at e
      cases e
      refine ⟨?_, fun v H1 y => ?_⟩
      · have := (List.getElem?_eq_some_iff.mp q).1
        show i < x.cps.size
        simpa using this
      · obtain ⟨rfl, c', y1, rfl⟩ := y
        rw [Array.getElem?_toList] at q
        rw [q] at y1
        cases y1
        exact ⟨F, r, .refl _, rfl⟩
  · show x.cps.size ≤ i
    rw [e, List.length_map]
    simp
theorem dens_ints {F : Hp} : ∀ ns : List Int, Dens K F (ns.map .int) (ns.map V.int)
  | [] => rfl
  | n :: ns => ⟨.int n, _, rfl, rfl, dens_ints ns⟩
theorem it_range {lo : Int} {n : Nat} : ItF K F0 (Itr lo n) ((List.range n).map fun i => .int (lo + (i : Nat))) := by
  intro c F H σ δ i r s
  refine ⟨fun d0 e => ?_, fun e => ?_⟩
  · rw [List.getElem?_map] at e
    by_cases hi : i < n
    · rw [List.getElem?_range hi] at e
      cases e
      refine ⟨hi, fun v H1 y => ?_⟩
      obtain ⟨rfl, rfl⟩ := y
      exact ⟨F, r, .refl _, rfl⟩
    · rw [List.getElem?_eq_none (by rw [List.length_range]; omega)] at e
      cases e
  · rw [List.length_map, List.length_range] at e
    exact Nat.le_of_eq e.symm
end
section
variable {X : Cx} {W : WX} {tg e : Expr} {f : DE → R D} {p pos : Pos}
theorem vi_seq (h : VE X W e f) : VI X W tg e (seqE f) := PI.to (PI.or (pi_list h) (PI.or (pi_tup h) (pi_str h))) fun σ H Q z => by
  obtain ⟨c, F, δ, r, z0⟩ := id z
  have z0 : aft X.K W (dnI X.K) c F σ Q ((f δ).bind _) := z0
  cases q : f δ with
  | exc x δ1 => rw [q] at z0; exact .inl ⟨c, F, δ, r, by rw [q]; exact z0⟩
  | stuck => rw [q] at z0; exact False.elim z0
  | ok d δ1 =>
    rw [q] at z0
    cases d <;> first | (exact False.elim z0; done) | skip
    · refine .inr (.inr ⟨c, F, δ, r, ?_⟩)
      rw [q]
      intro v F' H' r' s' d'
      exact ⟨_, d', z0 _ F' H' r' s' it_str⟩
    · refine .inl ⟨c, F, δ, r, ?_⟩
      rw [q]
      intro v F' H' r' s' d'
      obtain ⟨a, rfl, h1⟩ := d'
      exact ⟨a, rfl, ⟨_, r'.sub.seq h1⟩, z0 _ F' H' r' s' (it_list h1 (dens_ints _))⟩
    · refine .inr (.inl ⟨c, F, δ, r, ?_⟩)
      rw [q]
      intro v F' H' r' s' d'
      obtain ⟨a, xs, rfl, h1, h2⟩ := d'
      exact ⟨a, rfl, ⟨xs, PV.Same.tup r'.sub h1⟩, z0 _ F' H' r' s' (it_tup h1 h2)⟩
    · refine .inl ⟨c, F, δ, r, ?_⟩
      rw [q]
      intro v F' H' r' s' d'
      obtain ⟨a, xs, rfl, h1, h2⟩ := d'
      exact ⟨a, rfl, ⟨xs, .inl (.inl (r'.sub _ _ h1))⟩, z0 _ F' H' r' s' (it_list (.inl (.inl h1)) h2)⟩
/-- range(n), range(a, b) -/
def rng1 (fa : DE → R (List Arg)) : DE → R (List D) := fun δ => (fa δ).bind fun as δ => match as with
  | [.val (.int j)] => if j < 2 ^ 62 ∧ -(2 ^ 62) ≤ j then .ok ((List.range j.toNat).map fun i => .int ((0 : Int) + (i : Nat))) δ else .stuck
  | _ => .stuck
def rng2 (fa : DE → R (List Arg)) : DE → R (List D) := fun δ => (fa δ).bind fun as δ => match as with
  | [.val (.int i), .val (.int j)] => if j < 2 ^ 62 ∧ -(2 ^ 62) ≤ j ∧ i < 2 ^ 62 ∧ -(2 ^ 62) ≤ i then .ok ((List.range (j - i).toNat).map fun k => .int (i + (k : Nat))) δ else .stuck
  | _ => .stuck
theorem argsD1 {K : PySem.W.Frag} {F : Hp} {σ : L2.St} {d : D} {vs : List V} (h : ArgsD K F σ [.val d] vs) : ∃ v, vs = [v] ∧ Den K F d v := by
  obtain ⟨v, r, e, h1, h2⟩ := h
  rw [show r = _ from h2] at e
  exact ⟨v, e, h1⟩
theorem vi_range1 {a : Expr} {fa : DE → R (List Arg)} (hg : Gl X "range") (hm : X.mg "range" = none) (ha : VA X W [a] fa) (hs : starEach [a] X.env = [(false, eval a X.env)] := by rfl) : VI X W tg (.Call (.Name "range" p) [a] [] pos) (rng1 fa) := PI.to (pi_range1 hg hm ha hs) fun σ H Q z => by
  refine z.first (DM := dnA X.K) fun c F H1 δ as vs r1 d1 z1 => ?_
  split at z1
  · rename_i j
    split at z1
    · rename_i hj
      obtain ⟨v, rfl, h⟩ := argsD1 d1
      rw [show v = _ from h]
      exact ⟨j, rfl, hj.2, hj.1, z1 _ F H1 r1 (.refl _) it_range⟩
    · exact False.elim z1
  · exact False.elim z1
theorem vi_range2 {a b : Expr} {fa : DE → R (List Arg)} (hg : Gl X "range") (hm : X.mg "range" = none) (ha : VA X W [a, b] fa) (hs : starEach [a, b] X.env = [(false, eval a X.env), (false, eval b X.env)] := by rfl) (hs2 : starEach [b] X.env = [(false, eval b X.env)] := by rfl) :
    VI X W tg (.Call (.Name "range" p) [a, b] [] pos) (rng2 fa) := PI.to (pi_range2 hg hm ha hs hs2) fun σ H Q z => by
  refine z.first (DM := dnA X.K) fun c F H1 δ as vs r1 d1 z1 => ?_
  split at z1
  · rename_i i j
    split at z1
    · rename_i hj
      obtain ⟨v, r, e, h1, h2⟩ := d1
      obtain ⟨v2, rfl, h3⟩ := argsD1 h2
      rw [e, show v = _ from h1, show v2 = _ from h3]
      exact ⟨i, j, rfl, ⟨hj.2.2.2, hj.2.2.1, hj.2.1, hj.1⟩, z1 _ F H1 r1 (.refl _) it_range⟩
    · exact False.elim z1
  · exact False.elim z1
/-- enumerate of a list or tuple that is not changed -/
def pairsD (l : List D) : List D := (List.range l.length).zipWith (fun i d => .tup [.int (i : Nat), d]) l
def enumItems (as : List Arg) (δ : DE) : R (List D) := match as with
  | [.val (.lst l)] => .ok (pairsD l) δ
  | [.val (.tup l)] => .ok (pairsD l) δ
  | _ => .stuck
def enumE (fa : DE → R (List Arg)) : DE → R (List D) := fun δ => (fa δ).bind enumItems
theorem pairs_get {l : List D} {i : Nat} {d : D} (h : (pairsD l)[i]? = some d) : ∃ x, l[i]? = some x ∧ d = .tup [.int (i : Nat), x] := by
  unfold pairsD at h
  rw [List.getElem?_zipWith] at h
  cases e : l[i]? with
  | none => rw [e] at h; split at h <;> simp_all
  | some x =>
    have hl := (List.getElem?_eq_some_iff.mp e).1
    rw [e, List.getElem?_range hl] at h
    cases h
    exact ⟨x, rfl, rfl⟩
theorem pairs_len {l : List D} : (pairsD l).length = l.length := by
  unfold pairsD
  rw [List.length_zipWith, List.length_range, Nat.min_self]
theorem it_enumL {K : PySem.W.Frag} {F0 : Hp} {a : Addr} {xs : List V} {ds : List D} (h : SqL K F0 a xs) (d : Dens K F0 ds xs) : ItF K F0 (Ite K a) (pairsD ds) := by
  intro c F H σ δ i r s
  have h1 : SqL K H a xs := r.sub.seq (s.seq h)
  refine ⟨fun d0 e => ?_, fun e => ⟨xs, h1, by rw [e, pairs_len, d.length]; exact Nat.le_refl _⟩⟩
  obtain ⟨y, e1, rfl⟩ := pairs_get e
  obtain ⟨v, g1, g2⟩ := d.get e1
  refine ⟨⟨xs, v, h1, g1⟩, fun x H1 y0 => ?_⟩
  obtain ⟨T, w, rfl, hT, rfl, y2⟩ := y0
  have := (y2 xs h1).symm.trans g1
  cases this
  refine ⟨_, r.lay hT, same_new (r.freeF hT), T, _, rfl, .inl (.inl upd_same), ?_⟩
  exact Dens.cons rfl (Dens.one (Den.mono (s.trans (same_new (r.freeF hT))) _ _ g2))
theorem it_enumT {K : PySem.W.Frag} {F0 : Hp} {a : Addr} {xs : List V} {ds : List D} (h : SqT K F0 a xs) (d : Dens K F0 ds xs) : ItF K F0 (ItnT K a) (pairsD ds) := by
  intro c F H σ δ i r s
  have h1 : SqT K H a xs := PV.Same.tup r.sub (PV.Same.tup s h)
  refine ⟨fun d0 e => ?_, fun e => ⟨xs, h1, by rw [e, pairs_len, d.length]⟩⟩
  obtain ⟨y, e1, rfl⟩ := pairs_get e
  obtain ⟨v, g1, g2⟩ := d.get e1
  refine ⟨⟨xs, v, h1, g1⟩, fun x H1 y0 => ?_⟩
  obtain ⟨T, w, rfl, hT, rfl, y2⟩ := y0
  have := (y2 xs h1).symm.trans g1
  cases this
  refine ⟨_, r.lay hT, same_new (r.freeF hT), T, _, rfl, .inl (.inl upd_same), ?_⟩
  exact Dens.cons rfl (Dens.one (Den.mono (s.trans (same_new (r.freeF hT))) _ _ g2))
theorem vi_enum {a : Expr} {fa : DE → R (List Arg)} {elts : List Expr} {kk : Nat} {tpos : Pos} (hg : Gl X "enumerate") (hm : X.mg "enumerate" = none) (ha : VA X W [a] fa) (hs : starEach [a] X.env = [(false, eval a X.env)] := by rfl) :
    VI X W (.Tuple elts kk tpos) (.Call (.Name "enumerate" p) [a] [] pos) (enumE fa) := PI.to (PI.or (pi_enum hg hm ha hs) (pi_enumT hg hm ha hs)) fun σ H Q z => by
  obtain ⟨c, F, δ, r, z0⟩ := id z
  have z0 : aft X.K W (dnI X.K) c F σ Q ((fa δ).bind _) := z0
  cases q : fa δ with
  | exc x δ1 => rw [q] at z0; exact .inl ⟨c, F, δ, r, by rw [q]; exact z0⟩
  | stuck => rw [q] at z0; exact False.elim z0
  | ok as δ1 =>
    rw [q] at z0
    replace z0 : aft X.K W (dnI X.K) c F σ Q (enumItems as δ1) := z0
    unfold enumItems at z0
    split at z0
    · refine .inl ⟨c, F, δ, r, ?_⟩
      rw [q]
      intro vs F' H' r' s' d'
      obtain ⟨v, rfl, h⟩ := argsD1 d'
      obtain ⟨a, xs, rfl, h1, h2⟩ := h
      exact ⟨a, xs, rfl, .inl (.inl (r'.sub _ _ h1)), z0 _ F' H' r' s' (it_enumL (.inl (.inl h1)) h2)⟩
    · refine .inr ⟨c, F, δ, r, ?_⟩
      rw [q]
      intro vs F' H' r' s' d'
      obtain ⟨v, rfl, h⟩ := argsD1 d'
      obtain ⟨a, xs, rfl, h1, h2⟩ := h
      exact ⟨a, xs, rfl, PV.Same.tup r'.sub h1, z0 _ F' H' r' s' (it_enumT h1 h2)⟩
    · exact False.elim z0
end

/-! ### repr -/
def shows (d : D) : Option Str := d.py.bind fun p => if p.showable = true ∧ p.canLay0 = true ∧ p.depth ≤ 60 ∧ p.shown.length ≤ LIM then some p.shown else none
def reprD : List D → Option D
  | [d] => (shows d).map .str
  | _ => none
theorem cr_repr {X : Cx} (hu : X.A.units + 64 < cLine) (hg : X.A.guards = some []) : CallR X (.builtin "repr") (fun xs H Q => ∃ v p, xs = [v] ∧ Dp X.K H v p ∧ p.showable = true ∧ p.canLay0 = true ∧ p.depth ≤ 60 ∧ p.shown.length ≤ sizeLine ∧ Q (.str p.shown) H) := by
  intro pins s σ H xs us Q I rv h
  obtain ⟨v, p, rfl, dp, hs, hl, hd, hz, q⟩ := h
  obtain ⟨u, rfl, ru⟩ := Vals.one rv
  have fin : ∀ (h' : Heap) (t tk : Tok), (∀ b o, s.heap.get? b = some o → h'.get? b = some o) → EP X pins σ Q (.str p.shown t) { s with heap := h', toks := tk } := fun h' t tk hk => ⟨.str p.shown, H, I.kept (t' := tk) hk, ⟨t, rfl⟩, q⟩
  cases dp with
  | non => cases (show u = Value.none from ru); exact PySem.P.repr_of_none (fin s.heap _ _ fun _ _ e => e)
  | bl b => cases (show u = Value.bool b from ru); exact PySem.P.repr_of_bool (fin s.heap _ _ fun _ _ e => e)
  | int i =>
    obtain ⟨t, rfl⟩ := (show ∃ t, u = Value.int i t from ru)
    exact PySem.P.repr_of_int (by simpa [PyData.showable] using hs) (fin s.heap _ _ fun _ _ e => e)
  | str x =>
    obtain ⟨t, rfl⟩ := (show ∃ t, u = Value.str x t from ru)
    exact PySem.P.repr_of_str (fin s.heap _ _ fun _ _ e => e) hz
  | @lst a xs ds h1 h2 =>
    obtain ⟨as, rr⟩ := Dp.reads I (.list ds) (.ref a) u (.lst h1 h2) ru
    cases (show u = Value.ref a from ru)
    exact repr_of_reads' rr hs (PyData.noDict_hsm (PyData.hasDict_of_canLay _ hl)) hg (by omega) (fun _ _ e => e) (fun h' t tk hk => fin h' t tk hk) hz
  | @tup a xs ds h1 h2 =>
    obtain ⟨as, rr⟩ := Dp.reads I (.tuple ds) (.ref a) u (.tup h1 h2) ru
    cases (show u = Value.ref a from ru)
    exact repr_of_reads' rr hs (PyData.noDict_hsm (PyData.hasDict_of_canLay _ hl)) hg (by omega) (fun _ _ e => e) (fun h' t tk hk => fin h' t tk hk) hz
theorem dpH {K : PySem.W.Frag} {F H : Hp} (s : Same F H) {d : D} {p : PyData} {v : V} (h : DenH K F H d v) (e : d.py = some p) : Dp K H v p := by
  rcases h with h | ⟨m, a, o, rfl, rfl, h1, h2⟩
  · exact py_dp s e h
  · cases m with
    | lst l =>
      obtain ⟨xs, rfl, h2⟩ := mden_lst h2
      unfold MD.d at e
      unfold D.py at e
      obtain ⟨ps, e1, rfl⟩ := Option.map_eq_some_iff.mp e
      exact .lst (.inl (.inl h1)) (pys_dp s e1 h2)
    | dct l => unfold MD.d D.py at e; cases e
    | ins c l => unfold MD.d D.py at e; cases e
theorem b_repr {X : Cx} (hu : X.A.units + 64 < cLine) (hg : X.A.guards = some []) : Bf X (.builtin "repr") reprD := by
  refine ⟨_, cr_repr hu hg, fun c F H σ δ ds z vs Q r d1 q k => ?_⟩
  unfold reprD at q
  split at q
  · obtain ⟨t, q1, rfl⟩ := Option.map_eq_some_iff.mp q
    obtain ⟨p, q2, q3⟩ := Option.bind_eq_some_iff.mp q1
    split at q3
    · rename_i hh
      cases q3
      obtain ⟨v, rfl, h⟩ := densH1 d1
      exact ⟨v, p, rfl, dpH r.sub h q2, hh.1, hh.2.1, hh.2.2.1, lim_le hh.2.2.2, k _ F H r (.refl _) rfl⟩
    · cases q3
  · cases q

/-! ### the end of a law -/
/-- the law's def, called with the script -/
theorem law_end {P : Program} {w : World} {K : PySem.W.Frag} {mg mb : Str → Option Value} {k : Nat} {fa a : Addr} {fd : FuncData} {x : Str} {φ : List Sl → FR} {s₁ : Shared} {vs : List Value} {ns : List Int}
    (KX : K.In s₁.heap) (hns : s₁.heap.Ns mainGlobals mg) (hb : s₁.heap.Ns builtinsNs mb) (hbb : ∀ x : Str, x ≠ "__name__" → mb x = bootBuiltins x) (hlim : s₁.heap.NoLimit) (hg : s₁.gens = #[])
    (ha : s₁.heap.get? a = some { cls := .type "list", data := .seq vs.toArray }) (hi : IntsAre vs ns) (hl : ns.length ≤ sizeLine) (hr : Room k callerA)
    (T : ∀ base : Heap, K.In base → base.Ns mainGlobals mg → VOk true P w K mg base k fa fd [x] φ) (hbind : ∀ (s : Shared) (u : Value), BindsTo s fd ⟨[u], []⟩ [(x, u)])
    (hφ : ∃ as', φ [.val (.scr ns)] = .ret (.bl true) as') :
    codeAny (model P w) callerA (.call (.ref fa) ⟨[.ref a], []⟩) (fun r s' => r = .ok (.ret (.bool true)) ∧ OldK s₁.heap s'.heap ∧ s'.os = s₁.os ∧ AllBare s'.gens) s₁ := by
  obtain ⟨as', hφ⟩ := hφ
  -- a heap that tracks nothing but the script
  have main : ∀ H : Hp, (∀ b, H b = none ∨ (b = a ∧ ∃ o xs, H b = some (.frz o (.lst xs)))) → SqL K H a (ns.map V.int) → HOk P w H s₁.heap → (H a ≠ none → K.lookup a = none) →
      codeAny (model P w) callerA (.call (.ref fa) ⟨[.ref a], []⟩) (fun r s' => r = .ok (.ret (.bool true)) ∧ OldK s₁.heap s'.heap ∧ s'.os = s₁.os ∧ AllBare s'.gens) s₁ := by
    intro H only sq hok hK
    have isA : ∀ {b : Addr}, H b ≠ none → b = a := fun {b} z => by
      rcases only b with q | ⟨q, _⟩
      · exact absurd q z
      · exact q
    have dictFree : ∀ {b : Addr} {o : Obj} {es : Array DictEntry} {ep : Nat}, s₁.heap.get? b = some o → o.data = .dict es ep → H b = none := fun {b o es ep} e dd => by
      cases q : H b with
      | none => rfl
      | some u =>
        have eb : b = a := isA (by rw [q]; exact fun z => nomatch z)
        subst eb
        rw [ha] at e
        cases e
        cases dd
    have nsB : ∀ {b : Addr} {m : Str → Option Value}, s₁.heap.Ns b m → (hidT s₁.heap H).Ns b m := by
      rintro b m ⟨o, es, ep, e, dd, rest⟩
      exact ⟨o, es, ep, hidT_get e (dictFree e dd), dd, rest⟩
    have KB : K.In (hidT s₁.heap H) := fun b o e => by
      refine hidT_get (KX b o e) ?_
      cases q : H b with
      | none => rfl
      | some u =>
        have hn : H b ≠ none := by rw [q]; exact fun z => nomatch z
        have eb := isA hn
        subst eb
        rw [hK hn] at e
        cases e
    obtain ⟨mc, c1, c2⟩ := hlim
    have M : Mod K mg (hidT s₁.heap H) := ⟨KB, nsB hns, ⟨mb, nsB hb, hbb⟩, ⟨mc, nsB c1, c2⟩⟩
    have en : Env0 P w K mg (hidT s₁.heap H) callerA [] s₁ H := ⟨rfl, M, fun b o e => of_hidT e, Nat.le_of_eq (hidT_size _ _), trivial, fun b z => absurd z (by simp [frs]), hok, .of_eq hg⟩
    have sp : spV K φ [V.ref a] H (fun v _ => v = .bl true) (fun _ _ _ => False) := by
      refine ⟨H, [.val (.scr ns)], ⟨.refl _, rfl, fun i s v e1 e2 => ?_, fun i j b m n e1 => ?_⟩, ?_⟩
      · cases i with
        | zero =>
          cases e1
          cases e2
          exact ⟨a, rfl, sq⟩
        | succ i => simp at e1
      · cases i with
        | zero => cases e1
        | succ i => simp at e1
      · rw [hφ]
        exact fun v F' H' _ d => d
    refine codeAny_mono ((T _ KB (nsB hns)).run callerA [] s₁ H ⟨[.ref a], []⟩ [.ref a] [.ref a] _ _ hr (fun _ => rfl) en (hbind s₁ (.ref a)) (.cons rfl .nil) sp) fun res s' h => ?_
    cases res with
    | error e =>
      obtain ⟨_, _, _, _, _, _, _, _, _, _, _, _, z⟩ := h
      exact z.elim
    | ok fl =>
      cases fl <;> first | exact False.elim h | skip
      obtain ⟨v, H', os, bare, un, hok', rv, q⟩ := h
      cases (show v = V.bl true from q)
      cases (show _ = Value.bool true from rv)
      refine ⟨rfl, OldK.of_keep fun b o e => ?_, os, bare⟩
      rcases only b with q | ⟨_, ob, xs, q⟩
      · exact un.keep b o e q (by simp [frs]) (by simp)
      · have q' := un.frzs b ob _ q
        obtain ⟨e1, _⟩ := hok b _ q
        obtain ⟨e2, _⟩ := hok' b _ q'
        rw [e] at e1
        cases e1
        exact e2
  have rv := vals_ints hi
  cases hk : K.lookup a with
  | some o =>
    have e := KX a o hk
    rw [ha] at e
    cases e
    exact main (fun _ => none) (fun _ => .inl rfl) (.inr ⟨_, vs.toArray, _, hk, rfl, rfl, rfl, by rw [List.size_toArray, hi.length]; exact hl, by simpa using rv⟩) (fun b u z => by cases z) fun z => absurd rfl z
  | none =>
    refine main (fun b => if b = a then some (.frz { cls := .type "list", data := .seq vs.toArray } (.lst (ns.map V.int))) else none) (fun b => ?_) (.inl (.inr ⟨{ cls := .type "list", data := .seq vs.toArray }, if_pos rfl⟩)) (fun b u z => ?_) fun _ => hk
    · by_cases q : b = a
      · exact .inr ⟨q, _, _, if_pos q⟩
      · exact .inl (if_neg q)
    · by_cases q : b = a
      · have z := (if_pos q).symm.trans z
        cases z
        subst q
        exact ⟨ha, by rw [List.length_map]; exact hl, vs, _, rv, ha⟩
      · have z := (if_neg q).symm.trans z
        cases z
/-- what k_head leaves, from the law's worth -/
theorem walk_end {l : PySem.W.OpenLaw} {n k : Nat} {q : Program} {loose : List Str} {XP : (Str → Option Value) → Heap → Prop} {YP : World → Heap → Prop} {d : DefRec} {K : Params → PySem.W.Frag} {φ : World → List Sl → FR} {x : Str}
    (hn : l.most = some n) (hn2 : n ≤ sizeLine) (hdf : d.params.defaults = []) (hr : Room k callerA) (hY : ∀ (w : World) (h : Heap), YP w h → (K w.params).In h)
    (T : ∀ (w : World) (mg : Str → Option Value) (fa : Addr) (h : Heap), (K w.params).In h → h.Ns mainGlobals mg → mg d.name = some (.ref fa) →
      ∃ (fd : FuncData) (φ : List Sl → FR), (∀ (s : Shared) (u : Value), BindsTo s fd ⟨[u], []⟩ [(x, u)]) ∧ (∀ base : Heap, (K w.params).In base → base.Ns mainGlobals mg → VOk true l.prog w (K w.params) mg base k fa fd [x] φ) ∧
        ∀ ns : List Int, ns.length ≤ n → ∃ as', φ [.val (.scr ns)] = .ret (.bl true) as') :
    PySem.W.WalkO q loose XP YP l.row.toRowW d [] (fun f vs => PySem.call f vs) := by
  refine Att.attach_call hn hdf fun w s₀ s₁ mg mb fa o pm cd doc a vs ns G Y ho hd hcd hmg hobj hints hlen hg => ?_
  obtain ⟨fd, φ, hb, hF, hφ⟩ := T w mg fa _ (hY w _ Y) G.T.g hmg
  exact law_end (hY w _ Y) G.T.g G.T.b G.T.builtins G.T.nolimit hg hobj hints (Nat.le_trans hlen hn2) hr hF hb (hφ ns hlen)
end PV

/-! PV11: further rules. -/
namespace PV
open PySem PySem.Spec PyProof.Rows L2

/-! ### operators in one -/
def addA (x y : D) : Option D := (iadd x y).or ((sadd x y).or ((ladd x y).or (tadd x y)))
def mulA (x y : D) : Option D := (imul x y).or ((lmul x y).or (tmul x y))
section
variable {X : Cx} {W : WX} {a b e : Expr} {fa fb f : DE → R D} {pos : Pos}
theorem o_add : Op2 X (binaryOp .Add) addA := o_iadd.or (o_sadd.or (o_ladd.or o_tadd))
theorem o_mul : Op2 X (binaryOp .Mult) mulA := o_imul.or (o_lmul.or o_tmul)
def negE (f : DE → R D) : DE → R D := fun δ => (f δ).bind fun x δ => match x with
  | .int i => .ok (.int (-i)) δ
  | _ => .stuck
theorem ve_neg (h : VE X W a fa) : VE X W (.UnaryOp .USub a pos) (negE fa) := PE.to (pe_un un_neg h) fun σ H Q z => by
  refine z.first (DM := dnE X.K) fun c F H1 δ x v r1 d1 z1 => ?_
  cases x <;> first | exact False.elim z1 | skip
  exact ⟨_, d1, z1 _ F H1 r1 (.refl _) rfl⟩
theorem vt_chain {c : Expr} {fc : DE → R D} {op op' : CmpOp} {o o' : D → D → Option D} (h : Op2 X (compareOp op) o) (h' : Op2 X (compareOp op') o') (ha : VE X W a fa) (hb : VE X W b fb) (hc : VE X W c fc)
    (hm : lastMarks [op, op'] [b, c] = false := by with_unfolding_all rfl) : VT X W (.Compare a [op, op'] [b, c] pos) (tst (chn o o' fa fb fc)) := by
  obtain ⟨r, r', h1, h2, h3⟩ := rd_chn (W := W) (fa := fa) (fb := fb) (c := c) (fc := fc) h h'
  exact PT.to (pt_chain h1 h2 ha hb hc hm) fun σ H Q z => h3 σ H _ (rd_tst z)
/-! ### x op= e -/
def augS (i : Nat) (o : D → D → Option D) (f : DE → R D) : DE → O := fun δ => match δ[i]? with
  | some (some (.val x)) => bindS (f δ) fun y δ => match o x y with
    | some z => match setSl i (.val z) δ with
      | some δ => .nx δ
      | none => .stuck
    | none => .stuck
  | _ => .stuck
def Ip2 (X : Cx) (op : Operator) (o : D → D → Option D) : Prop :=
  ∃ r : TIp, PIp X op r ∧ ∀ c F H σ δ d e z v w (Q : VK), Rel X.K c F H σ δ → Den X.K F d v → Den X.K F e w → o d e = some z →
    (∀ u F' H', Rel X.K c F' H' σ δ → Same F F' → Den X.K F' z u → Q u H') → r v w H Q
theorem ip_int {op : Operator} {g : Int → Int → Int} (h : PIp X op (ipI g)) : Ip2 X op (iop fun i j => .int (g i j)) := by
  refine ⟨_, h, fun c F H σ δ d e z v w Q r d1 d2 q k => ?_⟩
  cases d <;> first | cases q | skip
  cases e <;> first | cases q | skip
  exact ⟨_, _, d1, d2, k _ F H r (.refl _) rfl⟩
theorem vs_aug {i : Nat} {x : Str} {op : Operator} {o : D → D → Option D} {pos' : Pos} (hN : X.N.Nodup) (hi : X.N[i]? = some x) (hx : Loc X.env.scope x) (k : VE X W e f) (ho : Ip2 X op o) (hf : X.fn x = true ∨ X.env.scope.names.lookup x = some .local := by first | exact .inl rfl | exact .inr rfl | assumption) :
    VS X W (.AugAssign (.Name x pos') op e pos) (augS i o f) := by
  obtain ⟨r, h1, h2⟩ := ho
  refine PS.to (ps_aug hN hi hx k h1 hf) fun N σ H z => ?_
  obtain ⟨c, F, δ, r0, z⟩ := z
  unfold augS at z
  split at z
  · rename_i xd q
    obtain ⟨v, e1, e2⟩ := r0.val q
    refine ⟨v, e1, ?_⟩
    refine aftS.next (DM := dnE X.K) (f := f) (g := fun y δ => match o xd y with
      | some z => match setSl i (.val z) δ with
        | some δ => .nx δ
        | none => .stuck
      | none => .stuck) r0 z fun F2 H2 δ2 y w r2 s2 d2 z2 => ?_
    split at z2
    · rename_i zd qz
      split at z2
      · rename_i δ3 q3
        obtain ⟨rfl, nb⟩ := setSl_some q3
        exact h2 c F2 H2 σ δ2 xd y zd v w _ r2 (Den.mono s2 _ _ e2) d2 qz fun u F' H' r' s' d' => z2 _ F' H' (r'.set d' nb) s'
      · exact False.elim z2
    · exact False.elim z2
  · exact False.elim z
/-! ### list(range(..)) -/
def lrg1 (f : DE → R D) : DE → R MD := fun δ => (f δ).bind fun x δ => match x with
  | .int j => if j ≤ 10000 ∧ -10000 ≤ j then .ok (.lst ((List.range j.toNat).map fun i => .int ((i : Nat) : Int))) δ else .stuck
  | _ => .stuck
theorem vn_lrg1 {p p2 pos2 : Pos} (hc : X.calm = true) (hg : Gl X "list") (hm : X.mg "list" = none) (hg2 : Gl X "range") (hm2 : X.mg "range" = none) (ha : VE X W a fa) (na : starEach [a] X.env = (false, eval a X.env) :: starEach [] X.env := by rfl)
    (nb : starEach [.Call (.Name "range" p2) [a] [] pos2] X.env = (false, eval (.Call (.Name "range" p2) [a] [] pos2) X.env) :: starEach [] X.env := by rfl) : VN X W (.Call (.Name "list" p) [.Call (.Name "range" p2) [a] [] pos2] [] pos) (lrg1 fa) :=
  PE.to (pe_listRg hc hg hm (prg_1 hg2 hm2 ha na) nb) fun σ H Q z => by
    refine z.first (DM := dnE X.K) fun c F H1 δ x v r1 d1 z1 => ?_
    cases x <;> first | exact False.elim z1 | skip
    rename_i j
    have z1 : aft X.K W (dnN X.K) c F σ Q (if j ≤ 10000 ∧ -10000 ≤ j then .ok (.lst ((List.range j.toNat).map fun i => .int ((i : Nat) : Int))) δ else .stuck) := z1
    split at z1
    · rename_i hj
      refine ⟨j, d1, ⟨by omega, by omega, by omega, by omega, by omega⟩, fun q hq => ?_⟩
      obtain ⟨g1, g2⟩ := r1.fresh (o := .lst (rgV 0 j)) (m := .lst ((List.range j.toNat).map fun i => .int ((i : Nat) : Int))) hq (by
        show Dens X.K F _ (rgV 0 j)
        unfold rgV
        rw [show (j - 0).toNat = j.toNat by omega]
        generalize List.range j.toNat = l
        induction l with
        | nil => exact Dens.nil
        | cons n l ih => exact Dens.cons (by show V.int (0 + (n : Int)) = V.int (n : Int); rw [Int.zero_add]) ih)
      exact z1 _ _ _ g1 (.refl _) g2
    · exact False.elim z1
end

/-! ### an object of a slot, looked at while it stays -/
theorem flats_dens {K : PySem.W.Frag} {F : Hp} : ∀ {ds : List D} {us : List V}, flats ds = some us → Dens K F ds us
  | [], _, h => by cases h; rfl
  | d :: ds, us, h => by
    obtain ⟨u, h1, h2⟩ := Option.bind_eq_some_iff.mp h
    obtain ⟨us', h3, rfl⟩ := Option.map_eq_some_iff.mp h2
    refine Dens.cons ?_ (flats_dens h3)
    cases d <;> first | (cases h1; done) | (cases h1; rfl)
def MD.flat : MD → Bool
  | .lst l => (flats l).isSome
  | _ => false
theorem MD.flat_den {K : PySem.W.Frag} {F F' : Hp} {m : MD} {o : HO} (h : m.flat = true) (d : MDen K F m o) : MDen K F' m o := by
  cases m <;> first | (cases h; done) | skip
  obtain ⟨xs, rfl, d⟩ := mden_lst d
  obtain ⟨us, h⟩ := Option.isSome_iff_exists.mp h
  rw [(flats_v h d).1]
  exact flats_dens h
/-- the other objects hold scalars alone -/
def flatEnv (δ : DE) : Prop := ∀ (i : Nat) (s : Sl) (m : MD), δ[i]? = some (some s) → s.mut = some m → m.flat = true
open Classical in
noncomputable def thawN (j : Nat) (f : DE → R MD) : DE → R MD := fun δ => match δ[j]? with
  | some (some (.own m)) => match f (δ.set j (some (.val m.d))) with
    | .ok m' δ2 => if δ2 = δ.set j (some (.val m.d)) ∧ m'.flat = true ∧ flatEnv δ then .ok m' δ else .stuck
    | _ => .stuck
  | _ => .stuck
section
variable {X : Cx} {W : WX} {e : Expr}
theorem rd_thaw {K : PySem.W.Frag} {j : Nat} {f : DE → R MD} {σ : L2.St} {H : Hp} {Q : VK} (z : rdN K W (thawN j f) σ H Q) : rdN K W f σ H Q := by
  obtain ⟨c, F, δ, r, z⟩ := z
  unfold thawN at z
  split at z
  · rename_i m hj
    obtain ⟨a, o, e1, e2, e3, e4, e5, e6⟩ := r.own hj
    obtain ⟨a', o', g1, g2, g3, g4⟩ := r.still hj
    rw [e1] at g1; cases g1
    have eo : o' = o := by
      have := g4.sub a o' upd_same
      rw [e2] at this; exact (Option.some.inj this).symm
    subst eo
    refine ⟨c, _, _, g4, ?_⟩
    split at z
    · rename_i m' δ2 hf
      split at z
      · rename_i hh
        obtain ⟨rfl, hm', hfl⟩ := hh
        rw [hf]
        intro v F' H' r' s' dn
        obtain ⟨p, op, rfl, p1, p2, p3, p4, p5, p6⟩ := dn
        have hl : j < List.length δ := (List.getElem?_eq_some_iff.mp hj).1
        have sF : Same F (fun b => if b = a then none else F' b) := fun b x y => by
          have hb : b ≠ a := fun q => by subst q; rw [e4] at y; cases y
          show (if b = a then none else F' b) = some x
          rw [if_neg hb]
          exact s' b x (g2 b x y)
        have of_ : ∀ {b : Addr} {x : HO}, (if b = a then none else F' b) = some x → F' b = some x := fun {b x} y => by
          split at y
          · cases y
          · exact y
        have none_ : ∀ {b : Addr}, F' b = none → (if b = a then none else F' b) = none := fun {b} y => by
          split
          · rfl
          · exact y
        have ha' : H' a = some o' := r'.sub a o' (s' a o' upd_same)
        refine z _ (fun b => if b = a then none else F' b) H' ⟨fun b x y => r'.sub b x (of_ y), r'.pres, r.low.trans sF, fun b x y => r'.new b x (of_ y), fun b x y => ⟨(r'.gs b x y).1, none_ (r'.gs b x y).2⟩, r.bor0, r.borD, r.binj, r.len, fun i s es => ?_, r.apart⟩ sF
          ⟨p, op, rfl, p1, MD.flat_den hm' p2, none_ p3, p4, p5, fun i n es => ?_⟩
        · by_cases hi : j = i
          · subst hi
            rw [hj] at es
            cases es
            exact ⟨a, o', by rw [e1]; rfl, ha', e3.mono sF, if_pos rfl, e5, e6⟩
          · have es' : (δ.set j (some (.val m.d)))[i]? = some (some s) := by rw [List.getElem?_set_ne hi]; exact es
            have y := r'.sl i s es'
            cases s with
            | val d =>
              obtain ⟨v, y1, y2⟩ := r.sl i _ es
              exact ⟨v, y1, Den.mono sF _ _ y2⟩
            | own n =>
              obtain ⟨b, ob, y1, y2, y3, y4, y5⟩ := y
              exact ⟨b, ob, y1, y2, MD.flat_den (hfl i _ n es rfl) y3, none_ y4, y5⟩
            | bor n =>
              obtain ⟨hb, ob, y1, y2, y3, y4, y5⟩ := y
              exact ⟨hb, ob, y1, y2, MD.flat_den (hfl i _ n es rfl) y3, none_ y4, y5⟩
        · intro y
          by_cases hi : j = i
          · subst hi
            rw [e1] at y
            have y : a = p := V.ref.inj (Option.some.inj (Option.some.inj y))
            subst y
            rw [s' a o' upd_same] at p3
            cases p3
          · exact p6 i n (by rw [List.getElem?_set_ne hi]; exact es) y
      · exact False.elim z
    · exact False.elim z
  · exact False.elim z
theorem vn_thaw (j : Nat) {f : DE → R MD} (h : VN X W e f) : VN X W e (thawN j f) := PE.to h fun σ H Q z => rd_thaw z
end

/-! ### a, b = x, y -/
def parVN (i j : Nat) (f : DE → R D) (g : DE → R MD) : DE → O := fun δ => bindS (f δ) fun d δ => bindS (g δ) fun m δ => match setSl i (.val d) δ with
  | some δ => match setSl j (.own m) δ with
    | some δ => .nx δ
    | none => .stuck
  | none => .stuck
def parVV (i j : Nat) (f g : DE → R D) : DE → O := fun δ => bindS (f δ) fun d δ => bindS (g δ) fun d' δ => match setSl i (.val d) δ with
  | some δ => match setSl j (.val d') δ with
    | some δ => .nx δ
    | none => .stuck
  | none => .stuck
section
variable {X : Cx} {W : WX} {a b : Expr} {f f' : DE → R D} {g : DE → R MD} {pos : Pos}
theorem vs_parVN {i j : Nat} {x y : Str} {px py pt : Pos} {kt k2 pt2} (hc : X.calm = true) (hN : X.N.Nodup) (hi : X.N[i]? = some x) (hj : X.N[j]? = some y) (hij : i ≠ j)
    (hx : X.env.scope.names.lookup x = some .local) (hy : X.env.scope.names.lookup y = some .local) (ha : VE X W a f) (hb : VN X W b g)
    (hw : swappedStores [.Tuple [.Name x px, .Name y py] kt pt] (.Tuple [a, b] k2 pt2) X.env = pure (some [x, y]) := by rfl)
    (hs : swapsWithSole [.Tuple [.Name x px, .Name y py] kt pt] (.Tuple [a, b] k2 pt2) pos.line X.env = pure false := by rfl) (n1 : starEach [a, b] X.env = (false, eval a X.env) :: starEach [b] X.env := by rfl) (n2 : starEach [b] X.env = (false, eval b X.env) :: starEach [] X.env := by rfl) :
    VS X W (.Assign [.Tuple [.Name x px, .Name y py] kt pt] (.Tuple [a, b] k2 pt2) pos) (parVN i j f g) := PS.to (ps_par hc hN hi hj hij hx hy (pa_cons ha (pa_cons hb pa_nil n2) n1) hw hs) fun N σ H z => by
  refine z.first (DM := dnE X.K) fun c F H1 δ d v r1 d1 z1 => ?_
  refine aftS.next (DM := dnN X.K) (f := g) (g := fun m δ => match setSl i (.val d) δ with
    | some δ => match setSl j (.own m) δ with
      | some δ => .nx δ
      | none => .stuck
    | none => .stuck) r1 z1 fun F2 H2 δ2 m w r2 s2 d2 z2 => ?_
  split at z2
  · rename_i δ3 q3
    split at z2
    · rename_i δ4 q4
      obtain ⟨rfl, nb⟩ := setSl_some q3
      obtain ⟨rfl, nb2⟩ := setSl_some q4
      obtain ⟨p, o, rfl, h1, h2, h3, h4, h5, h6⟩ := d2
      refine ⟨v, .ref p, rfl, z2 _ F2 H2 (Rel.setOwn (r2.set (Den.mono s2 _ _ d1) nb) h1 h3 h4 h5 h2 (fun k n ek => ?_) nb2) (.refl _)⟩
      by_cases hk : i = k
      · subst hk
        rw [List.getElem?_set] at ek
        simp only [if_true] at ek
        split at ek <;> cases ek
      · rw [List.getElem?_set_ne hk] at ek ⊢
        exact h6 k n ek
    · exact False.elim z2
  · exact False.elim z2
theorem vs_parVV {i j : Nat} {x y : Str} {px py pt : Pos} {kt k2 pt2} (hc : X.calm = true) (hN : X.N.Nodup) (hi : X.N[i]? = some x) (hj : X.N[j]? = some y) (hij : i ≠ j)
    (hx : X.env.scope.names.lookup x = some .local) (hy : X.env.scope.names.lookup y = some .local) (ha : VE X W a f) (hb : VE X W b f')
    (hw : swappedStores [.Tuple [.Name x px, .Name y py] kt pt] (.Tuple [a, b] k2 pt2) X.env = pure (some [x, y]) := by rfl)
    (hs : swapsWithSole [.Tuple [.Name x px, .Name y py] kt pt] (.Tuple [a, b] k2 pt2) pos.line X.env = pure false := by rfl) (n1 : starEach [a, b] X.env = (false, eval a X.env) :: starEach [b] X.env := by rfl) (n2 : starEach [b] X.env = (false, eval b X.env) :: starEach [] X.env := by rfl) :
    VS X W (.Assign [.Tuple [.Name x px, .Name y py] kt pt] (.Tuple [a, b] k2 pt2) pos) (parVV i j f f') := PS.to (ps_par hc hN hi hj hij hx hy (pa_cons ha (pa_cons hb pa_nil n2) n1) hw hs) fun N σ H z => by
  refine z.first (DM := dnE X.K) fun c F H1 δ d v r1 d1 z1 => ?_
  refine aftS.next (DM := dnE X.K) (f := f') (g := fun d' δ => match setSl i (.val d) δ with
    | some δ => match setSl j (.val d') δ with
      | some δ => .nx δ
      | none => .stuck
    | none => .stuck) r1 z1 fun F2 H2 δ2 m w r2 s2 d2 z2 => ?_
  split at z2
  · rename_i δ3 q3
    split at z2
    · rename_i δ4 q4
      obtain ⟨rfl, nb⟩ := setSl_some q3
      obtain ⟨rfl, nb2⟩ := setSl_some q4
      exact ⟨v, w, rfl, z2 _ F2 H2 ((r2.set (Den.mono s2 _ _ d1) nb).set d2 nb2) (.refl _)⟩
    · exact False.elim z2
  · exact False.elim z2
end

/-! ### new lists by * and + -/
def mulN (fa fb : DE → R D) : DE → R MD := fun δ => (fa δ).bind fun x δ => (fb δ).bind fun y δ => match lmul x y with
  | some (.lst l) => .ok (.lst l) δ
  | _ => .stuck
section
variable {X : Cx} {W : WX} {a b : Expr} {fa fb : DE → R D} {pos : Pos}
theorem vn_mul (ha : VE X W a fa) (hb : VE X W b fb) : VN X W (.BinOp a .Mult b pos) (mulN fa fb) := PE.to (pe_op op_rep ha hb) fun σ H Q z => by
  refine z.first (DM := dnE X.K) fun c F H1 δ x v r1 d1 z1 => ?_
  refine z1.next (DM := dnE X.K) r1 fun F2 H2 δ2 y w r2 s2 d2 z2 => ?_
  replace d1 := Den.mono s2 _ _ d1
  cases x <;> first | (exact False.elim z2; done) | skip
  cases y <;> first | (exact False.elim z2; done) | skip
  rename_i la n
  obtain ⟨p, xs, rfl, h1, h2⟩ := d1
  by_cases hl : 0 ≤ n ∧ n ≤ 1000 ∧ la.length ≤ 1000
  · have e : lmul (.lst la) (.int n) = some (.lst (List.replicate n.toNat la).flatten) := by
      show (if _ then _ else _) = _
      rw [if_pos hl]
    rw [e] at z2
    refine ⟨p, n, xs, rfl, d2, r2.sub _ _ h1, by omega, by omega, ?_, fun q hq => ?_⟩
    · rw [h2.length]
      exact lim_le (Nat.le_trans (Nat.mul_le_mul hl.2.2 (show n.toNat ≤ 1000 by omega)) (by decide))
    · obtain ⟨g1, g2⟩ := r2.fresh (o := .lst (List.replicate n.toNat xs).flatten) (m := .lst (List.replicate n.toNat la).flatten) hq (Dens.rep h2 _)
      exact z2 _ _ _ g1 (.refl _) g2
  · have e : lmul (.lst la) (.int n) = none := by
      show (if _ then _ else _) = _
      rw [if_neg hl]
    rw [e] at z2
    exact False.elim z2
end
section
variable {X : Cx} {W : WX} {elt tg iter : Expr} {ifs : List Expr} {scope : Scope} {own : List (Str × Nat)} {pos : Pos} {f : DE → R (List D)} {ts : List Nat} {t : D → DE → Option DE} {cond : DE → R Bool} {fe : DE → R D}
/-- y = [..] over an object of a slot that stays -/
theorem vs_setLcT (jt : Nat) {i : Nat} {y : Str} {py spos : Pos} (hc : X.calm = true) (hN : X.N.Nodup) (hy : X.N[i]? = some y) (hyl : X.env.scope.names.lookup y = some .local)
    (hsw : swapsWith (.ListComp elt [⟨tg, iter, ifs, 0⟩] scope pos) (some (.Name y py)) spos.line X.env = pure true) (hi : VI X W tg iter f) (ok : BlkOk X.N X.env.scope scope own) (hts : ∀ i ∈ ts, i ∈ own.map (·.2))
    (hg : ∀ (s : Shared) (H : Hp) (C : Addr) (cl : List (Str × Addr)) (fp : List Addr), VG (X.blk s H scope (compEnvC scope cl C X.env) fp) ts tg t)
    (ht : ∀ (s : Shared) (H : Hp) (C : Addr) (cl : List (Str × Addr)) (fp : List Addr), PTs (X.blk s H scope (compEnvC scope cl C X.env) fp) ifs (rdT X.K W0 cond))
    (he : ∀ (s : Shared) (H : Hp) (C : Addr) (cl : List (Str × Addr)) (fp : List Addr), VE (X.blk s H scope (compEnvC scope cl C X.env) fp) W0 elt fe) (hs : ∀ x, foldedSetIterable iter X.env x = pure x := by intro _; rfl) :
    VS X W (.Assign [.Name y py] (.ListComp elt [⟨tg, iter, ifs, 0⟩] scope pos) spos) (setS i (ofN (thawN jt (lcN f t cond fe (own.map (·.2)))))) := PS.to (ps_setLc hc hN hy hyl hsw hi ok hg ht he hs) fun N σ H z => by
  have z := rd_set z
  exact rd_lc hts (rd_thaw (rd_ofN z))
end
end PV

/-! PV12: the pens of the laws: a list of lists that a loop hands on one by one, each to be written. -/
namespace PV
open PySem PySem.Spec PyProof.Rows L2

section
variable {P : Program} {w : World} {K : PySem.W.Frag} {mg : Str → Option Value} {base : Heap}
theorem VOk.fn {k : Nat} {f : Addr} {fd : FuncData} {ps : List Str} {φ : List Sl → FR} (V0 : VOk false P w K mg base k f fd ps φ) : FnOk P w K mg base (L2.CX P w) k f fd ps (spV K φ) :=
  ⟨fun vs H Q E h => spV.len V0.len h, fun A outer s H args us vs Q E hr en hb rv h => V0.run A outer s H args us vs Q E hr (fun z => absurd z Bool.false_ne_true) en hb rv h⟩
/-- a def that hands back a new object -/
def spNew (K : PySem.W.Frag) (n N : Nat) (f : DE → R MD) : Sp := fun vs H Q _ => ∃ F as m δ', AOk K F H as vs ∧ as.length = n ∧ f (as.map some ++ List.replicate (N - n) none) = .ok m δ' ∧
  ∀ p o F' H', Done K F H as vs F' H' (back as δ') → H' p = some o → MDen K F' m o → F' p = none → H p = none → Q (.ref p) H'
theorem Fun.new {x qual : Str} {st : Stmt} {f : Addr} {fd : FuncData} {N ps : List Str} {k n : Nat} {G : DE → R MD} (T : Fun K x qual st f fd) (S : FnScope N ps (defScope st)) (hn : ps.length = n)
    (body : ∀ (cd : Value) (A : Around) (outer : List Env) (s : Shared) (H : Hp) (E : XK), Room k (A.deeper (envOfC qual (defScope st) s.heap.objs.size f cd)) →
      Takes (cxV P w K mg base N qual (defScope st) f cd A outer s H E) (wE E) → ∃ e pos, defBody st = [.Return (some e) pos] ∧ VN (cxV P w K mg base N qual (defScope st) f cd A outer s H E) (wE E) e G) :
    FnOk P w K mg base (L2.CX P w) (k + 1) f fd ps (spNew K n N.length G) := by
  refine T.okX S (fun vs H Q E h => ?_) (fun cd A outer s H vs Q E hr h => ?_)
  · obtain ⟨F, as, m, δ', A, hl, _⟩ := h
    rw [← A.len, hl, hn]
  · obtain ⟨e, pos, eb, hv⟩ := body cd A outer s H E hr (takes_of rfl rfl rfl rfl)
    rw [eb]
    refine ⟨_, pss_one (ps_ret hv), ?_⟩
    obtain ⟨F, as, m, δ', A, hl, hf, q⟩ := h
    refine ⟨cq0 F H as vs, F, _, A.rel, ?_⟩
    rw [hl, hf]
    intro v F' H' r' s' dn
    obtain ⟨p, o, rfl, h1, h2, h3, h4, h5, h6⟩ := dn
    exact q p o F' H' (A.done r') h1 h2 h3 h5
end

/-! ### the pens -/
def penOf (n : Int) : Int × Int := (if n - 10 ^ 18 > 0 then n - 10 ^ 18 else 0, n % 2147483629 + 1)
def penV (p : Int × Int) : List V := [.int p.1, .int p.2, .int 0]
def penD (p : Int × Int) : List D := [.int p.1, .int p.2, .int 0]
def pensOf (ns : List Int) (m : Nat) : List (Int × Int) := (List.range (max 1 (min ns.length m))).map fun k => penOf (ns.getD k 0)
/-- what _law_pens promises -/
def spPens (K : PySem.W.Frag) : Sp := fun vs H Q _ => ∃ (a : Addr) (ns : List Int) (m : Nat), vs = [.ref a, .int (m : Int)] ∧ SqL K H a (ns.map V.int) ∧ ns.length ≤ 1000 ∧ m ≤ 1000 ∧
  ∀ (l : Addr) (ps : List Addr) (H' : Hp), H l = none → (∀ p ∈ ps, H p = none) → ps.Nodup → l ∉ ps → Same H H' → H' l = some (.lst (ps.map V.ref)) → ps.length = (pensOf ns m).length →
    (∀ (j : Nat) (p : Addr) (q : Int × Int), ps[j]? = some p → (pensOf ns m)[j]? = some q → H' p = some (.lst (penV q))) → Q (.ref l) H'

section
variable {K : PySem.W.Frag} {c : Cq} {F H H1 : Hp} {σ : L2.St} {δ : DE}
theorem Rel.ext (r : Rel K c F H σ δ) (h : Same H H1) : Rel K c F H1 σ δ :=
  ⟨r.sub.trans h, fun b o e q => h _ _ (r.pres b o e q), r.low, r.new, fun b o e => ⟨h _ _ (r.gs b o e).1, (r.gs b o e).2⟩, r.bor0, r.borD, r.binj, r.len, fun i s e => (r.sl i s e).to (.refl _) (fun _ _ _ z _ _ => z) fun a x _ _ z _ => h _ _ z, r.apart⟩
theorem Rel.less {G' : Hp} (r : Rel K { c with G := G' } F H σ δ) (h : ∀ b o, c.G b = some o → G' b = some o) : Rel K c F H σ δ := by
  have hn : ∀ {a : Addr}, G' a = none → c.G a = none := fun {a} y => by
    cases q : c.G a with
    | none => rfl
    | some o => rw [h a o q] at y; cases y
  refine ⟨r.sub, r.pres, r.low, r.new, fun b o e => r.gs b o (h b o e), r.bor0, r.borD, r.binj, r.len, fun i s e => ?_, r.apart⟩
  have z := r.sl i s e
  cases s with
  | val d => exact z
  | own n =>
    obtain ⟨a, x, e1, e2, e3, e4, e5, e6⟩ := z
    exact ⟨a, x, e1, e2, e3, e4, hn e5, e6⟩
  | bor n =>
    obtain ⟨hi, x, e1, e2, e3, e4, e5⟩ := z
    exact ⟨hi, x, e1, e2, e3, e4, hn e5⟩
/-- several things held -/
def gput (G : Hp) : List (Addr × HO) → Hp
  | [] => G
  | (p, o) :: r => upd (gput G r) p o
theorem gput_out {G : Hp} {b : Addr} : ∀ {l : List (Addr × HO)}, (∀ q ∈ l, q.1 ≠ b) → gput G l b = G b
  | [], _ => rfl
  | (p, o) :: r, h => by
    unfold gput
    rw [upd_ne (Ne.symm (h _ List.mem_cons_self))]
    exact gput_out fun q hq => h q (List.mem_cons_of_mem _ hq)
/-- new things of the heap, held -/
theorem Rel.holdAll (r : Rel K c F H σ δ) (h : Same H H1) : ∀ {l : List (Addr × HO)}, (∀ q ∈ l, H q.1 = none ∧ H1 q.1 = some q.2) → Rel K { c with G := gput c.G l } F H1 σ δ
  | [], _ => r.ext h
  | (p, o) :: l, hl => by
    have ih := r.holdAll h (l := l) fun q hq => hl q (List.mem_cons_of_mem _ hq)
    obtain ⟨h1, h2⟩ := hl _ List.mem_cons_self
    refine Rel.hold (c := { c with G := gput c.G l }) ih h2 (r.freeF h1) (fun j n e z => ?_) fun i hi z => ?_
    · obtain ⟨a, o', e1, e2, _⟩ := r.own e
      rw [z] at e1; cases e1
      rw [h1] at e2; cases e2
    · have hi : i ∈ c.bs := hi
      have z : c.adr i = p := z
      obtain ⟨m, o', _, _, e2, _⟩ := r.borAt hi
      rw [z, h1] at e2; cases e2
end

/-- for pen in pens: body -/
def penLoop (i : Nat) (g : DE → O) : List (Int × Int) → DE → O
  | [], δ => .nx δ
  | p :: ps, δ => match setSl i (.own (.lst (penD p))) δ with
    | none => .stuck
    | some δ => match g δ with
      | .nx δ => penLoop i g ps δ
      | .cnt δ => penLoop i g ps δ
      | .brk δ => .nx δ
      | o => o
def forPens (s : Nat) (m : Nat) (i : Nat) (g : DE → O) : DE → O := fun δ => match δ[s]? with
  | some (some (.val (.scr ns))) => if ns.length ≤ 1000 ∧ m ≤ 1000 then penLoop i g (pensOf ns m) δ else .stuck
  | _ => .stuck
theorem pen_den {K : PySem.W.Frag} {F : Hp} (q : Int × Int) : MDen K F (.lst (penD q)) (.lst (penV q)) := Dens.cons rfl (Dens.cons rfl (Dens.one rfl))
theorem rd_pens {K : PySem.W.Frag} {W : WX} {sl m i : Nat} {g : DE → O} {N : Ends} {σ : L2.St} {H : Hp} (z : rdS K W (forPens sl m i g) N σ H) :
    tFor (iList K (tCallS (spPens K) (WE W) (tCons (tVar sl) (tCons (tC (.int (m : Int))) tNil)))) (gName i) (rdS K W g) N σ H := by
  obtain ⟨c, F, δ, r, z⟩ := z
  unfold forPens at z
  split at z
  · rename_i ns hs
    split at z
    · rename_i hb
      obtain ⟨v, e1, a, rfl, e2⟩ := r.val hs
      refine ⟨.ref a, e1, a, ns, m, rfl, r.sub.seq e2, hb.1, hb.2, fun l ps H1 f1 f2 f3 f4 f5 f6 f7 f8 => ?_⟩
      refine ⟨l, rfl, ⟨_, .inl (.inl f6)⟩, ?_⟩
      -- what is held
      have zipIn : ∀ q ∈ (ps.zip (pensOf ns m)).map (fun x => (x.1, HO.lst (penV x.2))), H q.1 = none ∧ H1 q.1 = some q.2 ∧ q.1 ∈ ps := fun q hq => by
        obtain ⟨x, hx, rfl⟩ := List.mem_map.mp hq
        obtain ⟨j, hj⟩ := List.getElem?_of_mem hx
        have h1 : ps[j]? = some x.1 ∧ (pensOf ns m)[j]? = some x.2 := by
          rw [List.getElem?_zip_eq_some] at hj
          exact hj
        have hm := List.mem_of_getElem? h1.1
        exact ⟨f2 _ hm, f8 j _ _ h1.1 h1.2, hm⟩
      have rl := r.holdAll f5 (l := [(l, .lst (ps.map V.ref))]) fun q hq => by
        rw [List.mem_singleton.mp hq]; exact ⟨f1, f6⟩
      have hlen := f7
      let rest : Nat → List (Addr × HO) := fun k => ((ps.zip (pensOf ns m)).map (fun x => (x.1, HO.lst (penV x.2)))).drop k
      let cL : Cq := { c with G := gput c.G [(l, .lst (ps.map V.ref))] }
      have gl0 : ∀ {p : Addr}, p ∈ ps → cL.G p = none := fun {p} hp => by
        show gput c.G [(l, HO.lst (ps.map V.ref))] p = none
        rw [gput_out (by intro q hq; rw [List.mem_singleton.mp hq]; exact fun y => f4 (by rw [show l = p from y]; exact hp))]
        exact r.freeG (f2 p hp)
      have r0 : Rel K { cL with G := gput cL.G (rest 0) } F H1 σ δ := by
        have := r.holdAll f5 (l := rest 0 ++ [(l, .lst (ps.map V.ref))]) fun q hq => by
          rcases List.mem_append.mp hq with y | y
          · obtain ⟨y1, y2, _⟩ := zipIn q (by simpa [rest] using y); exact ⟨y1, y2⟩
          · rw [List.mem_singleton.mp y]; exact ⟨f1, f6⟩
        have e : ∀ (l1 l2 : List (Addr × HO)) (G : Hp), gput G (l1 ++ l2) = gput (gput G l2) l1 := by
          intro l1
          induction l1 with
          | nil => intro l2 G; rfl
          | cons x l1 ih => intro l2 G; obtain ⟨p, o⟩ := x; show upd (gput G (l1 ++ l2)) p o = upd (gput (gput G l2) l1) p o; rw [ih]
        rw [e] at this
        exact this
      have lessG : ∀ (k : Nat) (b : Addr) (o : HO), c.G b = some o → gput cL.G (rest k) b = some o := fun k b o e => by
        have hb : H b = some o := (r.gs b o e).1
        rw [gput_out fun q hq y => ?_]
        · show gput c.G [(l, HO.lst (ps.map V.ref))] b = some o
          rw [gput_out (by intro q hq y; rw [List.mem_singleton.mp hq] at y; rw [← show l = b from y, f1] at hb; cases hb)]
          exact e
        · obtain ⟨y1, _, _⟩ := zipIn q (List.mem_of_mem_drop hq)
          rw [y, hb] at y1; cases y1
      have lenz : (ps.zip (pensOf ns m)).length = (pensOf ns m).length := by rw [List.length_zip, hlen, Nat.min_self]
      have h0p : ∀ {p : Addr}, p ∈ ps → c.H0 p = none := fun {p} hp => r.free (f2 p hp)
      refine ⟨fun k n σ H => ∃ F' δ, Rel K { cL with G := gput cL.G (rest k) } F' H σ δ ∧ Same F F' ∧ k + n = (pensOf ns m).length ∧ aftS K W N c F' (penLoop i g ((pensOf ns m).drop k) δ), ⟨(pensOf ns m).length, F, δ, r0, .refl _, by omega, z⟩, ?_⟩
      rintro k n σ2 H2 ⟨F2, δ2, r2, s2, en, z2⟩
      -- the list is still there
      have lst2 : H2 l = some (.lst (ps.map V.ref)) := by
        refine (r2.gs l _ ?_).1
        show gput (gput c.G [(l, HO.lst (ps.map V.ref))]) (rest k) l = _
        rw [gput_out fun q hq => fun y => f4 (by
          obtain ⟨_, _, y3⟩ := zipIn q (List.mem_of_mem_drop hq)
          rw [y] at y3; exact y3)]
        exact upd_same
      by_cases hk : k < (pensOf ns m).length
      · have hkp : k < ps.length := by rw [hlen]; exact hk
        have eqk := List.getElem?_eq_getElem hk
        have epk := List.getElem?_eq_getElem hkp
        refine .inr ⟨⟨_, V.ref ps[k], .inl (.inl lst2), by rw [List.getElem?_map, epk]; rfl⟩, fun σ' H' => ∃ F' δ, Rel K { cL with G := gput cL.G (rest (k + 1)) } F' H' σ' δ ∧ Same F F' ∧ aftS K W N c F' (penLoop i g ((pensOf ns m).drop (k + 1)) δ), ?_, fun x H3 hy => ?_⟩
        · rintro σ' H' ⟨F3, δ3, r3, s3, z3⟩
          exact ⟨n - 1, by omega, F3, δ3, r3, s3, by omega, z3⟩
        · obtain ⟨rfl, hy⟩ := hy
          have ex := hy _ (.inl (.inl lst2))
          rw [List.getElem?_map, epk] at ex
          have ex : x = V.ref ps[k] := (Option.some.inj ex).symm
          subst ex
          have er : rest k = (ps[k], HO.lst (penV (pensOf ns m)[k])) :: rest (k + 1) := by
            show ((ps.zip (pensOf ns m)).map _).drop k = _
            have hz : k < ((ps.zip (pensOf ns m)).map (fun x => (x.1, HO.lst (penV x.2)))).length := by rw [List.length_map, lenz]; exact hk
            rw [List.drop_eq_getElem_cons hz, List.getElem_map, List.getElem_zip]
          have r2' : Rel K { ({ cL with G := gput cL.G (rest (k + 1)) } : Cq) with G := upd (gput cL.G (rest (k + 1))) ps[k] (.lst (penV (pensOf ns m)[k])) } F2 H3 σ2 δ2 := by
            have q := r2
            rw [er] at q
            exact q
          have memk : ps[k] ∈ ps := List.getElem_mem hkp
          have gk : gput cL.G (rest (k + 1)) ps[k] = none := by
            rw [gput_out fun q hq y => ?_]
            · exact gl0 memk
            · -- no address twice
              obtain ⟨j, hj, rfl⟩ := List.mem_iff_getElem.mp hq
              rw [List.getElem_drop, List.getElem_map, List.getElem_zip] at y
              have hj' : k + 1 + j < ps.length := by
                have : j < (((ps.zip (pensOf ns m)).map (fun x => (x.1, HO.lst (penV x.2)))).drop (k + 1)).length := hj
                rw [List.length_drop, List.length_map, List.length_zip] at this
                omega
              have e1 := List.getElem?_eq_getElem hj'
              have e2 := List.getElem?_eq_getElem hkp
              rw [← y] at e2
              have := (List.getElem?_inj hj' f3).mp (e1.trans e2.symm)
              omega
          obtain ⟨r3, g1, g2, g3, g4⟩ := Rel.drop (c := { cL with G := gput cL.G (rest (k + 1)) }) r2' gk
          rw [List.drop_eq_getElem_cons hk] at z2
          unfold penLoop at z2
          show rdS K W g _ (σ2.set i (some (V.ref ps[k]))) H3
          split at z2
          · exact False.elim z2
          · rename_i δ4 q4
            obtain ⟨rfl, nb⟩ := setSl_some q4
            have r4 := Rel.setOwn r3 g1 g2 gk (h0p memk) (pen_den _) g3 nb
            refine ⟨_, F2, _, r4, ?_⟩
            cases qg : g (δ2.set i (some (.own (.lst (penD (pensOf ns m)[k]))))) with
            | nx δ5 => rw [qg] at z2; exact fun σ' F' H' r' s' => ⟨F', δ5, r', s2.trans s', z2.up s'⟩
            | cnt δ5 => rw [qg] at z2; exact fun σ' F' H' r' s' => ⟨F', δ5, r', s2.trans s', z2.up s'⟩
            | brk δ5 => rw [qg] at z2; exact fun σ' F' H' r' s' => z2 σ' F' H' (Rel.less r' (lessG (k + 1))) s'
            | ret d δ5 => rw [qg] at z2; exact fun v σ' F' H' r' s' d' => z2 v σ' F' H' (Rel.less r' (lessG (k + 1))) s' d'
            | exc x δ5 => rw [qg] at z2; exact fun cls od σ' F' H' r' s' d' => z2 cls od σ' F' H' (Rel.less r' (lessG (k + 1))) s' d'
            | stuck => rw [qg] at z2; exact z2
      · refine .inl ⟨⟨_, .inl (.inl lst2), by rw [List.length_map, hlen]; omega⟩, ?_⟩
        rw [List.drop_eq_nil_of_le (by omega)] at z2
        exact z2 σ2 F2 H2 (Rel.less r2 (lessG k)) (.refl _)
    · exact False.elim z
  · exact False.elim z
end PV

/-! PV13: the defs that the laws share (rest, pen, cell, draw, pick), as functions on data; what they give. -/
namespace PV
open PySem PySem.Spec PyProof.Rows L2
noncomputable def F_rest : DE → O := (retS (op2 isub (var 0) (op2 mulA (op2 idiv (var 0) (var 1)) (var 1))))
noncomputable def ph_rest : List Sl → FR := fnF 2 2 F_rest
noncomputable def F_pen : DE → R MD := (lstN (valA (callB max2D (valA (cst (.int 0)) (valA (op2 isub (var 0) (op2 ipow (cst (.int 10)) (cst (.int 18)))) noA))) (valA (op2 addA (callF ph_rest (valA (var 0) (valA (cst (.int 2147483629)) noA))) (cst (.int 1))) (valA (cst (.int 0)) noA))))
noncomputable def F_cell_at : DE → O := (thenS (ifS (tst (op2 ilt (var 1) (callB lenD (valA (var 0) noA)))) (retS (op2 ixD (var 0) (var 1))) skipS) (retS (cst (.int 0))))
noncomputable def ph_cell_at : List Sl → FR := fnF 2 2 F_cell_at
noncomputable def F_draw : DE → O := (thenS (ifS (tst (op2 igt (ixSl 0 (cst (.int 0))) (cst (.int 0)))) (thenS (setS 3 (callF ph_rest (valA (ixSl 0 (cst (.int 0))) (valA (var 1) noA)))) (thenS (putS 0 (cst (.int 0)) (op2 idiv (ixSl 0 (cst (.int 0))) (var 1))) (retS (var 3)))) skipS) (thenS (putS 0 (cst (.int 2)) (op2 addA (ixSl 0 (cst (.int 2))) (cst (.int 1)))) (thenS (putS 0 (cst (.int 1)) (callF ph_rest (valA (op2 addA (op2 addA (op2 mulA (ixSl 0 (cst (.int 1))) (cst (.int 48271))) (op2 mulA (cst (.int 1009)) (ixSl 0 (cst (.int 2))))) (cst (.int 7))) (valA (cst (.int 2147483647)) noA)))) (thenS (setS 2 (callF ph_rest (valA (op2 addA (op2 addA (op2 mulA (ixSl 0 (cst (.int 1))) (ixSl 0 (cst (.int 1)))) (op2 mulA (cst (.int 69621)) (ixSl 0 (cst (.int 1))))) (cst (.int 11))) (valA (cst (.int 2147483629)) noA)))) (thenS (setS 2 (callF ph_rest (valA (op2 addA (op2 mulA (var 2) (var 2)) (op2 mulA (cst (.int 40014)) (var 2))) (valA (cst (.int 2147483587)) noA)))) (retS (callF ph_rest (valA (op2 idiv (var 2) (cst (.int 16))) (valA (var 1) noA)))))))))
noncomputable def ph_draw : List Sl → FR := fnF 2 4 F_draw
noncomputable def F_pick : DE → O := (retS (op2 ixD (var 1) (callF ph_draw (slotA 0 (valA (callB lenD (valA (var 1) noA)) noA)))))
noncomputable def ph_pick : List Sl → FR := fnF 2 2 F_pick
/-- a slot that may be set -/
def nb : Option Sl → Bool
  | some (.bor _) => false
  | _ => true
theorem setSl_z {s : Sl} {l : DE} : setSl 0 s (none :: l) = some (some s :: l) := rfl
theorem setSl_v {s : Sl} {l : DE} {d : D} : setSl 0 s (some (.val d) :: l) = some (some s :: l) := rfl
theorem setSl_o {s : Sl} {l : DE} {d : MD} : setSl 0 s (some (.own d) :: l) = some (some s :: l) := rfl
theorem setSl_x {x : Option Sl} {s : Sl} {l : DE} (h : nb x = true) : setSl 0 s (x :: l) = some (some s :: l) := by
  cases x with
  | none => rfl
  | some y => cases y <;> first | rfl | cases h
theorem setSl_s {x : Option Sl} {s : Sl} {l : DE} {n : Nat} : setSl (n + 1) s (x :: l) = (setSl n s l).map (x :: ·) := by
  unfold setSl
  rw [List.getElem?_cons_succ]
  cases l[n]? with
  | none => rfl
  | some y => cases y with
    | none => rfl
    | some z => cases z <;> rfl
theorem addA_int {i j : Int} : addA (.int i) (.int j) = some (.int (i + j)) := rfl
theorem isub_int {i j : Int} : isub (.int i) (.int j) = some (.int (i - j)) := rfl
theorem mulA_l {i j : Int} (h : -(2 ^ 64) < i) (g : i < 2 ^ 64) : mulA (.int i) (.int j) = some (.int (i * j)) := by
  have : imul (.int i) (.int j) = some (.int (i * j)) := if_pos (by unfold mulOk; rw [decide_eq_true h, decide_eq_true g]; rfl)
  unfold mulA; rw [this]; rfl
theorem mulA_r {i j : Int} (h : -(2 ^ 64) < j) (g : j < 2 ^ 64) : mulA (.int i) (.int j) = some (.int (i * j)) := by
  have : imul (.int i) (.int j) = some (.int (i * j)) := if_pos (by unfold mulOk; rw [decide_eq_true h, decide_eq_true g]; simp)
  unfold mulA; rw [this]; rfl
theorem idiv_int {i j : Int} (h : 0 < j) (g : j < 2 ^ 64) : idiv (.int i) (.int j) = some (.int (i / j)) := if_pos (by unfold divOk; rw [decide_eq_true h, decide_eq_true g]; rfl)
theorem imod_int {i j : Int} (h : 0 < j) (g : j < 2 ^ 64) : imod (.int i) (.int j) = some (.int (i % j)) := if_pos (by unfold divOk; rw [decide_eq_true h, decide_eq_true g]; rfl)
theorem ipow_int {i j : Int} (h : 0 ≤ j) (g : j ≤ 1000) (k : i.natAbs < 2 ^ 64) : ipow (.int i) (.int j) = some (.int (i ^ j.toNat)) := if_pos (by unfold powOk; rw [decide_eq_true h, decide_eq_true g, decide_eq_true k]; rfl)
theorem ilt_int {i j : Int} : ilt (.int i) (.int j) = some (.bl (decide (i < j))) := rfl
theorem ile_int {i j : Int} : ile (.int i) (.int j) = some (.bl (decide (i ≤ j))) := rfl
theorem igt_int {i j : Int} : igt (.int i) (.int j) = some (.bl (decide (j < i))) := rfl
theorem ige_int {i j : Int} : ige (.int i) (.int j) = some (.bl (decide (j ≤ i))) := rfl
theorem eqD_int {i j : Int} : eqD (.int i) (.int j) = some (.bl (decide (i = j))) := rfl
theorem eqD_str {i j : Str} : eqD (.str i) (.str j) = some (.bl (decide (i = j))) := rfl
theorem rest_ok {n b : Int} (h0 : 0 < b) (h1 : b < 2 ^ 64) : ph_rest [.val (.int n), .val (.int b)] = .ret (.int (n % b)) [.val (.int n), .val (.int b)] := by
  have e : n - n / b * b = n % b := by have := Int.emod_add_ediv_mul n b; omega
  simp (disch := first | assumption | with_reducible rfl | omega | rfl) [fnF, thenS, skipS, retS, dropS, ifS, setS, ownS, bindS, R.bind, R.of, cst, var, op2, tst, andT, orT, notT, andE, orE, notE, ifE, chn, callB, callN, valA, noA, peeks, peekA, PV.addA_int, PV.mulA_l, PV.mulA_r, PV.isub_int, PV.idiv_int, PV.imod_int, PV.ipow_int, PV.ilt_int, PV.ile_int, PV.igt_int, PV.ige_int, PV.eqD_int, PV.eqD_str, negE, lenD, max2D, min2D, ixSl, putS, mutOf, Sl.mut, Sl.wr, atI, ixN, setSl_z, setSl_v, setSl_o, setSl_x, setSl_s, Option.map_some, ixD, lstN, tupE, valsOf, ofN, MD.d, LIM, back, appS, List.getElem?_cons_zero, List.getElem?_cons_succ, callF, lend, unlend, slots, slotA, nmG, tupG, consG, nilG, listN, tupleD, ph_rest, F_rest, e]
theorem cell_ok (ns : List Int) (i : Nat) : ∃ as', ph_cell_at [.val (.scr ns), .val (.int i)] = .ret (.int (ns.getD i 0)) as' := by
  by_cases h : i < ns.length
  · have e : ixD (.scr ns) (.int i) = some (.int (ns.getD i 0)) := by
      show (atI ns i).map D.int = _
      unfold atI ixN
      simp [h]
    have h' : (i : Int) < (ns.length : Int) := by omega
    exact ⟨_, by simp (disch := first | assumption | with_reducible rfl | omega | rfl) [fnF, thenS, skipS, retS, dropS, ifS, setS, ownS, bindS, R.bind, R.of, cst, var, op2, tst, andT, orT, notT, andE, orE, notE, ifE, chn, callB, callN, valA, noA, peeks, peekA, PV.addA_int, PV.mulA_l, PV.mulA_r, PV.isub_int, PV.idiv_int, PV.imod_int, PV.ipow_int, PV.ilt_int, PV.ile_int, PV.igt_int, PV.ige_int, PV.eqD_int, PV.eqD_str, negE, lenD, max2D, min2D, ixSl, putS, mutOf, Sl.mut, Sl.wr, atI, ixN, setSl_z, setSl_v, setSl_o, setSl_x, setSl_s, Option.map_some, ixD, lstN, tupE, valsOf, ofN, MD.d, LIM, back, appS, List.getElem?_cons_zero, List.getElem?_cons_succ, callF, lend, unlend, slots, slotA, nmG, tupG, consG, nilG, listN, tupleD, ph_cell_at, F_cell_at, h', e]; rfl⟩
  · have h' : ¬ (i : Int) < (ns.length : Int) := by omega
    refine ⟨_, by simp (disch := first | assumption | with_reducible rfl | omega | rfl) [fnF, thenS, skipS, retS, dropS, ifS, setS, ownS, bindS, R.bind, R.of, cst, var, op2, tst, andT, orT, notT, andE, orE, notE, ifE, chn, callB, callN, valA, noA, peeks, peekA, PV.addA_int, PV.mulA_l, PV.mulA_r, PV.isub_int, PV.idiv_int, PV.imod_int, PV.ipow_int, PV.ilt_int, PV.ile_int, PV.igt_int, PV.ige_int, PV.eqD_int, PV.eqD_str, negE, lenD, max2D, min2D, ixSl, putS, mutOf, Sl.mut, Sl.wr, atI, ixN, setSl_z, setSl_v, setSl_o, setSl_x, setSl_s, Option.map_some, ixD, lstN, tupE, valsOf, ofN, MD.d, LIM, back, appS, List.getElem?_cons_zero, List.getElem?_cons_succ, callF, lend, unlend, slots, slotA, nmG, tupG, consG, nilG, listN, tupleD, ph_cell_at, F_cell_at, h', h]; rfl⟩
theorem pen_ok (n : Int) : ∃ δ', F_pen [some (.val (.int n))] = .ok (.lst (penD (penOf n))) δ' := by
  refine ⟨_, by simp (disch := first | assumption | with_reducible rfl | omega | rfl) [fnF, thenS, skipS, retS, dropS, ifS, setS, ownS, bindS, R.bind, R.of, cst, var, op2, tst, andT, orT, notT, andE, orE, notE, ifE, chn, callB, callN, valA, noA, peeks, peekA, PV.addA_int, PV.mulA_l, PV.mulA_r, PV.isub_int, PV.idiv_int, PV.imod_int, PV.ipow_int, PV.ilt_int, PV.ile_int, PV.igt_int, PV.ige_int, PV.eqD_int, PV.eqD_str, negE, lenD, max2D, min2D, ixSl, putS, mutOf, Sl.mut, Sl.wr, atI, ixN, setSl_z, setSl_v, setSl_o, setSl_x, setSl_s, Option.map_some, ixD, lstN, tupE, valsOf, ofN, MD.d, LIM, back, appS, List.getElem?_cons_zero, List.getElem?_cons_succ, callF, lend, unlend, slots, slotA, nmG, tupG, consG, nilG, listN, tupleD, F_pen, rest_ok, penD, penOf]; rfl⟩
/-- a pen in use -/
def IsPen (m : MD) : Prop := ∃ a b c : Int, m = .lst [.int a, .int b, .int c] ∧ 0 ≤ a ∧ 0 ≤ b ∧ b < 2 ^ 31
theorem draw_ok {m : MD} {k : Int} (hp : IsPen m) (h0 : 0 < k) (h1 : k < 2 ^ 64) : ∃ r m', IsPen m' ∧ 0 ≤ r ∧ r < k ∧ ph_draw [.bor m, .val (.int k)] = .ret (.int r) [.bor m', .val (.int k)] := by
  obtain ⟨a, b, c, rfl, ha, hb, hc⟩ := hp
  by_cases h : 0 < a
  · refine ⟨a % k, .lst [.int (a / k), .int b, .int c], ⟨_, _, _, rfl, Int.ediv_nonneg ha (by omega), hb, hc⟩, Int.emod_nonneg _ (by omega), Int.emod_lt_of_pos _ h0, ?_⟩
    simp (disch := first | assumption | with_reducible rfl | omega | rfl) [fnF, thenS, skipS, retS, dropS, ifS, setS, ownS, bindS, R.bind, R.of, cst, var, op2, tst, andT, orT, notT, andE, orE, notE, ifE, chn, callB, callN, valA, noA, peeks, peekA, PV.addA_int, PV.mulA_l, PV.mulA_r, PV.isub_int, PV.idiv_int, PV.imod_int, PV.ipow_int, PV.ilt_int, PV.ile_int, PV.igt_int, PV.ige_int, PV.eqD_int, PV.eqD_str, negE, lenD, max2D, min2D, ixSl, putS, mutOf, Sl.mut, Sl.wr, atI, ixN, setSl_z, setSl_v, setSl_o, setSl_x, setSl_s, Option.map_some, ixD, lstN, tupE, valsOf, ofN, MD.d, LIM, back, appS, List.getElem?_cons_zero, List.getElem?_cons_succ, callF, lend, unlend, slots, slotA, nmG, tupG, consG, nilG, listN, tupleD, ph_draw, F_draw, rest_ok, h]
  · have q0 : 0 ≤ (b * 48271 + 1009 * (c + 1) + 7) % 2147483647 := Int.emod_nonneg _ (by decide)
    have q1 : (b * 48271 + 1009 * (c + 1) + 7) % 2147483647 < 2147483647 := Int.emod_lt_of_pos _ (by decide)
    generalize eq : (b * 48271 + 1009 * (c + 1) + 7) % 2147483647 = b' at q0 q1
    let x1 : Int := (b' * b' + 69621 * b' + 11) % 2147483629
    have y0 : 0 ≤ x1 := Int.emod_nonneg _ (by decide)
    have y1 : x1 < 2147483629 := Int.emod_lt_of_pos _ (by decide)
    have e1 : (b' * b' + 69621 * b' + 11) % 2147483629 = x1 := rfl
    have y2 : 0 ≤ b' := q0
    refine ⟨(x1 * x1 + 40014 * x1) % 2147483587 / 16 % k, .lst [.int a, .int b', .int (c + 1)], ⟨_, _, _, rfl, ha, q0, by omega⟩, Int.emod_nonneg _ (by omega), Int.emod_lt_of_pos _ h0, ?_⟩
    generalize x1 = x at *
    simp (disch := first | assumption | with_reducible rfl | omega | rfl) [fnF, thenS, skipS, retS, dropS, ifS, setS, ownS, bindS, R.bind, R.of, cst, var, op2, tst, andT, orT, notT, andE, orE, notE, ifE, chn, callB, callN, valA, noA, peeks, peekA, PV.addA_int, PV.mulA_l, PV.mulA_r, PV.isub_int, PV.idiv_int, PV.imod_int, PV.ipow_int, PV.ilt_int, PV.ile_int, PV.igt_int, PV.ige_int, PV.eqD_int, PV.eqD_str, negE, lenD, max2D, min2D, ixSl, putS, mutOf, Sl.mut, Sl.wr, atI, ixN, setSl_z, setSl_v, setSl_o, setSl_x, setSl_s, Option.map_some, ixD, lstN, tupE, valsOf, ofN, MD.d, LIM, back, appS, List.getElem?_cons_zero, List.getElem?_cons_succ, callF, lend, unlend, slots, slotA, nmG, tupG, consG, nilG, listN, tupleD, ph_draw, F_draw, rest_ok, h, eq, e1]
/-- at a call -/
theorem draw_at {δ : DE} {i : Nat} {fk : DE → R D} {k : Int} {s : Sl} {m : MD} (hk : fk δ = .ok (.int k) δ) (hs : δ[i]? = some (some s)) (hm : s.mut = some m) (hp : IsPen m) (h0 : 0 < k) (h1 : k < 2 ^ 64) :
    ∃ r m', IsPen m' ∧ 0 ≤ r ∧ r < k ∧ callF ph_draw (slotA i (valA fk noA)) δ = .ok (.int r) (δ.set i (some (s.wr m'))) := by
  obtain ⟨r, m', p', r0, r1, e⟩ := draw_ok hp h0 h1
  refine ⟨r, m', p', r0, r1, ?_⟩
  have hmu : mutOf δ i = some (s, m) := by unfold mutOf; rw [hs]; simp [hm]
  simp [callF, slotA, hmu, valA, noA, hk, R.bind, slots, lend, e, unlend]
/-- pick: one of a list's -/
theorem pick_ok {m : MD} {l : List D} (hp : IsPen m) (h0 : 0 < l.length) (h1 : l.length ≤ LIM) : ∃ d m', IsPen m' ∧ d ∈ l ∧ ph_pick [.bor m, .val (.lst l)] = .ret d [.bor m', .val (.lst l)] := by
  obtain ⟨r, m', p', r0, r1, e⟩ := draw_at (δ := [some (.bor m), some (.val (.lst l))]) (i := 0) (s := .bor m) (m := m) (fk := callB lenD (valA (var 1) noA)) (k := l.length) (by simp (disch := first | assumption | with_reducible rfl | omega | rfl) [fnF, thenS, skipS, retS, dropS, ifS, setS, ownS, bindS, R.bind, R.of, cst, var, op2, tst, andT, orT, notT, andE, orE, notE, ifE, chn, callB, callN, valA, noA, peeks, peekA, PV.addA_int, PV.mulA_l, PV.mulA_r, PV.isub_int, PV.idiv_int, PV.imod_int, PV.ipow_int, PV.ilt_int, PV.ile_int, PV.igt_int, PV.ige_int, PV.eqD_int, PV.eqD_str, negE, lenD, max2D, min2D, ixSl, putS, mutOf, Sl.mut, Sl.wr, atI, ixN, setSl_z, setSl_v, setSl_o, setSl_x, setSl_s, Option.map_some, ixD, lstN, tupE, valsOf, ofN, MD.d, LIM, back, appS, List.getElem?_cons_zero, List.getElem?_cons_succ, callF, lend, unlend, slots, slotA, nmG, tupG, consG, nilG, listN, tupleD]) rfl rfl hp (by omega) (by unfold LIM at h1; omega)
  have hr : r.toNat < l.length := by omega
  have ea : atI l r = some l[r.toNat] := by
    unfold atI ixN
    rw [if_pos r0, if_pos (by omega)]
    show l[r.toNat]? = _
    exact List.getElem?_eq_getElem hr
  refine ⟨l[r.toNat], m', p', List.getElem_mem hr, ?_⟩
  unfold ph_pick F_pick
  have e2 : op2 ixD (var 1) (callF ph_draw (slotA 0 (valA (callB lenD (valA (var 1) noA)) noA))) [some (.bor m), some (.val (.lst l))] = .ok l[r.toNat] [some (.bor m'), some (.val (.lst l))] := by
    unfold op2
    simp [var, R.bind, e, ixD, ea, R.of, Sl.wr]
  simp [fnF, retS, e2, bindS, back]
theorem pick_at {δ : DE} {i : Nat} {fl : DE → R D} {l : List D} {s : Sl} {m : MD} (hk : fl δ = .ok (.lst l) δ) (hs : δ[i]? = some (some s)) (hm : s.mut = some m) (hp : IsPen m) (h0 : 0 < l.length) (h1 : l.length ≤ LIM) :
    ∃ d m', IsPen m' ∧ d ∈ l ∧ callF ph_pick (slotA i (valA fl noA)) δ = .ok d (δ.set i (some (s.wr m'))) := by
  obtain ⟨d, m', p', hd, e⟩ := pick_ok hp h0 h1
  refine ⟨d, m', p', hd, ?_⟩
  have hmu : mutOf δ i = some (s, m) := by unfold mutOf; rw [hs]; simp [hm]
  simp [callF, slotA, hmu, valA, noA, hk, R.bind, slots, lend, e, unlend]

/-! ### the pens' reading -/
theorem pens_read {K : PySem.W.Frag} {W : WX} {fm : DE → R D} {N : List Str} {vs : List V} {H : Hp} {Q : VK} {E : XK} (hN : N.length = 3)
    (hm : ∀ (ns : List Int) (m : Nat), fm [some (.val (.scr ns)), some (.val (.int m)), none] = .ok (.int ((max 1 (min ns.length m) : Nat) : Int)) [some (.val (.scr ns)), some (.val (.int m)), none])
    (h : spPens K vs H Q E) : tLc (iRng1 (tCons (rdE K W fm) tNil)) (gName 2) tYes (tCallS (spNew K 1 1 F_pen) (WE W0) (tCons (tCallS (spV K ph_cell_at) (WE W0) (tCons (tVar 0) (tCons (tVar 2) tNil))) tNil)) [2] (L2.start N vs) H Q := by
  obtain ⟨a, ns, m, rfl, hs, hl, hm', q⟩ := h
  have aok : ∀ (Hx : Hp) (i : Int), Same H Hx → AOk K Hx Hx [.val (.scr ns), .val (.int i)] [.ref a, .int i] := fun Hx i sm => by
    refine ⟨.refl _, rfl, fun j s v e1 e2 => ?_, fun i j b m n e1 => ?_⟩
    · match j with
      | 0 => cases e1; cases e2; exact ⟨a, rfl, sm.seq hs⟩
      | 1 => cases e1; cases e2; rfl
      | j + 2 => simp at e1
    · match i with
      | 0 => cases e1
      | 1 => cases e1
      | j + 2 => simp at e1
  have est : L2.start N [.ref a, .int (m : Int)] = [some (.ref a), some (.int m), none] := by
    unfold L2.start
    rw [hN]
    rfl
  have r0 := (aok H m (.refl _)).rel (N := N)
  rw [hN] at r0
  refine ⟨_, H, _, r0, ?_⟩
  have e0 := hm ns m
  rw [show ([Sl.val (D.scr ns), Sl.val (D.int m)].map some ++ List.replicate (3 - [Sl.val (D.scr ns), Sl.val (D.int m)].length) none : DE) = [some (.val (.scr ns)), some (.val (.int m)), none] from rfl, e0]
  intro v F1 H1 r1 s1 d1
  have d1 : v = .int _ := d1
  subst d1
  have sm1 : Same H H1 := s1.trans r1.sub
  refine ⟨_, rfl, by omega, by omega, fun D hD => ?_⟩
  have hHD : H D = none := by
    cases e : H D with
    | none => rfl
    | some o => rw [sm1 _ _ e] at hD; cases hD
  rw [est, Int.toNat_natCast]
  have hlen : (pensOf ns m).length = max 1 (min ns.length m) := by unfold pensOf; rw [List.length_map, List.length_range]
  refine lc_range (lo := 0) (fun i Hx => ∃ ps : List Addr, ps.length = i ∧ Hx D = some (.lst (ps.map V.ref)) ∧ (∀ p ∈ ps, H p = none) ∧ ps.Nodup ∧ D ∉ ps ∧ Same H Hx ∧ ∀ (j : Nat) (p : Addr), ps[j]? = some p → Hx p = some (.lst (penV (penOf (ns.getD j 0))))) ?_ ?_ ?_
  · exact ⟨[], rfl, upd_same, fun p hp => (by cases hp), .nil, by simp, sm1.trans (same_new hD), fun j p e => by simp at e⟩
  · rintro i Hx hi ⟨ps, p1, p2, p3, p4, p5, p6, p7⟩
    refine ⟨rfl, ?_⟩
    simp only [tYes, if_true]
    show tCallS _ _ _ _ Hx _
    refine ⟨.ref a, rfl, .int (0 + (i : Int)), rfl, ?_⟩
    obtain ⟨as', ec⟩ := cell_ok ns i
    refine ⟨Hx, [.val (.scr ns), .val (.int (0 + (i : Int)))], aok Hx _ p6, ?_⟩
    rw [Int.zero_add, ec]
    intro v F2 H2 dn d2
    have d2 : v = .int _ := d2
    subst d2
    have sm2 : Same Hx H2 := fun b o e => dn.pres b o e fun j m' e1 => by
      match j with
      | 0 => cases e1
      | 1 => cases e1
      | j + 2 => simp at e1
    obtain ⟨δ', ep⟩ := pen_ok (ns.getD i 0)
    refine ⟨H2, [.val (.int (ns.getD i 0))], _, δ', ⟨.refl _, rfl, fun j s v e1 e2 => ?_, fun i j b m n e1 => ?_⟩, rfl, ep, fun p o F3 H3 dn3 h1 h2 h3 h4 => ?_⟩
    · match j with
      | 0 => cases e1; cases e2; rfl
      | j + 1 => simp at e1
    · match i with
      | 0 => cases e1
      | j + 1 => simp at e1
    · have sm3 : Same H2 H3 := fun b o e => dn3.pres b o e fun j m' e1 => by
        match j with
        | 0 => cases e1
        | j + 1 => simp at e1
      have sm : Same Hx H3 := sm2.trans sm3
      have hxp : Hx p = none := by
        cases e : Hx p with
        | none => rfl
        | some o => rw [sm2 _ _ e] at h4; cases h4
      have hpD : p ≠ D := fun e => by rw [e, p2] at hxp; cases hxp
      have hpps : p ∉ ps := fun hp => by
        obtain ⟨j, ej⟩ := List.getElem?_of_mem hp
        rw [p7 j p ej] at hxp; cases hxp
      have ho : o = .lst (penV (penOf (ns.getD i 0))) := by
        obtain ⟨xs, rfl, dx⟩ := mden_lst h2
        obtain ⟨v1, r1, rfl, c1, v2, r2, rfl, c2, v3, r3, rfl, c3, c4⟩ := dx
        rw [show v1 = _ from c1, show v2 = _ from c2, show v3 = _ from c3, show r3 = _ from c4]
        rfl
      refine ⟨_, sm _ _ p2, ?_, ps ++ [p], by rw [List.length_append, p1]; rfl, ?_, ?_, ?_, ?_, ?_, ?_⟩
      · rw [List.length_map, p1]
        have : sizeLine ≥ 2000 := by decide
        omega
      · rw [upd_same, List.map_append]; rfl
      · intro x hx
        rcases List.mem_append.mp hx with y | y
        · exact p3 x y
        · rw [List.mem_singleton.mp y]
          cases e : H p with
          | none => rfl
          | some o => rw [p6 _ _ e] at hxp; cases hxp
      · rw [List.nodup_append]
        refine ⟨p4, by simp, fun x hx y hy => ?_⟩
        rw [List.mem_singleton.mp hy]
        exact fun e => hpps (e ▸ hx)
      · intro hx
        rcases List.mem_append.mp hx with y | y
        · exact p5 y
        · exact hpD (List.mem_singleton.mp y).symm
      · intro b o e
        have hb : b ≠ D := fun y => by rw [y, hHD] at e; cases e
        rw [upd_ne hb]
        exact sm _ _ (p6 _ _ e)
      · intro j x ej
        by_cases hj : j < ps.length
        · rw [List.getElem?_append_left hj] at ej
          have hx : x ≠ D := fun y => p5 (by rw [← y]; exact List.mem_of_getElem? ej)
          rw [upd_ne hx]
          exact sm _ _ (p7 j x ej)
        · rw [List.getElem?_append_right (by omega)] at ej
          have hj0 : j = ps.length := by
            have := (List.getElem?_eq_some_iff.mp ej).1
            simp at this
            omega
          rw [hj0, Nat.sub_self] at ej
          cases ej
          rw [upd_ne hpD, h1, ho, hj0, p1]
  · rintro Hx ⟨ps, p1, p2, p3, p4, p5, p6, p7⟩
    refine q D ps Hx hHD p3 p4 p5 p6 p2 (by rw [p1, hlen]) fun j p qq e1 e2 => ?_
    rw [p7 j p e1]
    unfold pensOf at e2
    rw [List.getElem?_map] at e2
    obtain ⟨j', e3, e4⟩ := Option.map_eq_some_iff.mp e2
    have := (List.getElem?_eq_some_iff.mp e3)
    obtain ⟨h5, h6⟩ := this
    rw [List.getElem_range] at h6
    rw [← e4, ← h6]
end PV

/-! PV14: plain rules: loops, comprehensions, what repr can show. -/
namespace PV
open PySem PySem.Spec PyProof.Rows L2

/-! ### loops -/
theorem loop_ok {t : D → DE → Option DE} {g : DE → O} {ds : List D} (I : Nat → DE → Prop)
    (hs : ∀ (k : Nat) (d : D) (δ : DE), ds[k]? = some d → I k δ → ∃ δ1 δ2, t d δ = some δ1 ∧ g δ1 = .nx δ2 ∧ I (k + 1) δ2) :
    ∀ (δ : DE), I 0 δ → ∃ δ', loopF t g ds δ = .nx δ' ∧ I ds.length δ' := by
  have key : ∀ (n k : Nat) (δ : DE), k + n = ds.length → I k δ → ∃ δ', loopF t g (ds.drop k) δ = .nx δ' ∧ I ds.length δ' := by
    intro n
    induction n with
    | zero =>
      intro k δ e i
      rw [List.drop_eq_nil_of_le (by omega)]
      exact ⟨δ, rfl, by rw [← e]; exact i⟩
    | succ n ih =>
      intro k δ e i
      have hk : k < ds.length := by omega
      rw [List.drop_eq_getElem_cons hk]
      obtain ⟨δ1, δ2, e1, e2, e3⟩ := hs k _ δ (List.getElem?_eq_getElem hk) i
      obtain ⟨δ', e4, e5⟩ := ih (k + 1) δ2 (by omega) e3
      refine ⟨δ', ?_, e5⟩
      unfold loopF
      rw [e1]
      show (match g δ1 with | .nx δ => _ | .cnt δ => _ | .brk δ => _ | o => o) = _
      rw [e2]
      exact e4
  intro δ i
  exact key ds.length 0 δ (by omega) i
theorem penLoop_ok {i : Nat} {g : DE → O} {ps : List (Int × Int)} (I : DE → Prop)
    (hs : ∀ (p : Int × Int) (δ : DE), p ∈ ps → I δ → ∃ δ1 δ2, setSl i (.own (.lst (penD p))) δ = some δ1 ∧ g δ1 = .nx δ2 ∧ I δ2) : ∀ (δ : DE), I δ → ∃ δ', penLoop i g ps δ = .nx δ' ∧ I δ' := by
  induction ps with
  | nil => intro δ h; exact ⟨δ, rfl, h⟩
  | cons p ps ih =>
    intro δ h
    obtain ⟨δ1, δ2, e1, e2, e3⟩ := hs p δ List.mem_cons_self h
    obtain ⟨δ', e4, e5⟩ := ih (fun p δ hp => hs p δ (List.mem_cons_of_mem _ hp)) δ2 e3
    refine ⟨δ', ?_, e5⟩
    unfold penLoop
    rw [e1]
    show (match g δ1 with | .nx δ => _ | .cnt δ => _ | .brk δ => _ | o => o) = _
    rw [e2]
    exact e4
theorem pens_are {ns : List Int} {m : Nat} {p : Int × Int} (h : p ∈ pensOf ns m) : IsPen (.lst (penD p)) := by
  unfold pensOf at h
  obtain ⟨k, _, rfl⟩ := List.mem_map.mp h
  refine ⟨_, _, _, rfl, ?_, ?_, ?_⟩
  · unfold penOf; dsimp only; split <;> omega
  · have := Int.emod_nonneg (ns.getD k 0) (show (2147483629 : Int) ≠ 0 by decide)
    unfold penOf; dsimp only; omega
  · have := Int.emod_lt_of_pos (ns.getD k 0) (show (0 : Int) < 2147483629 by decide)
    unfold penOf; dsimp only; omega
/-! ### comprehensions whose parts change nothing -/
theorem lcLoop_map {t : D → DE → Option DE} {elt : DE → R D} {vs : List Nat} {δw : DE} (e : D → D) :
    ∀ (ds : List D) (acc : List D), acc.length + ds.length ≤ LIM → (∀ d ∈ ds, ∃ δ1 δ2, t d δw = some δ1 ∧ elt δ1 = .ok (e d) δ2 ∧ wipeD δ2 vs = some δw) → lcLoop t noCond elt vs ds δw acc = .ok (acc ++ ds.map e) δw
  | [], acc, _, _ => by unfold lcLoop; rw [List.map_nil, List.append_nil]
  | d :: ds, acc, hl, h => by
    obtain ⟨δ1, δ2, e1, e2, e3⟩ := h d List.mem_cons_self
    rw [List.length_cons] at hl
    have ih := lcLoop_map e ds (acc ++ [e d]) (by rw [List.length_append, List.length_singleton]; omega) fun d hd => h d (List.mem_cons_of_mem _ hd)
    unfold lcLoop
    simp [e1, noCond, R.calm, R.bind, e2, show acc.length < LIM by omega, e3, ih]
theorem lc_map {f : DE → R (List D)} {t : D → DE → Option DE} {elt : DE → R D} {vs : List Nat} {δ δ0 δw : DE} {ds : List D} (e : D → D) (hf : f δ = .ok ds δ0) (hw : wipeD δ0 vs = some δw) (hl : ds.length ≤ LIM)
    (h : ∀ d ∈ ds, ∃ δ1 δ2, t d δw = some δ1 ∧ elt δ1 = .ok (e d) δ2 ∧ wipeD δ2 vs = some δw) : lcN f t noCond elt vs δ = .ok (.lst (ds.map e)) (unwipe δ0 δw vs) := by
  unfold lcN
  simp [hf, R.bind, hw, lcLoop_map e ds [] (by simpa using hl) h]
/-! ### what repr can show -/
def ShowOk (n k : Nat) (d : D) : Prop := ∃ p, d.py = some p ∧ p.canLay0 = true ∧ p.intsShort 13 = true ∧ p.showable = true ∧ p.depth ≤ k ∧ p.weight ≤ n
theorem ShowOk.mono {n n' k k' : Nat} {d : D} (h : ShowOk n k d) (a : n ≤ n') (b : k ≤ k') : ShowOk n' k' d := by
  obtain ⟨p, h1, h2, h3, h4, h5, h6⟩ := h
  exact ⟨p, h1, h2, h3, h4, by omega, by omega⟩
theorem ShowOk.int {i : Int} (h : i.natAbs < 10 ^ 12) : ShowOk 41 1 (.int i) := by
  have hl : i.natAbs.log2 < 40 := by
    by_cases h0 : i.natAbs = 0
    · rw [h0]; decide
    · exact (Nat.log2_lt h0).mpr (by have : (10 : Nat) ^ 12 < 2 ^ 40 := by decide
                                     omega)
  refine ⟨.int i, by unfold D.py; rfl, by simp [PyData.canLay0], by simp only [PyData.intsShort, decide_eq_true_eq]; exact PyData.shown_int_le h, by simp only [PyData.showable, decide_eq_true_eq]; omega, by simp [PyData.depth], ?_⟩
  simp only [PyData.weight]
  split <;> omega
theorem ShowOk.str {s : Str} (h : PyData.strOk s = true) : ShowOk s.cps.size 1 (.str s) := ⟨.str s, by unfold D.py; rfl, by simpa [PyData.canLay0] using h, by simp [PyData.intsShort], by simp [PyData.showable], by simp [PyData.depth], by simp [PyData.weight]⟩
theorem ShowOk.non : ShowOk 0 1 .non := ⟨.none, by unfold D.py; rfl, by simp [PyData.canLay0], by simp [PyData.intsShort], by simp [PyData.showable], by simp [PyData.depth], by simp [PyData.weight]⟩
theorem ShowOk.bl {b : Bool} : ShowOk 0 1 (.bl b) := ⟨.bool b, by unfold D.py; rfl, by simp [PyData.canLay0], by simp [PyData.intsShort], by simp [PyData.showable], by simp [PyData.depth], by simp [PyData.weight]⟩
theorem ShowOk.all {n k : Nat} : ∀ {l : List D}, (∀ d ∈ l, ShowOk n k d) → ∃ ps, D.pys l = some ps ∧ PyData.canLayAll0 ps = true ∧ PyData.intsShortAll 13 ps = true ∧ PyData.showableAll ps = true ∧ PyData.depthAll ps ≤ k ∧ PyData.weightAll ps ≤ l.length * (n + 1)
  | [], _ => ⟨[], by unfold D.pys; rfl, by simp [PyData.canLayAll0], by simp [PyData.intsShortAll], by simp [PyData.showableAll], by simp [PyData.depthAll], by simp [PyData.weightAll]⟩
  | d :: l, h => by
    obtain ⟨p, h1, h2, h3, h4, h5, h6⟩ := h d List.mem_cons_self
    obtain ⟨ps, g1, g2, g3, g4, g5, g6⟩ := ShowOk.all (l := l) fun d hd => h d (List.mem_cons_of_mem _ hd)
    refine ⟨p :: ps, by unfold D.pys; rw [h1, g1]; rfl, by simp [PyData.canLayAll0, h2, g2], by simp [PyData.intsShortAll, h3, g3], by simp [PyData.showableAll, h4, g4], by simp only [PyData.depthAll]; omega, ?_⟩
    simp only [PyData.weightAll, List.length_cons, Nat.add_mul]
    omega
theorem ShowOk.lst {n k : Nat} {l : List D} (h : ∀ d ∈ l, ShowOk n k d) : ShowOk (l.length * (n + 1)) (k + 1) (.lst l) := by
  obtain ⟨ps, g1, g2, g3, g4, g5, g6⟩ := ShowOk.all h
  exact ⟨.list ps, by unfold D.py; rw [g1]; rfl, by simpa [PyData.canLay0] using g2, by simpa [PyData.intsShort] using g3, by simpa [PyData.showable] using g4, by simp only [PyData.depth]; omega, by simpa [PyData.weight] using g6⟩
theorem ShowOk.tup {n k : Nat} {l : List D} (h : ∀ d ∈ l, ShowOk n k d) : ShowOk (l.length * (n + 1)) (k + 1) (.tup l) := by
  obtain ⟨ps, g1, g2, g3, g4, g5, g6⟩ := ShowOk.all h
  exact ⟨.tuple ps, by unfold D.py; rw [g1]; rfl, by simpa [PyData.canLay0] using g2, by simpa [PyData.intsShort] using g3, by simpa [PyData.showable] using g4, by simp only [PyData.depth]; omega, by simpa [PyData.weight] using g6⟩
theorem ShowOk.shows {n k : Nat} {d : D} (h : ShowOk n k d) (hn : n ≤ 60000) (hk : k ≤ 60) : ∃ s, shows d = some s := by
  obtain ⟨p, h1, h2, h3, h4, h5, h6⟩ := h
  have z := PyData.shown_le 13 (by decide) p (PyData.leavesShort_of_canLay0 13 p h2 h3)
  refine ⟨p.shown, ?_⟩
  unfold PV.shows
  rw [h1]
  simp only [Option.bind_some]
  rw [if_pos ⟨h4, h2, by omega, by unfold LIM; omega⟩]
noncomputable def F_same : DE → O := (retS (op2 eqD (callB reprD (valA (var 0) noA)) (callB reprD (valA (var 1) noA))))
noncomputable def ph_same : List Sl → FR := fnF 2 2 F_same
theorem same_ok {n k : Nat} {d : D} (h : ShowOk n k d) (hn : n ≤ 60000) (hk : k ≤ 60) : ph_same [.val d, .val d] = .ret (.bl true) [.val d, .val d] := by
  obtain ⟨s, e⟩ := h.shows hn hk
  simp (disch := first | assumption | with_reducible rfl | omega | rfl) [fnF, thenS, skipS, retS, dropS, ifS, setS, ownS, bindS, R.bind, R.of, cst, var, op2, tst, andT, orT, notT, andE, orE, notE, ifE, chn, callB, callN, valA, noA, peeks, peekA, PV.addA_int, PV.mulA_l, PV.mulA_r, PV.isub_int, PV.idiv_int, PV.imod_int, PV.ipow_int, PV.ilt_int, PV.ile_int, PV.igt_int, PV.ige_int, PV.eqD_int, PV.eqD_str, negE, lenD, max2D, min2D, ixSl, putS, mutOf, Sl.mut, Sl.wr, atI, ixN, setSl_z, setSl_v, setSl_o, setSl_x, setSl_s, Option.map_some, ixD, lstN, tupE, valsOf, ofN, MD.d, LIM, back, appS, List.getElem?_cons_zero, List.getElem?_cons_succ, callF, lend, unlend, slots, slotA, nmG, tupG, consG, nilG, listN, tupleD, ph_same, F_same, reprD, e]
end PV

/-! PV15: small steps: what each form gives, from what its parts give. -/
namespace PV
open PySem PySem.Spec PyProof.Rows L2
section
variable {δ δ1 δ2 δ3 : DE} {x y z d : D} {f fa fb fc : DE → R D} {o o' : D → D → Option D} {t t' : DE → R Bool} {g h : DE → O} {r ra : DE → R (List Arg)} {as : List Arg} {i : Nat} {m : MD} {fm : DE → R MD} {b : Bool}
theorem e_op2 (ha : fa δ = .ok x δ1) (hb : fb δ1 = .ok y δ2) (ho : o x y = some z) : op2 o fa fb δ = .ok z δ2 := by unfold op2; rw [ha]; simp only [R.bind]; rw [hb]; simp only [R.bind]; rw [ho]; rfl
theorem e_tst (hf : f δ = .ok (.bl b) δ1) : tst f δ = .ok b δ1 := by unfold tst; rw [hf]; rfl
theorem e_notT (hf : t δ = .ok b δ1) : notT t δ = .ok (!b) δ1 := by unfold notT; rw [hf]; rfl
theorem e_orT_t (hf : t δ = .ok true δ1) : orT t t' δ = .ok true δ1 := by unfold orT; rw [hf]; rfl
theorem e_orT_f (hf : t δ = .ok false δ1) : orT t t' δ = t' δ1 := by unfold orT; rw [hf]; rfl
theorem e_andT_f (hf : t δ = .ok false δ1) : andT t t' δ = .ok false δ1 := by unfold andT; rw [hf]; rfl
theorem e_andT_t (hf : t δ = .ok true δ1) : andT t t' δ = t' δ1 := by unfold andT; rw [hf]; rfl
theorem e_andE_t (hf : fa δ = .ok (.bl true) δ1) : andE fa fb δ = fb δ1 := by unfold andE; rw [hf]; rfl
theorem e_andE_f (hf : fa δ = .ok (.bl false) δ1) : andE fa fb δ = .ok (.bl false) δ1 := by unfold andE; rw [hf]; rfl
theorem e_orE_f (hf : fa δ = .ok (.bl false) δ1) : orE fa fb δ = fb δ1 := by unfold orE; rw [hf]; rfl
theorem e_orE_t (hf : fa δ = .ok (.bl true) δ1) : orE fa fb δ = .ok (.bl true) δ1 := by unfold orE; rw [hf]; rfl
theorem e_notE (hf : f δ = .ok (.bl b) δ1) : notE f δ = .ok (.bl (!b)) δ1 := by unfold notE; rw [hf]; rfl
theorem e_ifE_t (hf : t δ = .ok true δ1) : ifE t fa fb δ = fa δ1 := by unfold ifE; rw [hf]; rfl
theorem e_ifE_f (hf : t δ = .ok false δ1) : ifE t fa fb δ = fb δ1 := by unfold ifE; rw [hf]; rfl
theorem e_chn_t {w : D} (ha : fa δ = .ok x δ1) (hb : fb δ1 = .ok y δ2) (ho : o x y = some (.bl true)) (hc : fc δ2 = .ok w δ3) (ho' : o' y w = some z) : chn o o' fa fb fc δ = .ok z δ3 := by
  unfold chn; rw [ha]; simp only [R.bind]; rw [hb]; simp only [R.bind]; rw [ho]; simp only [R.of]; rw [hc]; simp only; rw [ho']
theorem e_valA (hf : f δ = .ok d δ1) (hr : r δ1 = .ok as δ2) : valA f r δ = .ok (.val d :: as) δ2 := by unfold valA; rw [hf]; simp only [R.bind]; rw [hr]
theorem e_slotA {p : Sl × MD} (hm : mutOf δ i = some p) (hr : r δ = .ok as δ2) : slotA i r δ = .ok (.slot i :: as) δ2 := by unfold slotA; rw [hm]; simp only [R.bind]; rw [hr]
theorem e_callB {ds : List D} {ob : List D → Option D} (ha : ra δ = .ok as δ1) (hp : peeks δ1 as = some ds) (ho : ob ds = some z) : callB ob ra δ = .ok z δ1 := by unfold callB; rw [ha]; simp only [R.bind]; rw [hp]; simp only; rw [ho]; rfl
theorem e_callN {ds : List D} {ob : List D → Option MD} (ha : ra δ = .ok as δ1) (hp : peeks δ1 as = some ds) (ho : ob ds = some m) : callN ob ra δ = .ok m δ1 := by unfold callN; rw [ha]; simp only [R.bind]; rw [hp]; simp only; rw [ho]; rfl
theorem e_callF {φ : List Sl → FR} {ss ss' : List Sl} (ha : ra δ = .ok as δ1) (hn : (slots as).Nodup) (hl : lend δ1 as = some ss) (hφ : φ ss = .ret d ss') (hu : unlend δ1 as ss' = δ2 := by rfl) : callF φ ra δ = .ok d δ2 := by
  subst hu
  unfold callF; rw [ha]; simp only [R.bind]; rw [if_pos hn, hl]; simp only; rw [hφ]
theorem e_tupE {ds : List D} (ha : ra δ = .ok as δ1) (hv : valsOf as = some ds) (hl : ds.length ≤ LIM := by simp [LIM]) : tupE ra δ = .ok (.tup ds) δ1 := by unfold tupE; rw [ha]; simp only [R.bind]; rw [hv]; simp only; rw [if_pos hl]
theorem e_lstN {ds : List D} (ha : ra δ = .ok as δ1) (hv : valsOf as = some ds) (hl : ds.length ≤ LIM := by simp [LIM]) : lstN ra δ = .ok (.lst ds) δ1 := by unfold lstN; rw [ha]; simp only [R.bind]; rw [hv]; simp only; rw [if_pos hl]
theorem e_ofN (hm : fm δ = .ok m δ1) : ofN fm δ = .ok m.d δ1 := by unfold ofN; rw [hm]; rfl
theorem e_then (hg : g δ = .nx δ1) : thenS g h δ = h δ1 := by unfold thenS; rw [hg]
theorem e_ret (hf : f δ = .ok d δ1) : retS f δ = .ret d δ1 := by unfold retS; rw [hf]; rfl
theorem e_drop (hf : f δ = .ok d δ1) : dropS f δ = .nx δ1 := by unfold dropS; rw [hf]; rfl
theorem e_if_t (hf : t δ = .ok true δ1) : ifS t g h δ = g δ1 := by unfold ifS; rw [hf]; rfl
theorem e_if_f (hf : t δ = .ok false δ1) : ifS t g h δ = h δ1 := by unfold ifS; rw [hf]; rfl
theorem e_set (hf : f δ = .ok d δ1) (hs : setSl i (.val d) δ1 = some δ2) : setS i f δ = .nx δ2 := by unfold setS; rw [hf]; simp only [bindS]; rw [hs]
theorem e_own (hf : fm δ = .ok m δ1) (hs : setSl i (.own m) δ1 = some δ2) : ownS i fm δ = .nx δ2 := by unfold ownS; rw [hf]; simp only [bindS]; rw [hs]
theorem e_app {s s' : Sl} {l l' : List D} (h0 : mutOf δ i = some (s', .lst l')) (hf : f δ = .ok d δ1) (h1 : mutOf δ1 i = some (s, .lst l)) (hl : l.length < LIM) : appS i f δ = .nx (δ1.set i (some (s.wr (.lst (l ++ [d]))))) := by
  unfold appS; rw [h0]; simp only; rw [hf]; simp only [bindS]; rw [h1]; simp only; rw [if_pos hl]
theorem e_for {fi : DE → R (List D)} {tg : D → DE → Option DE} {ds : List D} (hf : fi δ = .ok ds δ1) : forS fi tg g δ = loopF tg g ds δ1 := by unfold forS; rw [hf]; rfl
theorem e_seq {l : List D} (hf : f δ = .ok (.lst l) δ1) : seqE f δ = .ok l δ1 := by unfold seqE; rw [hf]; rfl
theorem e_seqT {l : List D} (hf : f δ = .ok (.tup l) δ1) : seqE f δ = .ok l δ1 := by unfold seqE; rw [hf]; rfl
theorem e_rng1 {j : Int} (ha : ra δ = .ok [.val (.int j)] δ1) (h1 : j < 2 ^ 62) (h2 : -(2 ^ 62) ≤ j) : rng1 ra δ = .ok ((List.range j.toNat).map fun i => .int ((0 : Int) + (i : Nat))) δ1 := by
  unfold rng1; rw [ha]; simp only [R.bind]; rw [if_pos ⟨h1, h2⟩]
theorem e_enumT {l : List D} (ha : ra δ = .ok [.val (.tup l)] δ1) : enumE ra δ = .ok (pairsD l) δ1 := by unfold enumE; rw [ha]; rfl
theorem e_enumL {l : List D} (ha : ra δ = .ok [.val (.lst l)] δ1) : enumE ra δ = .ok (pairsD l) δ1 := by unfold enumE; rw [ha]; rfl
theorem e_parVN {j : Nat} (hf : f δ = .ok d δ1) (hm : fm δ1 = .ok m δ2) (h1 : setSl i (.val d) δ2 = some δ3) {δ4 : DE} (h2 : setSl j (.own m) δ3 = some δ4) : parVN i j f fm δ = .nx δ4 := by
  unfold parVN; rw [hf]; simp only [bindS]; rw [hm]; simp only; rw [h1]; simp only; rw [h2]
theorem e_fn {n N : Nat} {as : List Sl} (hl : as.length = n) (hg : g (as.map some ++ List.replicate (N - n) none) = .ret d δ1) : fnF n N g as = .ret d (back as δ1) := by unfold fnF; rw [if_pos hl, hg]
theorem e_fnN {n N : Nat} {as : List Sl} (hl : as.length = n) (hg : g (as.map some ++ List.replicate (N - n) none) = .nx δ1) : fnF n N g as = .ret .non (back as δ1) := by unfold fnF; rw [if_pos hl, hg]
theorem e_put {s : Sl} {l : List D} {k : Int} {j : Nat} {fk : DE → R D} {p : Sl × MD} (hf : f δ = .ok d δ1) (h0 : mutOf δ1 i = some p) (hk : fk δ1 = .ok (.int k) δ2) (h1 : mutOf δ2 i = some (s, .lst l)) (hj : ixN l.length k = some j) : putS i fk f δ = .nx (δ2.set i (some (s.wr (.lst (l.set j d))))) := by
  unfold putS; rw [hf]; simp only [bindS]; rw [h0]; simp only; rw [hk]; simp only; rw [h1]; simp only; rw [hj]
theorem e_ixSl {s : Sl} {l : List D} {k : Int} {p : Sl × MD} (h0 : mutOf δ i = some p) (hk : fb δ = .ok (.int k) δ1) (h1 : mutOf δ1 i = some (s, .lst l)) (ha : L2.atI l k = some d) : ixSl i fb δ = .ok d δ1 := by
  unfold ixSl; rw [h0]; simp only; rw [hk]; simp only [R.bind]; rw [h1]; simp only; rw [ha]; rfl
end
theorem atI_nat {α : Type} {l : List α} {k : Nat} {d : α} (h : l[k]? = some d) : L2.atI l (k : Int) = some d := by
  have hk := (List.getElem?_eq_some_iff.mp h).1
  unfold L2.atI L2.ixN
  rw [if_pos (by omega), if_pos (by omega)]
  exact h
theorem ixN_nat {n k : Nat} (h : k < n) : L2.ixN n (k : Int) = some k := by
  unfold L2.ixN
  rw [if_pos (by omega), if_pos (by omega), Int.toNat_natCast]
end PV

/-! PV16: plain facts on lists of whole numbers, enumerations, comprehensions with a test. -/
namespace PV
open PySem PySem.Spec PyProof.Rows L2
theorem lcLoop_fm {t : D → DE → Option DE} {cond : DE → R Bool} {elt : DE → R D} {vs : List Nat} {δw : DE} (q : D → Option D) :
    ∀ (ds : List D) (acc : List D), acc.length + ds.length ≤ LIM → (∀ d ∈ ds, ∃ δ1, t d δw = some δ1 ∧ ((q d = none ∧ ∃ δ2, cond δ1 = .ok false δ2 ∧ wipeD δ2 vs = some δw) ∨
      ∃ y δ2 δ3, q d = some y ∧ cond δ1 = .ok true δ2 ∧ elt δ2 = .ok y δ3 ∧ wipeD δ3 vs = some δw)) → lcLoop t cond elt vs ds δw acc = .ok (acc ++ ds.filterMap q) δw
  | [], acc, _, _ => by unfold lcLoop; rw [List.filterMap_nil, List.append_nil]
  | d :: ds, acc, hl, h => by
    obtain ⟨δ1, e1, k⟩ := h d List.mem_cons_self
    rw [List.length_cons] at hl
    rcases k with ⟨q1, δ2, e2, e3⟩ | ⟨y, δ2, δ3, q1, e2, e3, e4⟩
    · have ih := lcLoop_fm q ds acc (by omega) fun d hd => h d (List.mem_cons_of_mem _ hd)
      unfold lcLoop
      simp [e1, R.calm, R.bind, e2, e3, ih, q1]
    · have ih := lcLoop_fm q ds (acc ++ [y]) (by rw [List.length_append, List.length_singleton]; omega) fun d hd => h d (List.mem_cons_of_mem _ hd)
      unfold lcLoop
      simp [e1, R.calm, R.bind, e2, e3, show acc.length < LIM by omega, e4, ih, q1]
theorem lc_fm {f : DE → R (List D)} {t : D → DE → Option DE} {cond : DE → R Bool} {elt : DE → R D} {vs : List Nat} {δ δ0 δw : DE} {ds : List D} (q : D → Option D) (hf : f δ = .ok ds δ0) (hw : wipeD δ0 vs = some δw) (hl : ds.length ≤ LIM)
    (h : ∀ d ∈ ds, ∃ δ1, t d δw = some δ1 ∧ ((q d = none ∧ ∃ δ2, cond δ1 = .ok false δ2 ∧ wipeD δ2 vs = some δw) ∨
      ∃ y δ2 δ3, q d = some y ∧ cond δ1 = .ok true δ2 ∧ elt δ2 = .ok y δ3 ∧ wipeD δ3 vs = some δw)) : lcN f t cond elt vs δ = .ok (.lst (ds.filterMap q)) (unwipe δ0 δw vs) := by
  unfold lcN
  simp [hf, R.bind, hw, lcLoop_fm q ds [] (by simpa using hl) h]
theorem pairs_at0 {l : List D} {k : Nat} {d : D} (h : (pairsD l)[k]? = some d) : ∃ x, l[k]? = some x ∧ d = .tup [.int k, x] := by
  unfold pairsD at h
  rw [List.getElem?_zipWith] at h
  have hk : k < l.length := by
    by_cases hk : k < l.length
    · exact hk
    · rw [List.getElem?_eq_none (l := l) (by omega)] at h
      split at h <;> simp_all
  rw [List.getElem?_range hk, List.getElem?_eq_getElem hk] at h
  exact ⟨_, List.getElem?_eq_getElem hk, (Option.some.inj h).symm⟩
theorem pairs_at {l : List D} {k : Nat} {x : D} (h : l[k]? = some x) : (pairsD l)[k]? = some (.tup [.int k, x]) := by
  have hk := (List.getElem?_eq_some_iff.mp h).1
  unfold pairsD
  rw [List.getElem?_zipWith, List.getElem?_range hk, h]
theorem ints_of : ∀ (l : List Int), intsOf (l.map D.int) = some l
  | [] => rfl
  | x :: l => by show (intsOf (l.map D.int)).map _ = _; rw [ints_of l]; rfl
theorem maxLD_ints {l : List Int} (h : l ≠ []) : maxLD [.lst (l.map D.int)] = some (.int (maxI l)) := by
  show (intsOf (l.map D.int)).bind _ = _
  rw [ints_of]
  show (if l = [] then none else some (D.int (maxI l))) = _
  rw [if_neg h]
theorem minLD_ints {l : List Int} (h : l ≠ []) : minLD [.lst (l.map D.int)] = some (.int (minI l)) := by
  show (intsOf (l.map D.int)).bind _ = _
  rw [ints_of]
  show (if l = [] then none else some (D.int (minI l))) = _
  rw [if_neg h]
theorem sumLD_ints {l : List Int} : sumLD [.lst (l.map D.int)] = some (.int l.sum) := by
  show (intsOf (l.map D.int)).map _ = _
  rw [ints_of]; rfl
theorem bls_of : ∀ (l : List Bool), blsOf (l.map D.bl) = some l
  | [] => rfl
  | x :: l => by show (blsOf (l.map D.bl)).map _ = _; rw [bls_of l]; rfl
theorem allD_bls {l : List Bool} : allD [.lst (l.map D.bl)] = some (.bl (l.all id)) := by
  show (blsOf (l.map D.bl)).map _ = _
  rw [bls_of]; rfl
theorem anyD_bls {l : List Bool} : anyD [.lst (l.map D.bl)] = some (.bl (l.any id)) := by
  show (blsOf (l.map D.bl)).map _ = _
  rw [bls_of]; rfl
theorem flats_ints : ∀ (l : List Int), flats (l.map D.int) = some (l.map V.int)
  | [] => rfl
  | x :: l => by show (some (V.int x)).bind _ = _; rw [flats_ints l]; rfl
theorem inV_int {k : Int} : ∀ {l : List Int}, inV (.int k) (l.map V.int) = decide (k ∈ l) := by
  intro l
  unfold inV
  induction l with
  | nil => simp
  | cons x l ih =>
    rw [List.map_cons, List.any_cons, ih]
    show (eqV (V.int x) (V.int k) || _) = _
    unfold eqV
    by_cases h : x = k
    · subst h; simp
    · have h' : ¬ k = x := fun e => h e.symm
      simp [h, h']
theorem inF_int {k : Int} {l : List Int} : inF false (.int k) (.lst (l.map D.int)) = some (.bl (decide (k ∈ l))) := by
  unfold inF
  show (match some (V.int k), flats (l.map D.int) with | some u, some us => _ | _, _ => none) = _
  rw [flats_ints]
  show some (D.bl (if false = true then !inV (V.int k) (l.map V.int) else inV (V.int k) (l.map V.int))) = _
  rw [if_neg Bool.false_ne_true, inV_int]
theorem maxI_le {l : List Int} {b : Int} (hn : l ≠ []) (h : ∀ x ∈ l, x ≤ b) : maxI l ≤ b := h _ (by
  induction l with
  | nil => exact absurd rfl hn
  | cons x l ih => cases l with
    | nil => exact List.mem_cons_self
    | cons y r =>
      show max x (maxI (y :: r)) ∈ _
      rcases Int.le_total x (maxI (y :: r)) with q | q
      · rw [Int.max_eq_right q]; exact List.mem_cons_of_mem _ (ih (by simp) fun z hz => h z (List.mem_cons_of_mem _ hz))
      · rw [Int.max_eq_left q]; exact List.mem_cons_self)
theorem le_maxI {l : List Int} {x : Int} (h : x ∈ l) : x ≤ maxI l := by
  induction l with
  | nil => cases h
  | cons y l ih => cases l with
    | nil => rw [List.mem_singleton.mp h]; exact Int.le_refl _
    | cons z r =>
      show x ≤ max y (maxI (z :: r))
      rcases List.mem_cons.mp h with q | q
      · omega
      · have := ih q; omega
theorem maxI_snoc {l : List Int} {x : Int} (h : l ≠ []) : maxI (l ++ [x]) = max (maxI l) x := by
  induction l with
  | nil => exact absurd rfl h
  | cons y l ih => cases l with
    | nil => rfl
    | cons z r =>
      show max y (maxI (z :: (r ++ [x]))) = max (max y (maxI (z :: r))) x
      have e : maxI (z :: (r ++ [x])) = max (maxI (z :: r)) x := ih (by simp)
      rw [e]; omega
theorem ne_nil_ints (l : List Int) : neD (.lst (l.map D.int)) (.lst []) = some (.bl (decide (l ≠ []))) := by
  have hp : ∀ l : List Int, ∃ ps, D.pys (l.map D.int) = some ps ∧ PyData.canLayAll0 ps = true ∧ PyData.depthAll ps = 0 ∧ ps.length = l.length := by
    intro l
    induction l with
    | nil => exact ⟨[], by unfold D.pys; rfl, by simp [PyData.canLayAll0], by simp [PyData.depthAll], rfl⟩
    | cons x l ih =>
      obtain ⟨ps, h1, h2, h3, h4⟩ := ih
      exact ⟨.int x :: ps, by rw [List.map_cons]; unfold D.pys; rw [h1]; unfold D.py; rfl, by simp [PyData.canLayAll0, PyData.canLay0, h2], by simp [PyData.depthAll, PyData.depth, h3], by simp [h4]⟩
  obtain ⟨ps, h1, h2, h3, h4⟩ := hp l
  have e1 : D.py (.lst (l.map D.int)) = some (.list ps) := by unfold D.py; rw [h1]; rfl
  have e2 : D.py (.lst []) = some (.list []) := by unfold D.py D.pys; rfl
  have s1 : SeqAt.shaped (.list ps) = true := by unfold SeqAt.shaped; simp [PyData.canLay0, h2, PyData.depth, h3]
  have s2 : SeqAt.shaped (.list []) = true := by decide +kernel
  have q : eqP (.lst (l.map D.int)) (.lst []) = some (PyData.eqv (.list ps) (.list [])) := by
    unfold eqP; rw [e1, e2]; simp only; rw [if_pos ⟨s1, s2⟩]
  show ((none : Option Bool).or (eqP (.lst (l.map D.int)) (.lst []))).map _ = _
  rw [q]
  cases l with
  | nil =>
    cases ps with
    | nil => simp [PyData.eqv, PyData.eqvAll]
    | cons p ps => simp at h4
  | cons x l =>
    cases ps with
    | nil => simp at h4
    | cons p ps => simp [PyData.eqv, PyData.eqvAll]
theorem lmul_one {d : D} {c : Nat} (h : c ≤ 1000) : lmul (.lst [d]) (.int c) = some (.lst (List.replicate c d)) := by
  show (if 0 ≤ (c : Int) ∧ (c : Int) ≤ 1000 ∧ [d].length ≤ 1000 then some (D.lst (List.replicate (c : Int).toNat [d]).flatten) else none) = _
  rw [if_pos ⟨by omega, by omega, by simp⟩, Int.toNat_natCast]
  congr 2
  induction c with
  | zero => rfl
  | succ c ih => rw [List.replicate_succ, List.flatten_cons, ih (by omega), List.replicate_succ]; rfl
end PV
namespace PV
open PySem PySem.Spec PyProof.Rows L2
/-- a slot without an object -/
def nv : Option Sl → Bool
  | none => true
  | some (.val _) => true
  | _ => false
theorem nv_nb {x : Option Sl} (h : nv x = true) : nb x = true := by
  cases x with
  | none => rfl
  | some s => cases s <;> first | rfl | cases h
theorem nv_mut {s : Sl} {m : MD} (h : nv (some s) = true) (g : s.mut = some m) : False := by
  cases s <;> first | cases h; done | cases g
theorem flat_ints (l : List Int) : MD.flat (.lst (l.map D.int)) = true := by
  show (flats (l.map D.int)).isSome = true
  rw [flats_ints]; rfl
theorem e_thaw {j : Nat} {f : DE → R MD} {δ : DE} {m m' : MD} (hj : δ[j]? = some (some (.own m))) (hf : f (δ.set j (some (.val m.d))) = .ok m' (δ.set j (some (.val m.d)))) (h1 : m'.flat = true) (h2 : flatEnv δ) : thawN j f δ = .ok m' δ := by
  unfold thawN
  rw [hj]
  simp only
  rw [hf]
  simp only
  rw [if_pos ⟨rfl, h1, h2⟩]
theorem pairs_ints (l : List Int) : pairsD (l.map D.int) = (List.range l.length).map fun k => .tup [.int (k : Nat), .int (l.getD k 0)] := by
  apply List.ext_getElem?
  intro k
  by_cases hk : k < l.length
  · rw [pairs_at (x := .int (l.getD k 0)), List.getElem?_map, List.getElem?_range hk]
    · rfl
    · rw [List.getElem?_map, List.getElem?_eq_getElem hk]; simp [hk]
  · rw [List.getElem?_eq_none (by rw [pairs_len, List.length_map]; omega), List.getElem?_eq_none (by rw [List.length_map, List.length_range]; omega)]
/-- every slot of a list is without an object, or its object is flat -/
theorem flatEnv_of {δ : DE} (h : ∀ x ∈ δ, nv x = true ∨ ∃ (s : Sl) (l : List Int), x = some s ∧ s.mut = some (.lst (l.map D.int))) : flatEnv δ := fun i s m e g => by
  rcases h _ (List.mem_of_getElem? e) with q | ⟨s', l, q, q2⟩
  · exact (nv_mut q g).elim
  · cases q
    rw [q2] at g; cases g
    exact flat_ints l
end PV
theorem PV.ixD_head {x : PV.D} {l : List PV.D} : PV.ixD (.lst (x :: l)) (.int 0) = some x := PV.atI_nat (k := 0) rfl
theorem PV.e_lrg1 {f : PV.DE → PV.R PV.D} {δ δ1 : PV.DE} {n : Nat} (h : f δ = .ok (.int n) δ1) (hn : n ≤ 10000) : PV.lrg1 f δ = .ok (.lst (((List.range n).map fun i => ((i : Nat) : Int)).map PV.D.int)) δ1 := by
  unfold PV.lrg1
  rw [h]
  simp only [PV.R.bind]
  rw [if_pos (by omega), Int.toNat_natCast, List.map_map]
  rfl

/-! Rm: the rooms' defs, plainly. -/
namespace PV
open PySem PySem.Spec PyProof.Rows L2
noncomputable def F_p_is_between : DE → O := (retS (andE (callB isiD (valA (var 0) (valA (cst (.ty "int")) noA))) (andE (notE (callB isiD (valA (var 0) (valA (cst (.ty "bool")) noA)))) (chn ile ile (var 1) (var 0) (var 2)))))
noncomputable def ph_p_is_between : List Sl → FR := fnF 3 3 F_p_is_between
noncomputable def F_p_is_moment : DE → O := (thenS (ifS (orT (notT (tst (callB isiD (valA (var 0) (valA (cst (.ty "tuple")) noA))))) (orT (tst (op2 (inF true) (callB lenD (valA (var 0) noA)) (tupE (valA (cst (.int 2)) (valA (cst (.int 3)) noA))))) (notT (tst (callB isiD (valA (op2 ixD (var 0) (cst (.int 0))) (valA (cst (.ty "str")) noA))))))) (retS (cst (.bl false))) skipS) (thenS (ifS (tst (op2 eqD (callB lenD (valA (var 0) noA)) (cst (.int 2)))) (retS (andE (op2 eqD (op2 ixD (var 0) (cst (.int 0))) (cst (.str "sent"))) (callF ph_p_is_between (valA (op2 ixD (var 0) (cst (.int 1))) (valA (cst (.int 0)) (valA (cst (.int 20)) noA)))))) skipS) (retS (andE (op2 eqD (op2 ixD (var 0) (cst (.int 0))) (cst (.str "may"))) (andE (callF ph_p_is_between (valA (op2 ixD (var 0) (cst (.int 1))) (valA (cst (.int 0)) (valA (op2 isub (var 1) (cst (.int 1))) noA)))) (callF ph_p_is_between (valA (op2 ixD (var 0) (cst (.int 2))) (valA (cst (.int 0)) (valA (cst (.int 99)) noA)))))))))
noncomputable def ph_p_is_moment : List Sl → FR := fnF 2 2 F_p_is_moment
noncomputable def F_p_need_day : DE → O := (thenS (ifS (notT (tst (callF ph_p_is_between (valA (var 0) (valA (cst (.int 1)) (valA (cst (.int 4)) noA)))))) neverS skipS) (ifS (orT (notT (tst (callB isiD (valA (var 1) (valA (cst (.ty "tuple")) noA))))) (orT (tst (op2 igt (callB lenD (valA (var 1) noA)) (cst (.int 30)))) (notT (tst (callB allD (valA (ofN (lcN (seqE (var 1)) (nmG 2) noCond (callF ph_p_is_moment (valA (var 2) (valA (var 0) noA))) [2])) noA)))))) neverS skipS))
noncomputable def ph_p_need_day : List Sl → FR := fnF 2 3 F_p_need_day
noncomputable def F_p_longest : DE → O := (thenS (ownS 3 (mulN (ofN (lstN (valA (cst (.int 0)) noA))) (var 0))) (thenS (ownS 4 (mulN (ofN (lstN (valA (negE (cst (.int 1))) noA))) (var 0))) (thenS (setS 5 (cst (.int 0))) (thenS (setS 6 (cst .non)) (thenS (forS (enumE (valA (var 1) noA)) (tupG 2 (consG (nmG 7) (consG (nmG 8) nilG))) (thenS (ifS (tst (op2 eqD (op2 ixD (var 8) (cst (.int 0))) (cst (.str "may")))) (thenS (putS 3 (op2 ixD (var 8) (cst (.int 1))) (cst (.int 0))) (putS 4 (op2 ixD (var 8) (cst (.int 1))) (var 7))) (ownS 3 (lcN (seqE (var 3)) (nmG 10) noCond (op2 addA (var 10) (op2 ixD (var 8) (cst (.int 1)))) [10]))) (thenS (setS 5 (callB max2D (valA (var 5) (valA (callB maxLD (slotA 3 noA)) noA)))) (thenS (setS 9 (ofN (thawN 3 (lcN (enumE (valA (var 3) noA)) (tupG 2 (consG (nmG 11) (consG (nmG 10) nilG))) (tst (op2 igt (var 10) (var 2))) (var 11) [11, 10])))) (ifS (andT (tst (op2 isNo (var 6) (cst .non))) (tst (op2 neD (var 9) (ofN (lstN noA))))) (setS 6 (tupE (valA (op2 ixD (var 9) (cst (.int 0))) (valA (ixSl 4 (op2 ixD (var 9) (cst (.int 0)))) (valA (var 7) noA))))) skipS))))) (retS (tupE (valA (var 5) (valA (var 6) noA)))))))))
noncomputable def ph_p_longest : List Sl → FR := fnF 3 12 F_p_longest
noncomputable def F_day : DE → O := (thenS (ownS 3 (lstN noA)) (thenS (forS (rng1 (valA (callF ph_draw (slotA 0 (valA (op2 addA (var 2) (cst (.int 1))) noA))) noA)) (nmG 4) (ifS (tst (op2 eqD (callF ph_draw (slotA 0 (valA (cst (.int 2)) noA))) (cst (.int 0)))) (appS 3 (tupE (valA (cst (.str "sent")) (valA (callF ph_pick (slotA 0 (valA (ofN (lstN (valA (cst (.int 0)) (valA (cst (.int 1)) (valA (cst (.int 2)) (valA (cst (.int 3)) (valA (cst (.int 5)) (valA (cst (.int 20)) noA)))))))) noA))) noA)))) (appS 3 (tupE (valA (cst (.str "may")) (valA (callF ph_draw (slotA 0 (valA (var 1) noA))) (valA (callF ph_pick (slotA 0 (valA (ofN (lstN (valA (cst (.int 0)) (valA (cst (.int 1)) (valA (cst (.int 1)) (valA (cst (.int 2)) (valA (cst (.int 7)) (valA (cst (.int 99)) noA)))))))) noA))) noA))))))) (retS (callB tupleD (slotA 3 noA)))))
noncomputable def ph_day : List Sl → FR := fnF 3 5 F_day
noncomputable def F_worst : DE → O := (thenS (parVN 3 4 (op2 mulA (ofN (lstN (valA (cst (.int 0)) noA))) (var 0)) (lstN noA)) (thenS (forS (enumE (valA (var 1) noA)) (tupG 2 (consG (nmG 5) (consG (nmG 6) nilG))) (thenS (ifS (tst (op2 eqD (op2 ixD (var 6) (cst (.int 0))) (cst (.str "sent")))) (setS 3 (ofN (lcN (seqE (var 3)) (nmG 7) noCond (op2 addA (var 7) (op2 ixD (var 6) (cst (.int 1)))) [7]))) (ifS (tst (op2 (inF false) (var 5) (var 2))) (setS 3 (ofN (lcN (enumE (valA (var 3) noA)) (tupG 2 (consG (nmG 8) (consG (nmG 7) nilG))) noCond (ifE (tst (op2 eqD (var 8) (op2 ixD (var 6) (cst (.int 1))))) (cst (.int 0)) (var 7)) [8, 7]))) skipS)) (appS 4 (var 3)))) (retS (var 4))))
noncomputable def ph_worst : List Sl → FR := fnF 3 9 F_worst
inductive Mo where
  | sent (n : Int)
  | may (i : Nat) (x : Int)
def Mo.d : Mo → D
  | .sent n => .tup [.str "sent", .int n]
  | .may i x => .tup [.str "may", .int i, .int x]
def Mo.ok (c : Nat) : Mo → Prop
  | .sent n => 0 ≤ n ∧ n ≤ 20
  | .may i x => i < c ∧ 0 ≤ x ∧ x ≤ 99
structure Day (c : Nat) (ms : List Mo) : Prop where
  len : ms.length ≤ 30
  ok : ∀ o ∈ ms, o.ok c

theorem isi_int {a : Int} : isiD [.int a, .ty "int"] = some (.bl true) := rfl
theorem isi_bool {a : Int} : isiD [.int a, .ty "bool"] = some (.bl false) := rfl
theorem isi_tup {l : List D} : isiD [.tup l, .ty "tuple"] = some (.bl true) := rfl
theorem isi_str {l : Str} : isiD [.str l, .ty "str"] = some (.bl true) := rfl
theorem between_ok {a lo hi : Int} (h1 : lo ≤ a) (h2 : a ≤ hi) : ph_p_is_between [.val (.int a), .val (.int lo), .val (.int hi)] = .ret (.bl true) [.val (.int a), .val (.int lo), .val (.int hi)] := by
  simp (disch := first | assumption | with_reducible rfl | omega | rfl) [fnF, thenS, skipS, retS, dropS, ifS, setS, ownS, bindS, R.bind, R.of, cst, var, op2, tst, andT, orT, notT, andE, orE, notE, ifE, chn, callB, callN, valA, noA, peeks, peekA, PV.addA_int, PV.mulA_l, PV.mulA_r, PV.isub_int, PV.idiv_int, PV.imod_int, PV.ipow_int, PV.ilt_int, PV.ile_int, PV.igt_int, PV.ige_int, PV.eqD_int, PV.eqD_str, negE, lenD, max2D, min2D, ixSl, putS, mutOf, Sl.mut, Sl.wr, atI, ixN, setSl_z, setSl_v, setSl_o, setSl_x, setSl_s, Option.map_some, ixD, lstN, tupE, valsOf, ofN, MD.d, LIM, back, appS, List.getElem?_cons_zero, List.getElem?_cons_succ, callF, lend, unlend, slots, slotA, nmG, tupG, consG, nilG, listN, tupleD, ph_p_is_between, F_p_is_between, isi_int, isi_bool, h1, h2]
theorem moment_ok {c : Nat} {o : Mo} (h : o.ok c) : ph_p_is_moment [.val o.d, .val (.int c)] = .ret (.bl true) [.val o.d, .val (.int c)] := by
  cases o with
  | sent n =>
    have hb := between_ok h.1 h.2
    simp (disch := first | assumption | with_reducible rfl | omega | rfl) [fnF, thenS, skipS, retS, dropS, ifS, setS, ownS, bindS, R.bind, R.of, cst, var, op2, tst, andT, orT, notT, andE, orE, notE, ifE, chn, callB, callN, valA, noA, peeks, peekA, PV.addA_int, PV.mulA_l, PV.mulA_r, PV.isub_int, PV.idiv_int, PV.imod_int, PV.ipow_int, PV.ilt_int, PV.ile_int, PV.igt_int, PV.ige_int, PV.eqD_int, PV.eqD_str, negE, lenD, max2D, min2D, ixSl, putS, mutOf, Sl.mut, Sl.wr, atI, ixN, setSl_z, setSl_v, setSl_o, setSl_x, setSl_s, Option.map_some, ixD, lstN, tupE, valsOf, ofN, MD.d, LIM, back, appS, List.getElem?_cons_zero, List.getElem?_cons_succ, callF, lend, unlend, slots, slotA, nmG, tupG, consG, nilG, listN, tupleD, ph_p_is_moment, F_p_is_moment, Mo.d, isi_tup, isi_str, inF, D.flat, flats, itemsOf, inV, eqV, hb]
  | may i x =>
    have hb1 := between_ok (a := (i : Int)) (lo := 0) (hi := (c : Int) - 1) (by omega) (by have := h.1; omega)
    have hb2 := between_ok h.2.1 h.2.2
    simp (disch := first | assumption | with_reducible rfl | omega | rfl) [fnF, thenS, skipS, retS, dropS, ifS, setS, ownS, bindS, R.bind, R.of, cst, var, op2, tst, andT, orT, notT, andE, orE, notE, ifE, chn, callB, callN, valA, noA, peeks, peekA, PV.addA_int, PV.mulA_l, PV.mulA_r, PV.isub_int, PV.idiv_int, PV.imod_int, PV.ipow_int, PV.ilt_int, PV.ile_int, PV.igt_int, PV.ige_int, PV.eqD_int, PV.eqD_str, negE, lenD, max2D, min2D, ixSl, putS, mutOf, Sl.mut, Sl.wr, atI, ixN, setSl_z, setSl_v, setSl_o, setSl_x, setSl_s, Option.map_some, ixD, lstN, tupE, valsOf, ofN, MD.d, LIM, back, appS, List.getElem?_cons_zero, List.getElem?_cons_succ, callF, lend, unlend, slots, slotA, nmG, tupG, consG, nilG, listN, tupleD, ph_p_is_moment, F_p_is_moment, Mo.d, isi_tup, isi_str, inF, D.flat, flats, itemsOf, inV, eqV, hb1, hb2]

abbrev dayD (ms : List Mo) : D := .tup (ms.map Mo.d)
theorem need_ok {c : Nat} {ms : List Mo} (h1 : 1 ≤ c) (h4 : c ≤ 4) (h : Day c ms) : ph_p_need_day [.val (.int c), .val (dayD ms)] = .ret .non [.val (.int c), .val (dayD ms)] := by
  have hb := between_ok (a := (c : Int)) (lo := 1) (hi := 4) (by omega) (by omega)
  have hlc : lcN (seqE (var 1)) (nmG 2) noCond (callF ph_p_is_moment (valA (var 2) (valA (var 0) noA))) [2] [some (.val (.int c)), some (.val (dayD ms)), none] = .ok (.lst ((ms.map Mo.d).map fun _ => .bl true)) [some (.val (.int c)), some (.val (dayD ms)), none] :=
    lc_map (δw := [some (.val (.int c)), some (.val (dayD ms)), none]) (fun _ => .bl true) rfl rfl (by have := h.len; rw [List.length_map]; unfold LIM; omega) fun d hd => by
      obtain ⟨o, ho, rfl⟩ := List.mem_map.mp hd
      exact ⟨[some (.val (.int c)), some (.val (dayD ms)), some (.val o.d)], _, rfl, e_callF rfl .nil rfl (moment_ok (h.ok o ho)), rfl⟩
  have hall : allD [.lst ((ms.map Mo.d).map fun _ => .bl true)] = some (.bl true) := by
    have e : ((ms.map Mo.d).map fun _ => D.bl true) = (ms.map fun _ => true).map D.bl := by rw [List.map_map, List.map_map]; rfl
    rw [e, allD_bls]
    simp
  have hlen := h.len
  refine e_fnN (δ1 := [some (.val (.int c)), some (.val (dayD ms)), none]) rfl ?_
  refine Eq.trans (e_then (δ1 := [some (.val (.int c)), some (.val (dayD ms)), none]) (e_if_f (e_notT (e_tst (e_callF (as := [.val (.int c), .val (.int 1), .val (.int 4)]) rfl .nil rfl hb))))) ?_
  refine e_if_f ((e_orT_f (e_notT (e_tst (e_callB rfl rfl isi_tup)))).trans ((e_orT_f (e_tst (e_op2 (x := .int ms.length) (e_callB rfl rfl ?_) rfl ?_))).trans (e_notT (e_tst (e_callB (e_valA (e_ofN hlc) rfl) rfl hall)))))
  · show some (D.int ((ms.map Mo.d).length : Nat)) = _
    rw [List.length_map]
  · show some (D.bl (decide ((30 : Int) < ms.length))) = _
    rw [decide_eq_false (by omega)]

theorem day_ok {c : Nat} {m : MD} (h1 : 1 ≤ c) (h4 : c ≤ 4) (hp : IsPen m) : ∃ ms m', IsPen m' ∧ Day c ms ∧ ph_day [.bor m, .val (.int c), .val (.int 30)] = .ret (dayD ms) [.bor m', .val (.int c), .val (.int 30)] := by
  obtain ⟨r, m1, p1, r0, r1, e1⟩ := draw_at (δ := [some (.bor m), some (.val (.int c)), some (.val (.int 30)), some (.own (.lst [])), none]) (i := 0) (s := .bor m) (m := m) (fk := op2 addA (var 2) (cst (.int 1))) (k := 31) rfl rfl rfl hp (by omega) (by omega)
  have hloop := loop_ok (t := nmG 4) (ds := (List.range r.toNat).map fun i => D.int ((0 : Int) + (i : Nat)))
    (g := (ifS (tst (op2 eqD (callF ph_draw (slotA 0 (valA (cst (.int 2)) noA))) (cst (.int 0)))) (appS 3 (tupE (valA (cst (.str "sent")) (valA (callF ph_pick (slotA 0 (valA (ofN (lstN (valA (cst (.int 0)) (valA (cst (.int 1)) (valA (cst (.int 2)) (valA (cst (.int 3)) (valA (cst (.int 5)) (valA (cst (.int 20)) noA)))))))) noA))) noA)))) (appS 3 (tupE (valA (cst (.str "may")) (valA (callF ph_draw (slotA 0 (valA (var 1) noA))) (valA (callF ph_pick (slotA 0 (valA (ofN (lstN (valA (cst (.int 0)) (valA (cst (.int 1)) (valA (cst (.int 1)) (valA (cst (.int 2)) (valA (cst (.int 7)) (valA (cst (.int 99)) noA)))))))) noA))) noA)))))))
    (fun k δ => ∃ m ms x, IsPen m ∧ ms.length = k ∧ (∀ o ∈ ms, Mo.ok c o) ∧ nb x = true ∧ δ = [some (.bor m), some (.val (.int c)), some (.val (.int 30)), some (.own (.lst (ms.map Mo.d))), x])
    (fun k d δ hd hI => by
      obtain ⟨m, ms, x, hp, hl, hok, hx, rfl⟩ := hI
      have hk : k < r.toNat := by
        have := (List.getElem?_eq_some_iff.mp hd).1
        simpa using this
      have hlim : (ms.map Mo.d).length < LIM := by rw [List.length_map, hl]; unfold LIM; omega
      refine ⟨[some (.bor m), some (.val (.int c)), some (.val (.int 30)), some (.own (.lst (ms.map Mo.d))), some (.val d)], ?_⟩
      obtain ⟨r2, m2, p2, a0, a1, e2⟩ := draw_at (δ := [some (.bor m), some (.val (.int c)), some (.val (.int 30)), some (.own (.lst (ms.map Mo.d))), some (.val d)]) (i := 0) (s := .bor m) (m := m) (fk := cst (.int 2)) (k := 2) rfl rfl rfl hp (by omega) (by omega)
      have ht : nmG 4 d [some (.bor m), some (.val (.int c)), some (.val (.int 30)), some (.own (.lst (ms.map Mo.d))), x] = some [some (.bor m), some (.val (.int c)), some (.val (.int 30)), some (.own (.lst (ms.map Mo.d))), some (.val d)] := by
        simp [nmG, setSl_s, setSl_x hx]
      by_cases hr2 : r2 = 0
      · subst hr2
        obtain ⟨d3, m3, p3, hd3, e3⟩ := pick_at (δ := [some (.bor m2), some (.val (.int c)), some (.val (.int 30)), some (.own (.lst (ms.map Mo.d))), some (.val d)]) (i := 0) (s := .bor m2) (m := m2)
          (fl := (ofN (lstN (valA (cst (.int 0)) (valA (cst (.int 1)) (valA (cst (.int 2)) (valA (cst (.int 3)) (valA (cst (.int 5)) (valA (cst (.int 20)) noA)))))))))
          (l := [.int 0, .int 1, .int 2, .int 3, .int 5, .int 20]) rfl rfl rfl p2 (by decide) (by decide)
        obtain ⟨n, hn0, hn1, rfl⟩ : ∃ n : Int, 0 ≤ n ∧ n ≤ 20 ∧ d3 = .int n := by
          simp only [List.mem_cons, List.not_mem_nil, or_false] at hd3
          rcases hd3 with rfl | rfl | rfl | rfl | rfl | rfl <;> exact ⟨_, by decide, by decide, rfl⟩
        refine ⟨_, ht, (e_if_t (e_tst (e_op2 e2 rfl rfl))).trans (e_app rfl (e_tupE (e_valA rfl (e_valA e3 rfl)) rfl) rfl hlim), m3, ms ++ [.sent n], some (.val d), p3, by simp [hl], ?_, rfl, ?_⟩
        · intro o ho
          rcases List.mem_append.mp ho with y | y
          · exact hok o y
          · rw [List.mem_singleton.mp y]; exact ⟨hn0, hn1⟩
        · rw [List.map_append]; rfl
      · obtain ⟨r4, m4, p4, b0, b1, e4⟩ := draw_at (δ := [some (.bor m2), some (.val (.int c)), some (.val (.int 30)), some (.own (.lst (ms.map Mo.d))), some (.val d)]) (i := 0) (s := .bor m2) (m := m2) (fk := var 1) (k := c) rfl rfl rfl p2 (by omega) (by omega)
        obtain ⟨d3, m3, p3, hd3, e3⟩ := pick_at (δ := [some (.bor m4), some (.val (.int c)), some (.val (.int 30)), some (.own (.lst (ms.map Mo.d))), some (.val d)]) (i := 0) (s := .bor m4) (m := m4)
          (fl := (ofN (lstN (valA (cst (.int 0)) (valA (cst (.int 1)) (valA (cst (.int 1)) (valA (cst (.int 2)) (valA (cst (.int 7)) (valA (cst (.int 99)) noA)))))))))
          (l := [.int 0, .int 1, .int 1, .int 2, .int 7, .int 99]) rfl rfl rfl p4 (by decide) (by decide)
        obtain ⟨n, hn0, hn1, rfl⟩ : ∃ n : Int, 0 ≤ n ∧ n ≤ 99 ∧ d3 = .int n := by
          simp only [List.mem_cons, List.not_mem_nil, or_false] at hd3
          rcases hd3 with rfl | rfl | rfl | rfl | rfl | rfl <;> exact ⟨_, by decide, by decide, rfl⟩
        have ef : eqD (.int r2) (.int 0) = some (.bl false) := by rw [eqD_int, decide_eq_false hr2]
        obtain ⟨j, rfl⟩ := Int.eq_ofNat_of_zero_le b0
        refine ⟨_, ht, (e_if_f (e_tst (e_op2 e2 rfl ef))).trans (e_app rfl (e_tupE (e_valA rfl (e_valA e4 (e_valA e3 rfl))) rfl) rfl hlim), m3, ms ++ [.may j n], some (.val d), p3, by simp [hl], ?_, rfl, ?_⟩
        · intro o ho
          rcases List.mem_append.mp ho with y | y
          · exact hok o y
          · rw [List.mem_singleton.mp y]; exact ⟨by omega, hn0, hn1⟩
        · rw [List.map_append]; rfl)
    [some (.bor m1), some (.val (.int c)), some (.val (.int 30)), some (.own (.lst [])), none] ⟨m1, [], none, p1, rfl, (fun _ h => nomatch h), rfl, rfl⟩
  obtain ⟨δ', e5, m', ms, x, p', hl, hok, hx, rfl⟩ := hloop
  refine ⟨ms, m', p', ⟨by rw [hl, List.length_map, List.length_range]; omega, hok⟩, ?_⟩
  refine e_fn (δ1 := [some (.bor m'), some (.val (.int c)), some (.val (.int 30)), some (.own (.lst (ms.map Mo.d))), x]) rfl ?_
  refine (e_then (δ1 := [some (.bor m), some (.val (.int c)), some (.val (.int 30)), some (.own (.lst [])), none]) rfl).trans ?_
  refine (e_then ((e_for (e_rng1 (e_valA e1 rfl) (by omega) (by omega))).trans e5)).trans ?_
  exact e_ret (e_callB rfl rfl rfl)

theorem eq_may : eqD (.str "may") (.str "may") = some (.bl true) := by rw [eqD_str]; simp
theorem eq_sent_may : eqD (.str "sent") (.str "may") = some (.bl false) := by rw [eqD_str, decide_eq_false (by decide)]
theorem eq_sent : eqD (.str "sent") (.str "sent") = some (.bl true) := by rw [eqD_str]; simp
theorem eq_may_sent : eqD (.str "may") (.str "sent") = some (.bl false) := by rw [eqD_str, decide_eq_false (by decide)]
def stepL (l : List Int) : Mo → List Int
  | .sent n => l.map (· + n)
  | .may i _ => l.set i 0
def lagsAt (c : Nat) (ms : List Mo) (k : Nat) : List Int := (ms.take k).foldl stepL (List.replicate c 0)
theorem lagsAt_succ {c : Nat} {ms : List Mo} {k : Nat} {o : Mo} (h : ms[k]? = some o) : lagsAt c ms (k + 1) = stepL (lagsAt c ms k) o := by
  unfold lagsAt
  rw [List.take_succ, h, List.foldl_append]
  rfl
theorem stepL_len {l : List Int} {o : Mo} : (stepL l o).length = l.length := by cases o <;> simp [stepL]
theorem foldl_len : ∀ (ms : List Mo) (l : List Int), (ms.foldl stepL l).length = l.length
  | [], _ => rfl
  | o :: ms, l => by rw [List.foldl_cons, foldl_len ms, stepL_len]
theorem lagsAt_len {c : Nat} {ms : List Mo} {k : Nat} : (lagsAt c ms k).length = c := by unfold lagsAt; rw [foldl_len, List.length_replicate]
theorem lagsAt_ne {c : Nat} {ms : List Mo} {k : Nat} (h : 1 ≤ c) : lagsAt c ms k ≠ [] := fun e => by
  have := lagsAt_len (c := c) (ms := ms) (k := k)
  rw [e] at this
  simp at this
  omega
theorem lagsAt_bd {c : Nat} {ms : List Mo} (hok : ∀ o ∈ ms, Mo.ok c o) : ∀ (k : Nat), k ≤ ms.length → ∀ x ∈ lagsAt c ms k, 0 ≤ x ∧ x ≤ 20 * k
  | 0, _, x, hx => by
    have := List.eq_of_mem_replicate (show x ∈ List.replicate c (0 : Int) from hx)
    subst this
    omega
  | k + 1, hk, x, hx => by
    have hk' : k < ms.length := by omega
    have e := List.getElem?_eq_getElem hk'
    rw [lagsAt_succ e] at hx
    have ih := lagsAt_bd hok k (by omega)
    have ho := hok _ (List.getElem_mem hk')
    cases q : ms[k] with
    | sent n =>
      rw [q] at hx ho
      obtain ⟨y, hy, rfl⟩ := List.mem_map.mp hx
      have := ih y hy
      have := ho.1
      have := ho.2
      omega
    | may i z =>
      rw [q] at hx
      rcases List.mem_or_eq_of_mem_set (show x ∈ (lagsAt c ms k).set i 0 from hx) with y | y
      · have := ih x y; omega
      · subst y; omega
def mostAt (c : Nat) (ms : List Mo) : Nat → Int
  | 0 => 0
  | k + 1 => max (mostAt c ms k) (maxI (lagsAt c ms (k + 1)))
theorem mostAt_bd {c : Nat} {ms : List Mo} (h1 : 1 ≤ c) (hok : ∀ o ∈ ms, Mo.ok c o) : ∀ (k : Nat), k ≤ ms.length → 0 ≤ mostAt c ms k ∧ mostAt c ms k ≤ 20 * k
  | 0, _ => ⟨Int.le_refl _, Int.le_refl _⟩
  | k + 1, hk => by
    have ih := mostAt_bd h1 hok k (by omega)
    have := maxI_le (lagsAt_ne (ms := ms) (k := k + 1) h1) (b := 20 * ((k + 1 : Nat) : Int)) fun x hx => (lagsAt_bd hok (k + 1) hk x hx).2
    show 0 ≤ max (mostAt c ms k) (maxI (lagsAt c ms (k + 1))) ∧ max (mostAt c ms k) (maxI (lagsAt c ms (k + 1))) ≤ _
    omega
/-- longest's slots -/
abbrev LE (c : Nat) (ms : List Mo) (room : Int) (lags lasts : List Int) (most : Int) (first : D) (x7 x8 x9 : Option Sl) : DE :=
  [some (.val (.int c)), some (.val (dayD ms)), some (.val (.int room)), some (.own (.lst (lags.map D.int))), some (.own (.lst (lasts.map D.int))), some (.val (.int most)), some (.val first), x7, x8, x9, none, none]
def overAt (room : Int) (lags : List Int) : List Int := ((List.range lags.length).filter fun k => decide (room < lags.getD k 0)).map fun k => ((k : Nat) : Int)
theorem max2_eq {a b : Int} : max2D [.int a, .int b] = some (.int (max a b)) := by
  show some (D.int (if b > a then b else a)) = _
  congr 2
  split <;> omega
def lastsAt (c : Nat) (ms : List Mo) : Nat → List Int
  | 0 => List.replicate c (-1)
  | k + 1 => match ms[k]? with
    | some (.may i _) => (lastsAt c ms k).set i (k : Int)
    | _ => lastsAt c ms k
theorem lastsAt_len {c : Nat} {ms : List Mo} : ∀ k : Nat, (lastsAt c ms k).length = c
  | 0 => by simp [lastsAt]
  | k + 1 => by
    unfold lastsAt
    split
    · rw [List.length_set, lastsAt_len k]
    · exact lastsAt_len k
/-- what longest tells of the first lag above the room, after k moments -/
def FirstI (c : Nat) (ms : List Mo) (room : Int) (k : Nat) (first : D) : Prop :=
  (first = .non ∧ ∀ k', k' < k → overAt room (lagsAt c ms (k' + 1)) = []) ∨
  ∃ (k' j : Nat) (r : List Int), k' < k ∧ (∀ k'', k'' < k' → overAt room (lagsAt c ms (k'' + 1)) = []) ∧ overAt room (lagsAt c ms (k' + 1)) = (j : Int) :: r ∧ first = .tup [.int j, .int ((lastsAt c ms (k' + 1)).getD j 0), .int k']
theorem FirstI.uniq {c : Nat} {ms : List Mo} {room : Int} {k : Nat} {a b : D} (ha : FirstI c ms room k a) (hb : FirstI c ms room k b) : a = b := by
  rcases ha with ⟨rfl, h1⟩ | ⟨k1, j1, r1, h1, h2, h3, rfl⟩ <;> rcases hb with ⟨rfl, g1⟩ | ⟨k2, j2, r2, g1, g2, g3, rfl⟩
  · rfl
  · rw [h1 k2 g1] at g3; cases g3
  · rw [g1 k1 h1] at h3; cases h3
  · have e : k1 = k2 := by
      rcases Nat.lt_trichotomy k1 k2 with q | q | q
      · rw [g2 k1 q] at h3; cases h3
      · exact q
      · rw [h2 k2 q] at g3; cases g3
    subst e
    rw [h3] at g3
    have e2 : j1 = j2 := by
      have := (List.cons.inj g3).1
      omega
    subst e2
    rfl
set_option maxHeartbeats 4000000 in
theorem longest_ok {c : Nat} {ms : List Mo} {room : Int} (h1 : 1 ≤ c) (h4 : c ≤ 4) (h : Day c ms) :
    ∃ f, FirstI c ms room ms.length f ∧ ph_p_longest [.val (.int c), .val (dayD ms), .val (.int room)] = .ret (.tup [.int (mostAt c ms ms.length), f]) [.val (.int c), .val (dayD ms), .val (.int room)] := by
  have hloop := loop_ok (t := (tupG 2 (consG (nmG 7) (consG (nmG 8) nilG)))) (ds := pairsD (ms.map Mo.d))
    (g := (thenS (ifS (tst (op2 eqD (op2 ixD (var 8) (cst (.int 0))) (cst (.str "may")))) (thenS (putS 3 (op2 ixD (var 8) (cst (.int 1))) (cst (.int 0))) (putS 4 (op2 ixD (var 8) (cst (.int 1))) (var 7))) (ownS 3 (lcN (seqE (var 3)) (nmG 10) noCond (op2 addA (var 10) (op2 ixD (var 8) (cst (.int 1)))) [10]))) (thenS (setS 5 (callB max2D (valA (var 5) (valA (callB maxLD (slotA 3 noA)) noA)))) (thenS (setS 9 (ofN (thawN 3 (lcN (enumE (valA (var 3) noA)) (tupG 2 (consG (nmG 11) (consG (nmG 10) nilG))) (tst (op2 igt (var 10) (var 2))) (var 11) [11, 10])))) (ifS (andT (tst (op2 isNo (var 6) (cst .non))) (tst (op2 neD (var 9) (ofN (lstN noA))))) (setS 6 (tupE (valA (op2 ixD (var 9) (cst (.int 0))) (valA (ixSl 4 (op2 ixD (var 9) (cst (.int 0)))) (valA (var 7) noA))))) skipS)))))
    (fun k δ => ∃ lasts first x7 x8 x9, lasts = lastsAt c ms k ∧ FirstI c ms room k first ∧ nv x7 = true ∧ nv x8 = true ∧ nv x9 = true ∧ δ = LE c ms room (lagsAt c ms k) lasts (mostAt c ms k) first x7 x8 x9)
    (fun k d δ hd hI => by
      obtain ⟨lasts, first, x7, x8, x9, hls, hfi, n7, n8, n9, rfl⟩ := hI
      have hl : lasts.length = c := by rw [hls, lastsAt_len]
      obtain ⟨od, ho, rfl⟩ := PV.pairs_get hd
      rw [List.getElem?_map] at ho
      obtain ⟨o, ho', rfl⟩ := Option.map_eq_some_iff.mp ho
      replace ho := ho'
      have hok := h.ok o (List.mem_of_getElem? ho)
      have hk := (List.getElem?_eq_some_iff.mp ho).1
      have ht : tupG 2 (consG (nmG 7) (consG (nmG 8) nilG)) (.tup [.int k, o.d]) (LE c ms room (lagsAt c ms k) lasts (mostAt c ms k) first x7 x8 x9) = some (LE c ms room (lagsAt c ms k) lasts (mostAt c ms k) first (some (.val (.int k))) (some (.val o.d)) x9) := by
        simp [tupG, consG, nmG, nilG, setSl_s, setSl_x (nv_nb n7), setSl_x (nv_nb n8)]
      have es := lagsAt_succ (c := c) ho
      -- the first part
      have hA : ∃ lasts', lasts' = lastsAt c ms (k + 1) ∧ ifS (tst (op2 eqD (op2 ixD (var 8) (cst (.int 0))) (cst (.str "may")))) (thenS (putS 3 (op2 ixD (var 8) (cst (.int 1))) (cst (.int 0))) (putS 4 (op2 ixD (var 8) (cst (.int 1))) (var 7))) (ownS 3 (lcN (seqE (var 3)) (nmG 10) noCond (op2 addA (var 10) (op2 ixD (var 8) (cst (.int 1)))) [10]))
          (LE c ms room (lagsAt c ms k) lasts (mostAt c ms k) first (some (.val (.int k))) (some (.val o.d)) x9) = .nx (LE c ms room (lagsAt c ms (k + 1)) lasts' (mostAt c ms k) first (some (.val (.int k))) (some (.val o.d)) x9) := by
        cases o with
        | may i x =>
          refine ⟨lasts.set i k, by rw [hls]; show _ = (match ms[k]? with | some (.may i _) => _ | _ => _); rw [ho], ?_⟩
          refine Eq.trans (e_if_t (e_tst (e_op2 (e_op2 rfl rfl rfl) rfl eq_may))) ?_
          refine Eq.trans (e_then (e_put (s := .own (.lst ((lagsAt c ms k).map D.int))) (l := (lagsAt c ms k).map D.int) (k := (i : Int)) (j := i) rfl rfl (e_op2 rfl rfl rfl) rfl (ixN_nat (by rw [List.length_map, lagsAt_len]; exact hok.1)))) ?_
          refine Eq.trans (e_put (s := .own (.lst (lasts.map D.int))) (l := lasts.map D.int) (k := (i : Int)) (j := i) rfl rfl (e_op2 rfl rfl rfl) rfl (ixN_nat (by rw [List.length_map, hl]; exact hok.1))) ?_
          rw [es]
          show O.nx [_, _, _, some (.own (.lst (((lagsAt c ms k).map D.int).set i (.int 0)))), some (.own (.lst ((lasts.map D.int).set i (.int k)))), _, _, _, _, _, _, _] = O.nx [_, _, _, some (.own (.lst (((lagsAt c ms k).set i 0).map D.int))), some (.own (.lst ((lasts.set i k).map D.int))), _, _, _, _, _, _, _]
          rw [List.map_set, List.map_set]
        | sent n =>
          refine ⟨lasts, by rw [hls]; show _ = (match ms[k]? with | some (.may i _) => _ | _ => _); rw [ho], ?_⟩
          refine Eq.trans (e_if_f (e_tst (e_op2 (e_op2 rfl rfl rfl) rfl eq_sent_may))) ?_
          have hlc := lc_map (f := seqE (var 3)) (t := nmG 10) (elt := op2 addA (var 10) (op2 ixD (var 8) (cst (.int 1)))) (vs := [10]) (δ := LE c ms room (lagsAt c ms k) lasts (mostAt c ms k) first (some (.val (.int k))) (some (.val (Mo.sent n).d)) x9)
            (δ0 := [some (.val (.int c)), some (.val (dayD ms)), some (.val (.int room)), some (.val (.lst ((lagsAt c ms k).map D.int))), some (.own (.lst (lasts.map D.int))), some (.val (.int (mostAt c ms k))), some (.val first), some (.val (.int k)), some (.val (Mo.sent n).d), x9, none, none])
            (δw := [some (.val (.int c)), some (.val (dayD ms)), some (.val (.int room)), some (.val (.lst ((lagsAt c ms k).map D.int))), some (.own (.lst (lasts.map D.int))), some (.val (.int (mostAt c ms k))), some (.val first), some (.val (.int k)), some (.val (Mo.sent n).d), x9, none, none])
            (ds := (lagsAt c ms k).map D.int) (fun d => match d with | .int a => .int (a + n) | _ => .non) rfl rfl (by rw [List.length_map, lagsAt_len]; unfold LIM; omega) (fun d hd => by
              obtain ⟨a, ha, rfl⟩ := List.mem_map.mp hd
              exact ⟨_, _, rfl, rfl, rfl⟩)
          refine Eq.trans (e_own hlc rfl) ?_
          rw [es]
          show O.nx [_, _, _, some (.own (.lst (((lagsAt c ms k).map D.int).map _))), _, _, _, _, _, _, _, _] = O.nx [_, _, _, some (.own (.lst (((lagsAt c ms k).map (· + n)).map D.int))), _, _, _, _, _, _, _, _]
          rw [List.map_map, List.map_map]
          rfl
      obtain ⟨lasts', hls', eA⟩ := hA
      have hl' : lasts'.length = c := by rw [hls', lastsAt_len]
      have hne := lagsAt_ne (c := c) (ms := ms) (k := k + 1) h1
      have eB : setS 5 (callB max2D (valA (var 5) (valA (callB maxLD (slotA 3 noA)) noA))) (LE c ms room (lagsAt c ms (k + 1)) lasts' (mostAt c ms k) first (some (.val (.int k))) (some (.val o.d)) x9) = .nx (LE c ms room (lagsAt c ms (k + 1)) lasts' (mostAt c ms (k + 1)) first (some (.val (.int k))) (some (.val o.d)) x9) :=
        e_set (e_callB (e_valA rfl (e_valA (e_callB (e_slotA rfl rfl) rfl (maxLD_ints hne)) rfl)) rfl max2_eq) rfl
      have eC : setS 9 (ofN (thawN 3 (lcN (enumE (valA (var 3) noA)) (tupG 2 (consG (nmG 11) (consG (nmG 10) nilG))) (tst (op2 igt (var 10) (var 2))) (var 11) [11, 10]))) (LE c ms room (lagsAt c ms (k + 1)) lasts' (mostAt c ms (k + 1)) first (some (.val (.int k))) (some (.val o.d)) x9)
          = .nx (LE c ms room (lagsAt c ms (k + 1)) lasts' (mostAt c ms (k + 1)) first (some (.val (.int k))) (some (.val o.d)) (some (.val (.lst ((overAt room (lagsAt c ms (k + 1))).map D.int))))) := by
        have hlc := lc_fm (f := enumE (valA (var 3) noA)) (t := tupG 2 (consG (nmG 11) (consG (nmG 10) nilG))) (cond := tst (op2 igt (var 10) (var 2))) (elt := var 11) (vs := [11, 10])
          (δ := [some (.val (.int c)), some (.val (dayD ms)), some (.val (.int room)), some (.val (.lst ((lagsAt c ms (k + 1)).map D.int))), some (.own (.lst (lasts'.map D.int))), some (.val (.int (mostAt c ms (k + 1)))), some (.val first), some (.val (.int k)), some (.val o.d), x9, none, none])
          (δ0 := [some (.val (.int c)), some (.val (dayD ms)), some (.val (.int room)), some (.val (.lst ((lagsAt c ms (k + 1)).map D.int))), some (.own (.lst (lasts'.map D.int))), some (.val (.int (mostAt c ms (k + 1)))), some (.val first), some (.val (.int k)), some (.val o.d), x9, none, none])
          (δw := [some (.val (.int c)), some (.val (dayD ms)), some (.val (.int room)), some (.val (.lst ((lagsAt c ms (k + 1)).map D.int))), some (.own (.lst (lasts'.map D.int))), some (.val (.int (mostAt c ms (k + 1)))), some (.val first), some (.val (.int k)), some (.val o.d), x9, none, none])
          (ds := pairsD ((lagsAt c ms (k + 1)).map D.int)) (fun d => match d with | .tup [.int j, .int a] => if room < a then some (.int j) else none | _ => none) rfl rfl (by rw [PV.pairs_len, List.length_map, lagsAt_len]; unfold LIM; omega) (fun d hd => by
            rw [pairs_ints] at hd
            obtain ⟨j, hj, rfl⟩ := List.mem_map.mp hd
            refine ⟨[some (.val (.int c)), some (.val (dayD ms)), some (.val (.int room)), some (.val (.lst ((lagsAt c ms (k + 1)).map D.int))), some (.own (.lst (lasts'.map D.int))), some (.val (.int (mostAt c ms (k + 1)))), some (.val first), some (.val (.int k)), some (.val o.d), x9, some (.val (.int ((lagsAt c ms (k + 1)).getD j 0))), some (.val (.int (j : Nat)))], rfl, ?_⟩
            by_cases hr : room < (lagsAt c ms (k + 1)).getD j 0
            · exact .inr ⟨_, _, _, if_pos hr, e_tst (e_op2 rfl rfl (by rw [igt_int, decide_eq_true hr])), rfl, rfl⟩
            · exact .inl ⟨if_neg hr, _, e_tst (e_op2 rfl rfl (by rw [igt_int, decide_eq_false hr])), rfl⟩)
        have eo : (pairsD ((lagsAt c ms (k + 1)).map D.int)).filterMap (fun d => match d with | .tup [.int j, .int a] => if room < a then some (.int j) else none | _ => none) = (overAt room (lagsAt c ms (k + 1))).map D.int := by
          rw [pairs_ints, List.filterMap_map]
          unfold overAt
          generalize List.range (lagsAt c ms (k + 1)).length = rg
          induction rg with
          | nil => rfl
          | cons j rg ih =>
            rw [List.filterMap_cons, ih, List.filter_cons]
            by_cases hr : room < (lagsAt c ms (k + 1)).getD j 0
            · simp only [Function.comp_apply, if_pos hr, decide_eq_true hr]; rfl
            · simp only [Function.comp_apply, if_neg hr, decide_eq_false hr]; rfl
        rw [eo] at hlc
        refine e_set (e_ofN (e_thaw rfl hlc (flat_ints _) (flatEnv_of ?_))) ?_
        · intro x hx
          simp only [List.mem_cons, List.not_mem_nil, or_false] at hx
          rcases hx with rfl | rfl | rfl | rfl | rfl | rfl | rfl | rfl | rfl | rfl | rfl | rfl <;> first | exact .inl rfl | exact .inl n9 | exact .inr ⟨_, _, rfl, rfl⟩
        · simp [setSl_s, setSl_x (nv_nb n9), MD.d]
      have eD : ∃ first', FirstI c ms room (k + 1) first' ∧ ifS (andT (tst (op2 isNo (var 6) (cst .non))) (tst (op2 neD (var 9) (ofN (lstN noA))))) (setS 6 (tupE (valA (op2 ixD (var 9) (cst (.int 0))) (valA (ixSl 4 (op2 ixD (var 9) (cst (.int 0)))) (valA (var 7) noA))))) skipS (LE c ms room (lagsAt c ms (k + 1)) lasts' (mostAt c ms (k + 1)) first (some (.val (.int k))) (some (.val o.d)) (some (.val (.lst ((overAt room (lagsAt c ms (k + 1))).map D.int)))))
          = .nx (LE c ms room (lagsAt c ms (k + 1)) lasts' (mostAt c ms (k + 1)) first' (some (.val (.int k))) (some (.val o.d)) (some (.val (.lst ((overAt room (lagsAt c ms (k + 1))).map D.int))))) := by
        cases hf : first.isN with
        | false => exact ⟨first, (by
            rcases hfi with ⟨rfl, _⟩ | ⟨k', j, r, q1, q2, q3, q4⟩
            · cases hf
            · exact .inr ⟨k', j, r, by omega, q2, q3, q4⟩), e_if_f (e_andT_f (e_tst (e_op2 rfl rfl (by show some (D.bl first.isN) = _; rw [hf]))))⟩
        | true =>
          have hnon : first = .non ∧ ∀ k', k' < k → overAt room (lagsAt c ms (k' + 1)) = [] := by
            rcases hfi with q | ⟨k', j, r, q1, q2, q3, rfl⟩
            · exact q
            · cases hf
          have e0 : tst (op2 isNo (var 6) (cst .non)) (LE c ms room (lagsAt c ms (k + 1)) lasts' (mostAt c ms (k + 1)) first (some (.val (.int k))) (some (.val o.d)) (some (.val (.lst ((overAt room (lagsAt c ms (k + 1))).map D.int))))) = .ok true _ := e_tst (e_op2 rfl rfl (by show some (D.bl first.isN) = _; rw [hf]))
          cases hov : overAt room (lagsAt c ms (k + 1)) with
          | nil =>
            rw [hov] at e0
            exact ⟨first, .inl ⟨hnon.1, fun k' hk' => by
              rcases Nat.lt_or_eq_of_le (Nat.le_of_lt_succ hk') with q | q
              · exact hnon.2 k' q
              · rw [q]; exact hov⟩, e_if_f (Eq.trans (e_andT_t e0) (e_tst (e_op2 rfl (e_ofN (e_lstN rfl rfl)) (ne_nil_ints []))))⟩
          | cons a r =>
            rw [hov] at e0
            have ha : a ∈ overAt room (lagsAt c ms (k + 1)) := by rw [hov]; exact List.mem_cons_self
            unfold overAt at ha
            obtain ⟨j, hj, rfl⟩ := List.mem_map.mp ha
            have hj2 : j < lasts'.length := by
              have := List.mem_range.mp (List.mem_filter.mp hj).1
              rw [lagsAt_len] at this
              omega
            have ei : L2.atI (lasts'.map D.int) (j : Int) = some (.int lasts'[j]) := PV.atI_nat (by rw [List.getElem?_map, List.getElem?_eq_getElem hj2]; rfl)
            refine ⟨.tup [.int j, .int lasts'[j], .int k], .inr ⟨k, j, r, by omega, hnon.2, hov, ?_⟩, Eq.trans (e_if_t (Eq.trans (e_andT_t e0) (e_tst (e_op2 rfl (e_ofN (e_lstN rfl rfl)) (ne_nil_ints ((j : Int) :: r)))))) (e_set (e_tupE (e_valA (e_op2 rfl rfl ixD_head) (e_valA (e_ixSl rfl (e_op2 rfl rfl ixD_head) rfl ei) (e_valA rfl rfl))) rfl) rfl)⟩
            rw [← hls']; simp [hj2]
      obtain ⟨first', hfi', eD⟩ := eD
      exact ⟨_, _, ht, Eq.trans (e_then eA) (Eq.trans (e_then eB) (Eq.trans (e_then eC) eD)), lasts', first', _, _, _, hls', hfi', rfl, rfl, rfl, rfl⟩)
    (LE c ms room (lagsAt c ms 0) (List.replicate c (-1)) 0 .non none none none) ⟨List.replicate c (-1), .non, none, none, none, rfl, .inl ⟨rfl, fun k' h => absurd h (by omega)⟩, rfl, rfl, rfl, rfl⟩
  obtain ⟨δ', e5, lasts, first, x7, x8, x9, hls, hfi, n7, n8, n9, rfl⟩ := hloop
  rw [PV.pairs_len, List.length_map] at e5 hfi
  refine ⟨first, hfi, ?_⟩
  have hm0 : mulN (ofN (lstN (valA (cst (.int 0)) noA))) (var 0) [some (.val (.int c)), some (.val (dayD ms)), some (.val (.int room)), none, none, none, none, none, none, none, none, none] = .ok (.lst ((lagsAt c ms 0).map D.int)) [some (.val (.int c)), some (.val (dayD ms)), some (.val (.int room)), none, none, none, none, none, none, none, none, none] := by
    show (match lmul (.lst [.int 0]) (.int c) with | some (.lst l) => R.ok (MD.lst l) _ | _ => .stuck) = _
    rw [lmul_one (by omega)]
    show R.ok (MD.lst (List.replicate c (D.int 0))) _ = R.ok (MD.lst ((List.replicate c 0).map D.int)) _
    rw [List.map_replicate]
  have hm1 : mulN (ofN (lstN (valA (negE (cst (.int 1))) noA))) (var 0) [some (.val (.int c)), some (.val (dayD ms)), some (.val (.int room)), some (.own (.lst ((lagsAt c ms 0).map D.int))), none, none, none, none, none, none, none, none] = .ok (.lst ((List.replicate c (-1)).map D.int)) [some (.val (.int c)), some (.val (dayD ms)), some (.val (.int room)), some (.own (.lst ((lagsAt c ms 0).map D.int))), none, none, none, none, none, none, none, none] := by
    show (match lmul (.lst [.int (-1)]) (.int c) with | some (.lst l) => R.ok (MD.lst l) _ | _ => .stuck) = _
    rw [lmul_one (by omega), List.map_replicate]
  refine e_fn (δ1 := LE c ms room (lagsAt c ms ms.length) lasts (mostAt c ms ms.length) first x7 x8 x9) rfl ?_
  refine Eq.trans (e_then (e_own hm0 rfl)) ?_
  refine Eq.trans (e_then (e_own hm1 rfl)) ?_
  refine Eq.trans (e_then (e_set rfl rfl)) ?_
  refine Eq.trans (e_then (e_set rfl rfl)) ?_
  refine Eq.trans (e_then (Eq.trans (e_for (e_enumT rfl)) e5)) ?_
  exact e_ret (e_tupE (e_valA rfl (e_valA rfl rfl)) rfl)

abbrev WE2 (c : Nat) (ms : List Mo) (ch : List Int) (lags : List Int) (rows : List D) (x5 x6 : Option Sl) : DE :=
  [some (.val (.int c)), some (.val (dayD ms)), some (.val (.lst (ch.map D.int))), some (.val (.lst (lags.map D.int))), some (.own (.lst rows)), x5, x6, none, none]
def rowsD (c : Nat) (ms : List Mo) (k : Nat) : List D := (List.range k).map fun j => D.lst ((lagsAt c ms (j + 1)).map D.int)
theorem rowsD_succ {c : Nat} {ms : List Mo} {k : Nat} : rowsD c ms (k + 1) = rowsD c ms k ++ [.lst ((lagsAt c ms (k + 1)).map D.int)] := by
  unfold rowsD
  rw [List.range_succ, List.map_append]; rfl
theorem set_ints {l : List Int} {i : Nat} (hi : i < l.length) : (pairsD (l.map D.int)).map (fun d => match d with | .tup [.int j, x] => if j = (i : Int) then D.int 0 else x | _ => .non) = (l.set i 0).map D.int := by
  rw [pairs_ints, List.map_map]
  apply List.ext_getElem?
  intro k
  by_cases hk : k < l.length
  · rw [List.getElem?_map, List.getElem?_range hk, List.getElem?_map, List.getElem?_set]
    show some (if ((k : Nat) : Int) = (i : Int) then D.int 0 else D.int (l.getD k 0)) = _
    by_cases q : i = k
    · subst q; rw [if_pos rfl, if_pos rfl, if_pos hi]; rfl
    · rw [if_neg (by omega), if_neg q, List.getElem?_eq_getElem hk]; simp [hk]
  · rw [List.getElem?_eq_none (by simp; omega), List.getElem?_eq_none (by simp; omega)]
set_option maxHeartbeats 4000000 in
theorem worst_ok {c : Nat} {ms : List Mo} {ch : List Int} (h1 : 1 ≤ c) (h4 : c ≤ 4) (h : Day c ms) (hch : ∀ k : Nat, k < ms.length → (k : Int) ∈ ch) :
    ph_worst [.val (.int c), .val (dayD ms), .val (.lst (ch.map D.int))] = .ret (.lst (rowsD c ms ms.length)) [.val (.int c), .val (dayD ms), .val (.lst (ch.map D.int))] := by
  have hloop := loop_ok (t := (tupG 2 (consG (nmG 5) (consG (nmG 6) nilG)))) (ds := pairsD (ms.map Mo.d))
    (g := (thenS (ifS (tst (op2 eqD (op2 ixD (var 6) (cst (.int 0))) (cst (.str "sent")))) (setS 3 (ofN (lcN (seqE (var 3)) (nmG 7) noCond (op2 addA (var 7) (op2 ixD (var 6) (cst (.int 1)))) [7]))) (ifS (tst (op2 (inF false) (var 5) (var 2))) (setS 3 (ofN (lcN (enumE (valA (var 3) noA)) (tupG 2 (consG (nmG 8) (consG (nmG 7) nilG))) noCond (ifE (tst (op2 eqD (var 8) (op2 ixD (var 6) (cst (.int 1))))) (cst (.int 0)) (var 7)) [8, 7]))) skipS)) (appS 4 (var 3))))
    (fun k δ => ∃ x5 x6, nv x5 = true ∧ nv x6 = true ∧ δ = WE2 c ms ch (lagsAt c ms k) (rowsD c ms k) x5 x6)
    (fun k d δ hd hI => by
      obtain ⟨x5, x6, n5, n6, rfl⟩ := hI
      obtain ⟨od, ho, rfl⟩ := PV.pairs_get hd
      rw [List.getElem?_map] at ho
      obtain ⟨o, ho', rfl⟩ := Option.map_eq_some_iff.mp ho
      replace ho := ho'
      have hok := h.ok o (List.mem_of_getElem? ho)
      have hk := (List.getElem?_eq_some_iff.mp ho).1
      have ht : tupG 2 (consG (nmG 5) (consG (nmG 6) nilG)) (.tup [.int k, o.d]) (WE2 c ms ch (lagsAt c ms k) (rowsD c ms k) x5 x6) = some (WE2 c ms ch (lagsAt c ms k) (rowsD c ms k) (some (.val (.int k))) (some (.val o.d))) := by
        simp [tupG, consG, nmG, nilG, setSl_s, setSl_x (nv_nb n5), setSl_x (nv_nb n6)]
      have es := lagsAt_succ (c := c) ho
      have hA : ifS (tst (op2 eqD (op2 ixD (var 6) (cst (.int 0))) (cst (.str "sent")))) (setS 3 (ofN (lcN (seqE (var 3)) (nmG 7) noCond (op2 addA (var 7) (op2 ixD (var 6) (cst (.int 1)))) [7]))) (ifS (tst (op2 (inF false) (var 5) (var 2))) (setS 3 (ofN (lcN (enumE (valA (var 3) noA)) (tupG 2 (consG (nmG 8) (consG (nmG 7) nilG))) noCond (ifE (tst (op2 eqD (var 8) (op2 ixD (var 6) (cst (.int 1))))) (cst (.int 0)) (var 7)) [8, 7]))) skipS)
          (WE2 c ms ch (lagsAt c ms k) (rowsD c ms k) (some (.val (.int k))) (some (.val o.d))) = .nx (WE2 c ms ch (lagsAt c ms (k + 1)) (rowsD c ms k) (some (.val (.int k))) (some (.val o.d))) := by
        cases o with
        | sent n =>
          refine Eq.trans (e_if_t (e_tst (e_op2 (e_op2 rfl rfl rfl) rfl eq_sent))) ?_
          have hlc := lc_map (f := seqE (var 3)) (t := nmG 7) (elt := op2 addA (var 7) (op2 ixD (var 6) (cst (.int 1)))) (vs := [7]) (δ := WE2 c ms ch (lagsAt c ms k) (rowsD c ms k) (some (.val (.int k))) (some (.val (Mo.sent n).d)))
            (δ0 := WE2 c ms ch (lagsAt c ms k) (rowsD c ms k) (some (.val (.int k))) (some (.val (Mo.sent n).d))) (δw := WE2 c ms ch (lagsAt c ms k) (rowsD c ms k) (some (.val (.int k))) (some (.val (Mo.sent n).d)))
            (ds := (lagsAt c ms k).map D.int) (fun d => match d with | .int a => .int (a + n) | _ => .non) rfl rfl (by rw [List.length_map, lagsAt_len]; unfold LIM; omega) (fun d hd => by
              obtain ⟨a, ha, rfl⟩ := List.mem_map.mp hd
              exact ⟨_, _, rfl, rfl, rfl⟩)
          refine Eq.trans (e_set (e_ofN hlc) rfl) ?_
          rw [es]
          show O.nx [_, _, _, some (.val (.lst (((lagsAt c ms k).map D.int).map _))), _, _, _, _, _] = O.nx [_, _, _, some (.val (.lst (((lagsAt c ms k).map (· + n)).map D.int))), _, _, _, _, _]
          rw [List.map_map, List.map_map]
          rfl
        | may i x =>
          refine Eq.trans (e_if_f (e_tst (e_op2 (e_op2 rfl rfl rfl) rfl eq_may_sent))) ?_
          refine Eq.trans (e_if_t (e_tst (e_op2 rfl rfl (by rw [inF_int, decide_eq_true (hch k hk)])))) ?_
          have hlc := lc_map (f := enumE (valA (var 3) noA)) (t := tupG 2 (consG (nmG 8) (consG (nmG 7) nilG))) (elt := ifE (tst (op2 eqD (var 8) (op2 ixD (var 6) (cst (.int 1))))) (cst (.int 0)) (var 7)) (vs := [8, 7]) (δ := WE2 c ms ch (lagsAt c ms k) (rowsD c ms k) (some (.val (.int k))) (some (.val (Mo.may i x).d)))
            (δ0 := WE2 c ms ch (lagsAt c ms k) (rowsD c ms k) (some (.val (.int k))) (some (.val (Mo.may i x).d))) (δw := WE2 c ms ch (lagsAt c ms k) (rowsD c ms k) (some (.val (.int k))) (some (.val (Mo.may i x).d)))
            (ds := pairsD ((lagsAt c ms k).map D.int)) (fun d => match d with | .tup [.int j, x] => if j = (i : Int) then D.int 0 else x | _ => .non) rfl rfl (by rw [PV.pairs_len, List.length_map, lagsAt_len]; unfold LIM; omega) (fun d hd => by
              rw [pairs_ints] at hd
              obtain ⟨j, hj, rfl⟩ := List.mem_map.mp hd
              refine ⟨[some (.val (.int c)), some (.val (dayD ms)), some (.val (.lst (ch.map D.int))), some (.val (.lst ((lagsAt c ms k).map D.int))), some (.own (.lst (rowsD c ms k))), some (.val (.int k)), some (.val (Mo.may i x).d), some (.val (.int ((lagsAt c ms k).getD j 0))), some (.val (.int (j : Nat)))], [some (.val (.int c)), some (.val (dayD ms)), some (.val (.lst (ch.map D.int))), some (.val (.lst ((lagsAt c ms k).map D.int))), some (.own (.lst (rowsD c ms k))), some (.val (.int k)), some (.val (Mo.may i x).d), some (.val (.int ((lagsAt c ms k).getD j 0))), some (.val (.int (j : Nat)))], rfl, ?_, rfl⟩
              by_cases q : ((j : Nat) : Int) = (i : Int)
              · refine Eq.trans (e_ifE_t (e_tst (e_op2 rfl (e_op2 rfl rfl rfl) (by rw [eqD_int, decide_eq_true q])))) ?_
                show _ = R.ok (if ((j : Nat) : Int) = (i : Int) then D.int 0 else _) _
                rw [if_pos q]; rfl
              · refine Eq.trans (e_ifE_f (e_tst (e_op2 rfl (e_op2 rfl rfl rfl) (by rw [eqD_int, decide_eq_false q])))) ?_
                show _ = R.ok (if ((j : Nat) : Int) = (i : Int) then D.int 0 else _) _
                rw [if_neg q]; rfl)
          rw [set_ints (by rw [lagsAt_len]; exact hok.1)] at hlc
          refine Eq.trans (e_set (e_ofN hlc) rfl) ?_
          rw [es]
          rfl
      have hrl : (rowsD c ms k).length < LIM := by
        have := h.len
        unfold rowsD LIM
        rw [List.length_map, List.length_range]
        omega
      refine ⟨_, _, ht, Eq.trans (e_then hA) (e_app rfl rfl rfl hrl), some (.val (.int k)), some (.val o.d), rfl, rfl, ?_⟩
      rw [rowsD_succ]
      rfl)
    (WE2 c ms ch (lagsAt c ms 0) (rowsD c ms 0) none none) ⟨none, none, rfl, rfl, rfl⟩
  obtain ⟨δ', e5, x5, x6, n5, n6, rfl⟩ := hloop
  rw [PV.pairs_len, List.length_map] at e5
  have hm0 : op2 mulA (ofN (lstN (valA (cst (.int 0)) noA))) (var 0) [some (.val (.int c)), some (.val (dayD ms)), some (.val (.lst (ch.map D.int))), none, none, none, none, none, none] = .ok (.lst ((lagsAt c ms 0).map D.int)) [some (.val (.int c)), some (.val (dayD ms)), some (.val (.lst (ch.map D.int))), none, none, none, none, none, none] :=
    e_op2 (x := .lst [.int 0]) rfl rfl (by
      show (none : Option D).or ((lmul (.lst [.int 0]) (.int c)).or _) = _
      rw [lmul_one (by omega)]
      show some (D.lst (List.replicate c (D.int 0))) = some (D.lst ((List.replicate c 0).map D.int))
      rw [List.map_replicate])
  refine e_fn (δ1 := [some (.val (.int c)), some (.val (dayD ms)), some (.val (.lst (ch.map D.int))), some (.val (.lst ((lagsAt c ms ms.length).map D.int))), some (.val (.lst (rowsD c ms ms.length))), x5, x6, none, none]) rfl ?_
  refine Eq.trans (e_then (e_parVN hm0 (e_lstN (ds := []) rfl rfl) rfl rfl)) ?_
  refine Eq.trans (e_then (Eq.trans (e_for (e_enumT rfl)) e5)) ?_
  exact e_ret rfl

theorem most_rows {c : Nat} {ms : List Mo} : ∀ n : Nat, maxI (0 :: (List.range n).map fun j => maxI (lagsAt c ms (j + 1))) = mostAt c ms n
  | 0 => rfl
  | n + 1 => by
    rw [List.range_succ, List.map_append, ← List.cons_append]
    show maxI ((0 :: (List.range n).map fun j => maxI (lagsAt c ms (j + 1))) ++ [maxI (lagsAt c ms (n + 1))]) = _
    rw [maxI_snoc (by simp), most_rows n]; rfl
theorem addA_lst {a b : List D} (h : a.length + b.length ≤ LIM) : addA (.lst a) (.lst b) = some (.lst (a ++ b)) := by
  show (none : Option D).or ((none : Option D).or ((if a.length + b.length ≤ LIM then some (D.lst (a ++ b)) else none).or _)) = _
  rw [if_pos h]; rfl
theorem addA_tup {a b : List D} (h : a.length + b.length ≤ LIM) : addA (.tup a) (.tup b) = some (.tup (a ++ b)) := by
  show (none : Option D).or ((none : Option D).or ((none : Option D).or (if a.length + b.length ≤ LIM then some (D.tup (a ++ b)) else none))) = _
  rw [if_pos h]; rfl
theorem two_show {a : Int} (h : 0 ≤ a) (g : a ≤ 600) : ShowOk 100 60 (.lst [.int a, .int a]) :=
  (ShowOk.lst (n := 41) (k := 1) fun d hd => by
    simp only [List.mem_cons, List.not_mem_nil, or_false, or_self] at hd
    subst hd
    exact ShowOk.int (by have : (10 : Nat) ^ 12 = 1000000000000 := by decide
                         omega)).mono (by simp) (by decide)
end PV

namespace K58
open PySem PySem.Spec PyProof.Rows L2 PV
noncomputable def F_p_need_room : DE → O := (ifS (orT (notT (tst (callB isiD (valA (var 0) (valA (cst (.ty "int")) noA))))) (orT (tst (callB isiD (valA (var 0) (valA (cst (.ty "bool")) noA)))) (tst (op2 ilt (var 0) (cst (.int 0)))))) neverS skipS)
noncomputable def ph_p_need_room : List Sl → FR := fnF 1 1 F_p_need_room
noncomputable def F_p_crowded : DE → O := (thenS (dropS (callF ph_p_need_day (valA (var 0) (valA (var 1) noA)))) (thenS (dropS (callF ph_p_need_room (valA (var 2) noA))) (retS (op2 ixD (callF ph_p_longest (valA (var 0) (valA (var 1) (valA (var 2) noA)))) (cst (.int 1))))))
noncomputable def ph_p_crowded : List Sl → FR := fnF 3 3 F_p_crowded
noncomputable def F_due : DE → O := (thenS (setS 3 (callF ph_worst (valA (var 0) (valA (var 1) (valA (ofN (lrg1 (callB lenD (valA (var 1) noA)))) noA))))) (thenS (forS (rng1 (valA (callB lenD (valA (var 1) noA)) noA)) (nmG 4) (forS (rng1 (valA (var 0) noA)) (nmG 5) (ifS (tst (op2 igt (op2 ixD (op2 ixD (var 3) (var 4)) (var 5)) (var 2))) (thenS (setS 6 (ofN (lcN (rng1 (valA (var 4) noA)) (nmG 7) (tst (op2 eqD (slE (op2 ixD (var 1) (var 7)) oNo (oSome (cst (.int 2)))) (tupE (valA (cst (.str "may")) (valA (var 5) noA))))) (var 7) [7]))) (retS (tupE (valA (var 5) (valA (ifE (tst (op2 neD (var 6) (ofN (lstN noA)))) (op2 ixD (var 6) (negE (cst (.int 1)))) (negE (cst (.int 1)))) (valA (var 4) noA)))))) skipS))) (retS (cst .non))))
noncomputable def ph_due : List Sl → FR := fnF 3 8 F_due
noncomputable def F_law : DE → O := (thenS (forPens 0 4 1 (forS (rng1 (valA (cst (.int 8)) noA)) (nmG 2) (thenS (setS 3 (op2 addA (cst (.int 1)) (callF ph_draw (slotA 1 (valA (cst (.int 4)) noA))))) (thenS (setS 4 (callF ph_day (slotA 1 (valA (var 3) (valA (cst (.int 30)) noA))))) (thenS (setS 5 (callF ph_worst (valA (var 3) (valA (var 4) (valA (ofN (lrg1 (callB lenD (valA (var 4) noA)))) noA))))) (thenS (setS 6 (callB maxLD (valA (op2 addA (ofN (lstN (valA (cst (.int 0)) noA))) (ofN (lcN (seqE (var 5)) (nmG 9) noCond (callB maxLD (valA (var 9) noA)) [9]))) noA))) (forS (seqE (ofN (lstN (valA (var 6) (valA (callB max2D (valA (cst (.int 0)) (valA (op2 isub (var 6) (cst (.int 1))) noA))) (valA (callB max2D (valA (cst (.int 0)) (valA (op2 isub (op2 isub (var 6) (cst (.int 1))) (callF ph_draw (slotA 1 (valA (cst (.int 20)) noA)))) noA))) (valA (op2 idiv (var 6) (cst (.int 2))) (valA (cst (.int 0)) (valA (op2 ipow (cst (.int 10)) (cst (.int 39))) noA))))))))) (nmG 7) (thenS (setS 8 (callF ph_due (valA (var 3) (valA (var 4) (valA (var 7) noA))))) (thenS (ifS (notT (tst (callF ph_same (valA (ofN (lstN (valA (callF ph_p_crowded (valA (var 3) (valA (var 4) (valA (var 7) noA)))) (valA (callF ph_p_crowded (valA (var 3) (valA (var 4) (valA (var 7) noA)))) noA)))) (valA (ofN (lstN (valA (var 8) (valA (var 8) noA)))) noA))))) (retS (cst (.bl false))) skipS) (ifS (tst (op2 neD (op2 isNo (var 8) (cst .non)) (op2 ige (var 7) (var 6)))) (retS (cst (.bl false))) skipS)))))))))) (retS (cst (.bl true))))
noncomputable def ph_law : List Sl → FR := fnF 1 10 F_law
end K58

namespace K58
open PySem PySem.Spec PyProof.Rows L2 PV
/-! ### loops that may return -/
theorem loop_ret {t : D → DE → Option DE} {g : DE → O} {ds : List D} (I : Nat → DE → Prop) (Rt : D → DE → Prop)
    (hs : ∀ (k : Nat) (d : D) (δ : DE), ds[k]? = some d → I k δ → ∃ δ1, t d δ = some δ1 ∧ ((∃ δ2, g δ1 = .nx δ2 ∧ I (k + 1) δ2) ∨ ∃ v δ2, g δ1 = .ret v δ2 ∧ Rt v δ2)) :
    ∀ (δ : DE), I 0 δ → (∃ δ', loopF t g ds δ = .nx δ' ∧ I ds.length δ') ∨ ∃ v δ', loopF t g ds δ = .ret v δ' ∧ Rt v δ' := by
  have key : ∀ (n k : Nat) (δ : DE), k + n = ds.length → I k δ → (∃ δ', loopF t g (ds.drop k) δ = .nx δ' ∧ I ds.length δ') ∨ ∃ v δ', loopF t g (ds.drop k) δ = .ret v δ' ∧ Rt v δ' := by
    intro n
    induction n with
    | zero =>
      intro k δ e i
      rw [List.drop_eq_nil_of_le (by omega)]
      exact .inl ⟨δ, rfl, by rw [← e]; exact i⟩
    | succ n ih =>
      intro k δ e i
      have hk : k < ds.length := by omega
      rw [List.drop_eq_getElem_cons hk]
      obtain ⟨δ1, e1, q⟩ := hs k _ δ (List.getElem?_eq_getElem hk) i
      unfold loopF
      rw [e1]
      rcases q with ⟨δ2, e2, e3⟩ | ⟨v, δ2, e2, e3⟩
      · simp only [e2]
        exact ih (k + 1) δ2 (by omega) e3
      · simp only [e2]
        exact .inr ⟨v, δ2, rfl, e3⟩
  intro δ i
  exact key ds.length 0 δ (by omega) i
theorem then_ret {g h : DE → O} {δ δ1 : DE} {d : D} (hg : g δ = .ret d δ1) : thenS g h δ = .ret d δ1 := by unfold thenS; rw [hg]
theorem rng_get {n k : Nat} {d : D} (h : ((List.range n).map fun i => D.int ((0 : Int) + (i : Nat)))[k]? = some d) : k < n ∧ d = .int (k : Int) := by
  rw [List.getElem?_map] at h
  obtain ⟨j, h1, rfl⟩ := Option.map_eq_some_iff.mp h
  obtain ⟨h2, h3⟩ := List.getElem?_eq_some_iff.mp h1
  rw [List.length_range] at h2
  rw [List.getElem_range] at h3
  subst h3
  exact ⟨h2, by rw [Int.zero_add]⟩
theorem filter_head {p : Nat → Bool} {n j : Nat} (hj : j < n) (h1 : p j = true) (h2 : ∀ i, i < j → p i = false) : ∃ r, (List.range n).filter p = j :: r := by
  have e : List.range n = List.range j ++ (List.range (n - j)).map (j + ·) := by
    rw [← List.range_add]; congr 1; omega
  obtain ⟨m, hm⟩ : ∃ m, n - j = m + 1 := ⟨n - j - 1, by omega⟩
  rw [e, List.filter_append, List.filter_eq_nil_iff.mpr (fun i hi => by rw [h2 i (List.mem_range.mp hi)]; simp), hm, List.range_succ_eq_map, List.map_cons, List.filter_cons]
  rw [if_pos (by simpa using h1)]
  exact ⟨_, rfl⟩
theorem over_nil {room : Int} {l : List Int} (h : ∀ j, j < l.length → ¬ room < l.getD j 0) : overAt room l = [] := by
  unfold overAt
  rw [List.filter_eq_nil_iff.mpr fun i hi => by simpa using h i (List.mem_range.mp hi)]
  rfl
theorem over_head {room : Int} {l : List Int} {j : Nat} (hj : j < l.length) (h1 : room < l.getD j 0) (h2 : ∀ i, i < j → ¬ room < l.getD i 0) : ∃ r, overAt room l = (j : Int) :: r := by
  obtain ⟨r, e⟩ := filter_head (p := fun k => decide (room < l.getD k 0)) hj (decide_eq_true h1) fun i hi => decide_eq_false (h2 i hi)
  exact ⟨r.map fun k => ((k : Nat) : Int), by unfold overAt; rw [e]; rfl⟩
theorem nil_over {room : Int} {l : List Int} (h : overAt room l = []) {x : Int} (hx : x ∈ l) : x ≤ room := by
  obtain ⟨j, hj, rfl⟩ := List.mem_iff_getElem.mp hx
  unfold overAt at h
  have h' := List.map_eq_nil_iff.mp h
  have := List.filter_eq_nil_iff.mp h' j (List.mem_range.mpr hj)
  simp [hj] at this
  omega
/-! ### the last stop -/
def isMay (ms : List Mo) (p j : Nat) : Bool := match ms[p]? with
  | some (.may i _) => decide (i = j)
  | _ => false
def stops (ms : List Mo) (k j : Nat) : List Int := ((List.range k).filter fun p => isMay ms p j).map fun p => ((p : Nat) : Int)
def lastS (ms : List Mo) (k j : Nat) : Int := ((stops ms k j).getLast?).getD (-1)
theorem stops_succ {ms : List Mo} {k j : Nat} : stops ms (k + 1) j = if isMay ms k j = true then stops ms k j ++ [(k : Int)] else stops ms k j := by
  unfold stops
  rw [List.range_succ, List.filter_append]
  by_cases h : isMay ms k j = true
  · rw [if_pos h]; simp [h]
  · rw [if_neg h]; simp [h]
theorem lasts_stop {c : Nat} {ms : List Mo} {j : Nat} (hj : j < c) : ∀ k : Nat, (lastsAt c ms k).getD j 0 = lastS ms k j
  | 0 => by simp [lastsAt, lastS, stops, hj]
  | k + 1 => by
    have ih := lasts_stop (c := c) (ms := ms) hj k
    have hlen := lastsAt_len (c := c) (ms := ms) k
    unfold lastS at ih ⊢
    rw [stops_succ]
    unfold lastsAt isMay
    cases hm : ms[k]? with
    | none => simpa using ih
    | some o => cases o with
      | sent n => simpa using ih
      | may i x =>
        by_cases q : i = j
        · subst q
          simp [hlen, hj]
        · simp [q]
          simpa using ih
theorem lastS_bd {ms : List Mo} {k j : Nat} : -1 ≤ lastS ms k j ∧ lastS ms k j ≤ k := by
  unfold lastS
  cases h : (stops ms k j).getLast? with
  | none => simp
  | some x =>
    have := List.mem_of_getLast? h
    unfold stops at this
    obtain ⟨p, hp, rfl⟩ := List.mem_map.mp this
    have := List.mem_range.mp (List.mem_filter.mp hp).1
    simp; omega

theorem may_eq {a b : Str} {x y : Int} (ha : PyData.strOk a = true) (hb : PyData.strOk b = true) : eqD (.tup [.str a, .int x]) (.tup [.str b, .int y]) = some (.bl (a == b && x == y)) := by
  have e1 : D.py (.tup [.str a, .int x]) = some (.tuple [.str a, .int x]) := by simp [D.py, D.pys]
  have e2 : D.py (.tup [.str b, .int y]) = some (.tuple [.str b, .int y]) := by simp [D.py, D.pys]
  have s1 : SeqAt.shaped (.tuple [.str a, .int x]) = true := by unfold SeqAt.shaped; simp [PyData.canLay0, PyData.canLayAll0, ha, PyData.depth, PyData.depthAll]
  have s2 : SeqAt.shaped (.tuple [.str b, .int y]) = true := by unfold SeqAt.shaped; simp [PyData.canLay0, PyData.canLayAll0, hb, PyData.depth, PyData.depthAll]
  have q : eqP (.tup [.str a, .int x]) (.tup [.str b, .int y]) = some (PyData.eqv (.tuple [.str a, .int x]) (.tuple [.str b, .int y])) := by
    unfold eqP; rw [e1, e2]; simp only; rw [if_pos ⟨s1, s2⟩]
  show ((none : Option Bool).or (eqP _ _)).map _ = _
  rw [q]
  simp [PyData.eqv, PyData.eqvAll]
theorem room_ok {room : Int} (h : 0 ≤ room) : ph_p_need_room [.val (.int room)] = .ret .non [.val (.int room)] := by
  have h' : ¬ room < 0 := by omega
  have i1 : isiD [.int room, .ty "int"] = some (.bl true) := rfl
  have i2 : isiD [.int room, .ty "bool"] = some (.bl false) := rfl
  refine e_fnN (δ1 := [some (.val (.int room))]) rfl ?_
  exact e_if_f (Eq.trans (e_orT_f (e_notT (b := true) (e_tst (e_callB rfl rfl i1)))) (Eq.trans (e_orT_f (e_tst (e_callB rfl rfl i2))) (e_tst (e_op2 rfl rfl (by rw [PV.ilt_int, decide_eq_false h'])))))
theorem crowded_ok {c : Nat} {ms : List Mo} {room : Int} (h1 : 1 ≤ c) (h4 : c ≤ 4) (h : Day c ms) (hr : 0 ≤ room) :
    ∃ f, FirstI c ms room ms.length f ∧ ph_p_crowded [.val (.int c), .val (dayD ms), .val (.int room)] = .ret f [.val (.int c), .val (dayD ms), .val (.int room)] := by
  obtain ⟨f, hf, e⟩ := longest_ok (room := room) h1 h4 h
  refine ⟨f, hf, ?_⟩
  refine e_fn (δ1 := [some (.val (.int c)), some (.val (dayD ms)), some (.val (.int room))]) rfl ?_
  refine Eq.trans (e_then (e_drop (e_callF (as := [.val (.int c), .val (dayD ms)]) rfl .nil rfl (need_ok h1 h4 h)))) ?_
  refine Eq.trans (e_then (e_drop (e_callF (as := [.val (.int room)]) rfl .nil rfl (room_ok hr)))) ?_
  exact e_ret (e_op2 (e_callF (as := [.val (.int c), .val (dayD ms), .val (.int room)]) rfl .nil rfl e) rfl rfl)
abbrev DU (c : Nat) (ms : List Mo) (size : Int) (x4 x5 x6 : Option Sl) : DE := [some (.val (.int c)), some (.val (dayD ms)), some (.val (.int size)), some (.val (.lst (rowsD c ms ms.length))), x4, x5, x6, none]
noncomputable abbrev inner58 : DE → O := (ifS (tst (op2 igt (op2 ixD (op2 ixD (var 3) (var 4)) (var 5)) (var 2))) (thenS (setS 6 (ofN (lcN (rng1 (valA (var 4) noA)) (nmG 7) (tst (op2 eqD (slE (op2 ixD (var 1) (var 7)) oNo (oSome (cst (.int 2)))) (tupE (valA (cst (.str "may")) (valA (var 5) noA))))) (var 7) [7]))) (retS (tupE (valA (var 5) (valA (ifE (tst (op2 neD (var 6) (ofN (lstN noA)))) (op2 ixD (var 6) (negE (cst (.int 1)))) (negE (cst (.int 1)))) (valA (var 4) noA)))))) skipS)
theorem ix_row {c : Nat} {ms : List Mo} {k : Nat} (hk : k < ms.length) : ixD (.lst (rowsD c ms ms.length)) (.int k) = some (.lst ((lagsAt c ms (k + 1)).map D.int)) := PV.atI_nat (by unfold rowsD; rw [List.getElem?_map, List.getElem?_range hk]; rfl)
theorem ix_lag {l : List Int} {j : Nat} (hj : j < l.length) : ixD (.lst (l.map D.int)) (.int j) = some (.int (l.getD j 0)) := PV.atI_nat (by rw [List.getElem?_map, List.getElem?_eq_getElem hj]; simp [hj])
theorem ix_day {ms : List Mo} {k : Nat} {o : Mo} (hk : ms[k]? = some o) : ixD (dayD ms) (.int k) = some o.d := PV.atI_nat (l := ms.map Mo.d) (by rw [List.getElem?_map, hk]; rfl)
theorem atI_last {l : List D} {x : D} : L2.atI (l ++ [x]) (-1) = some x := by
  unfold L2.atI L2.ixN
  rw [if_neg (by omega), if_pos (by simp; omega)]
  show (l ++ [x])[((-1 : Int) + ((l ++ [x]).length : Nat)).toNat]? = _
  have e : ((-1 : Int) + ((l ++ [x]).length : Nat)).toNat = l.length := by rw [List.length_append, List.length_singleton]; omega
  rw [e, List.getElem?_append_right (by omega)]
  simp
theorem hit_ok {c : Nat} {ms : List Mo} {size : Int} {k j : Nat} {x6 : Option Sl} (h : Day c ms) (hk : k < ms.length) (hj : j < c) (n6 : nv x6 = true) (hit : size < (lagsAt c ms (k + 1)).getD j 0) :
    ∃ δ', inner58 (DU c ms size (some (.val (.int k))) (some (.val (.int j))) x6) = .ret (.tup [.int j, .int (lastS ms k j), .int k]) (DU c ms size (some (.val (.int k))) (some (.val (.int j))) δ') := by
  have hjl : j < (lagsAt c ms (k + 1)).length := by rw [lagsAt_len]; exact hj
  have hlc := lc_fm (f := rng1 (valA (var 4) noA)) (t := nmG 7) (cond := tst (op2 eqD (slE (op2 ixD (var 1) (var 7)) oNo (oSome (cst (.int 2)))) (tupE (valA (cst (.str "may")) (valA (var 5) noA))))) (elt := var 7) (vs := [7])
    (δ := DU c ms size (some (.val (.int k))) (some (.val (.int j))) x6) (δ0 := DU c ms size (some (.val (.int k))) (some (.val (.int j))) x6) (δw := DU c ms size (some (.val (.int k))) (some (.val (.int j))) x6)
    (ds := (List.range k).map fun i => D.int ((0 : Int) + (i : Nat))) (fun d => match d with | .int p => if isMay ms p.toNat j = true then some (.int p) else none | _ => none)
    (by have := e_rng1 (ra := valA (var 4) noA) (δ := DU c ms size (some (.val (.int k))) (some (.val (.int j))) x6) (j := (k : Int)) rfl (by have := h.len; omega) (by omega)
        rw [Int.toNat_natCast] at this; exact this) rfl (by have := h.len; rw [List.length_map, List.length_range]; unfold LIM; omega) (fun d hd => by
      obtain ⟨p, hp, rfl⟩ := List.mem_map.mp hd
      rw [Int.zero_add]
      have hp' : p < ms.length := by have := List.mem_range.mp hp; omega
      refine ⟨[some (.val (.int c)), some (.val (dayD ms)), some (.val (.int size)), some (.val (.lst (rowsD c ms ms.length))), some (.val (.int k)), some (.val (.int j)), x6, some (.val (.int p))], rfl, ?_⟩
      have eo := List.getElem?_eq_getElem hp'
      have em : isMay ms p j = (match ms[p] with | .may i _ => decide (i = j) | _ => false) := by unfold isMay; rw [eo]; cases ms[p] <;> rfl
      have hcond : ∀ (o : Mo), ms[p]? = some o → tst (op2 eqD (slE (op2 ixD (var 1) (var 7)) oNo (oSome (cst (.int 2)))) (tupE (valA (cst (.str "may")) (valA (var 5) noA)))) [some (.val (.int c)), some (.val (dayD ms)), some (.val (.int size)), some (.val (.lst (rowsD c ms ms.length))), some (.val (.int k)), some (.val (.int j)), x6, some (.val (.int p))]
          = .ok (match o with | .may i _ => decide (i = j) | _ => false) [some (.val (.int c)), some (.val (dayD ms)), some (.val (.int size)), some (.val (.lst (rowsD c ms ms.length))), some (.val (.int k)), some (.val (.int j)), x6, some (.val (.int p))] := by
        intro o ho
        have e1 : op2 ixD (var 1) (var 7) [some (.val (.int c)), some (.val (dayD ms)), some (.val (.int size)), some (.val (.lst (rowsD c ms ms.length))), some (.val (.int k)), some (.val (.int j)), x6, some (.val (.int p))] = .ok o.d [some (.val (.int c)), some (.val (dayD ms)), some (.val (.int size)), some (.val (.lst (rowsD c ms ms.length))), some (.val (.int k)), some (.val (.int j)), x6, some (.val (.int p))] := e_op2 rfl rfl (ix_day ho)
        cases o with
        | sent n =>
          refine e_tst (e_op2 (x := .tup [.str "sent", .int n]) (y := .tup [.str "may", .int j]) (δ1 := [some (.val (.int c)), some (.val (dayD ms)), some (.val (.int size)), some (.val (.lst (rowsD c ms ms.length))), some (.val (.int k)), some (.val (.int j)), x6, some (.val (.int p))]) ?_ rfl ?_)
          · unfold slE; rw [e1]; rfl
          · rw [may_eq (by decide +kernel) (by decide +kernel), show (("sent" : Str) == "may") = false by decide +kernel]; rfl
        | may i x =>
          refine e_tst (e_op2 (x := .tup [.str "may", .int i]) (y := .tup [.str "may", .int j]) (δ1 := [some (.val (.int c)), some (.val (dayD ms)), some (.val (.int size)), some (.val (.lst (rowsD c ms ms.length))), some (.val (.int k)), some (.val (.int j)), x6, some (.val (.int p))]) ?_ rfl ?_)
          · unfold slE; rw [e1]; rfl
          · rw [may_eq (by decide +kernel) (by decide +kernel)]
            by_cases q : i = j
            · subst q; simp
            · have : ¬ (i : Int) = (j : Int) := by omega
              simp [q, this]
      have hc2 := hcond _ eo
      rw [← em] at hc2
      by_cases q : isMay ms p j = true
      · exact .inr ⟨.int p, _, _, (by show (if isMay ms ((p : Nat) : Int).toNat j = true then some (D.int p) else none) = _; rw [Int.toNat_natCast, if_pos q]), by rw [hc2, q], rfl, rfl⟩
      · exact .inl ⟨(by show (if isMay ms ((p : Nat) : Int).toNat j = true then some (D.int p) else none) = _; rw [Int.toNat_natCast, if_neg q]), _, by rw [hc2, Bool.eq_false_iff.mpr q], rfl⟩)
  have eo : ((List.range k).map fun i => D.int ((0 : Int) + (i : Nat))).filterMap (fun d => match d with | .int p => if isMay ms p.toNat j = true then some (.int p) else none | _ => none) = (stops ms k j).map D.int := by
    rw [List.filterMap_map]
    unfold stops
    generalize List.range k = rg
    induction rg with
    | nil => rfl
    | cons p rg ih =>
      rw [List.filterMap_cons, ih, List.filter_cons]
      simp only [Function.comp_apply, Int.zero_add, Int.toNat_natCast]
      by_cases q : isMay ms p j = true
      · simp only [if_pos q]; rfl
      · simp only [if_neg q]
  rw [eo] at hlc
  have etest : tst (op2 igt (op2 ixD (op2 ixD (var 3) (var 4)) (var 5)) (var 2)) (DU c ms size (some (.val (.int k))) (some (.val (.int j))) x6) = .ok true (DU c ms size (some (.val (.int k))) (some (.val (.int j))) x6) :=
    e_tst (e_op2 (e_op2 (e_op2 rfl rfl (ix_row hk)) rfl (ix_lag hjl)) rfl (by rw [PV.igt_int, decide_eq_true hit]))
  refine ⟨some (.val (.lst ((stops ms k j).map D.int))), ?_⟩
  refine Eq.trans (e_if_t etest) ?_
  refine Eq.trans (e_then (e_set (δ2 := DU c ms size (some (.val (.int k))) (some (.val (.int j))) (some (.val (.lst ((stops ms k j).map D.int))))) (e_ofN hlc) (by simp [setSl_s, setSl_x (nv_nb n6), unwipe, MD.d]))) ?_
  suffices hif : ifE (tst (op2 neD (var 6) (ofN (lstN noA)))) (op2 ixD (var 6) (negE (cst (.int 1)))) (negE (cst (.int 1))) (DU c ms size (some (.val (.int k))) (some (.val (.int j))) (some (.val (.lst ((stops ms k j).map D.int))))) = .ok (.int (lastS ms k j)) (DU c ms size (some (.val (.int k))) (some (.val (.int j))) (some (.val (.lst ((stops ms k j).map D.int))))) from
    e_ret (e_tupE (e_valA rfl (e_valA hif (e_valA rfl rfl))) rfl)
  rcases List.eq_nil_or_concat (stops ms k j) with q | ⟨l, x, q⟩
  · refine Eq.trans (e_ifE_f (e_tst (e_op2 rfl (e_ofN (e_lstN (ds := []) rfl rfl)) (by rw [show MD.d (.lst []) = .lst [] from rfl, ne_nil_ints, q]; rfl)))) ?_
    unfold lastS
    rw [q]; rfl
  · rw [List.concat_eq_append] at q
    refine Eq.trans (e_ifE_t (e_tst (e_op2 rfl (e_ofN (e_lstN (ds := []) rfl rfl)) (by rw [show MD.d (.lst []) = .lst [] from rfl, ne_nil_ints, q]; simp)))) ?_
    refine e_op2 rfl rfl ?_
    show L2.atI ((stops ms k j).map D.int) (-1) = _
    rw [q, List.map_append]
    unfold lastS
    rw [q]
    simp only [List.getLast?_append, List.getLast?_singleton, Option.some_or, Option.getD_some]
    exact atI_last

theorem not_may {c : Nat} {ms : List Mo} {size : Int} {k j : Nat} (hs : 0 ≤ size) (hk : k < ms.length) (hj : j < c) (hit : size < (lagsAt c ms (k + 1)).getD j 0) : isMay ms k j = false := by
  have e := List.getElem?_eq_getElem hk
  unfold isMay
  rw [e]
  rw [lagsAt_succ e] at hit
  cases q : ms[k] with
  | sent n => rfl
  | may i x =>
    rw [q] at hit
    by_cases z : i = j
    · subst z
      have hl : i < (lagsAt c ms k).length := by rw [lagsAt_len]; exact hj
      simp [stepL, hl] at hit
      omega
    · simp [z]
theorem lastS_hit {ms : List Mo} {k j : Nat} (h : isMay ms k j = false) : lastS ms (k + 1) j = lastS ms k j := by
  unfold lastS
  rw [stops_succ, if_neg (by rw [h]; simp)]
set_option maxHeartbeats 4000000 in
theorem due_ok {c : Nat} {ms : List Mo} {size : Int} (h1 : 1 ≤ c) (h4 : c ≤ 4) (h : Day c ms) (hs : 0 ≤ size) :
    ∃ v, FirstI c ms size ms.length v ∧ ph_due [.val (.int c), .val (dayD ms), .val (.int size)] = .ret v [.val (.int c), .val (dayD ms), .val (.int size)] := by
  have hlen := h.len
  have hw := worst_ok (ch := (List.range ms.length).map fun i => ((i : Nat) : Int)) h1 h4 h (fun k hk => List.mem_map.mpr ⟨k, List.mem_range.mpr hk, rfl⟩)
  have elen : ∀ δ : DE, δ[1]? = some (some (.val (dayD ms))) → callB lenD (valA (var 1) noA) δ = .ok (.int ms.length) δ := fun δ hδ => by
    have ev : var 1 δ = .ok (dayD ms) δ := by unfold var; rw [hδ]
    exact e_callB (ds := [dayD ms]) (e_valA ev rfl) rfl (by show some (D.int ((ms.map Mo.d).length : Nat)) = _; rw [List.length_map])
  have hloop := loop_ret (t := nmG 4) (g := forS (rng1 (valA (var 0) noA)) (nmG 5) inner58) (ds := (List.range ms.length).map fun i => D.int ((0 : Int) + (i : Nat)))
    (fun k δ => ∃ x4 x5, nv x4 = true ∧ nv x5 = true ∧ (∀ k', k' < k → overAt size (lagsAt c ms (k' + 1)) = []) ∧ δ = DU c ms size x4 x5 none)
    (fun v δ => FirstI c ms size ms.length v ∧ ∃ x4 x5 x6, δ = DU c ms size x4 x5 x6)
    (fun k d δ hd hI => by
      obtain ⟨x4, x5, n4, n5, hno, rfl⟩ := hI
      obtain ⟨hk, rfl⟩ := rng_get hd
      refine ⟨DU c ms size (some (.val (.int k))) x5 none, by simp [nmG, setSl_s, setSl_x (nv_nb n4)], ?_⟩
      have hin := loop_ret (t := nmG 5) (g := inner58) (ds := (List.range c).map fun i => D.int ((0 : Int) + (i : Nat)))
        (fun j δ => ∃ x5, nv x5 = true ∧ (∀ i, i < j → ¬ size < (lagsAt c ms (k + 1)).getD i 0) ∧ δ = DU c ms size (some (.val (.int k))) x5 none)
        (fun v δ => FirstI c ms size ms.length v ∧ ∃ x4 x5 x6, δ = DU c ms size x4 x5 x6)
        (fun j d δ hd hI => by
          obtain ⟨x5, n5, hnj, rfl⟩ := hI
          obtain ⟨hj, rfl⟩ := rng_get hd
          have hjl : j < (lagsAt c ms (k + 1)).length := by rw [lagsAt_len]; exact hj
          refine ⟨DU c ms size (some (.val (.int k))) (some (.val (.int j))) none, by simp [nmG, setSl_s, setSl_x (nv_nb n5)], ?_⟩
          by_cases hit : size < (lagsAt c ms (k + 1)).getD j 0
          · obtain ⟨x6, e⟩ := hit_ok (x6 := none) h hk hj rfl hit
            refine .inr ⟨_, _, e, ?_, _, _, _, rfl⟩
            obtain ⟨r, er⟩ := over_head hjl hit hnj
            refine .inr ⟨k, j, r, hk, hno, er, ?_⟩
            rw [lasts_stop hj, lastS_hit (not_may hs hk hj hit)]
          · refine .inl ⟨_, e_if_f (e_tst (e_op2 (e_op2 (e_op2 rfl rfl (ix_row hk)) rfl (ix_lag hjl)) rfl (by rw [PV.igt_int, decide_eq_false hit]))), some (.val (.int j)), rfl, fun i hi => ?_, rfl⟩
            rcases Nat.lt_or_eq_of_le (Nat.le_of_lt_succ hi) with q | q
            · exact hnj i q
            · rw [q]; exact hit)
        (DU c ms size (some (.val (.int k))) x5 none) ⟨x5, n5, fun i hi => absurd hi (by omega), rfl⟩
      have ef : forS (rng1 (valA (var 0) noA)) (nmG 5) inner58 (DU c ms size (some (.val (.int k))) x5 none) = loopF (nmG 5) inner58 ((List.range c).map fun i => D.int ((0 : Int) + (i : Nat))) (DU c ms size (some (.val (.int k))) x5 none) := by
        have := e_for (tg := nmG 5) (g := inner58) (e_rng1 (ra := valA (var 0) noA) (δ := DU c ms size (some (.val (.int k))) x5 none) (j := (c : Int)) rfl (by omega) (by omega))
        rw [Int.toNat_natCast] at this
        exact this
      rcases hin with ⟨δ', e, x5', n5', hnj, rfl⟩ | ⟨v, δ', e, hv⟩
      · refine .inl ⟨_, Eq.trans ef e, some (.val (.int k)), x5', rfl, n5', fun k' hk' => ?_, rfl⟩
        rcases Nat.lt_or_eq_of_le (Nat.le_of_lt_succ hk') with q | q
        · exact hno k' q
        · rw [q]
          refine over_nil fun j hj => hnj j ?_
          rw [lagsAt_len] at hj
          simpa using hj
      · exact .inr ⟨v, δ', Eq.trans ef e, hv⟩)
    (DU c ms size none none none) ⟨none, none, rfl, rfl, fun k' hk' => absurd hk' (by omega), rfl⟩
  have e0 : setS 3 (callF ph_worst (valA (var 0) (valA (var 1) (valA (ofN (lrg1 (callB lenD (valA (var 1) noA)))) noA)))) [some (.val (.int c)), some (.val (dayD ms)), some (.val (.int size)), none, none, none, none, none] = .nx (DU c ms size none none none) :=
    e_set (e_callF (as := [.val (.int c), .val (dayD ms), .val (.lst (((List.range ms.length).map fun i => ((i : Nat) : Int)).map D.int))]) (e_valA rfl (e_valA rfl (e_valA (e_ofN (e_lrg1 (elen _ rfl) (by omega))) rfl))) .nil rfl hw) rfl
  have ef : forS (rng1 (valA (callB lenD (valA (var 1) noA)) noA)) (nmG 4) (forS (rng1 (valA (var 0) noA)) (nmG 5) inner58) (DU c ms size none none none) = loopF (nmG 4) (forS (rng1 (valA (var 0) noA)) (nmG 5) inner58) ((List.range ms.length).map fun i => D.int ((0 : Int) + (i : Nat))) (DU c ms size none none none) := by
    have := e_for (tg := nmG 4) (g := forS (rng1 (valA (var 0) noA)) (nmG 5) inner58) (e_rng1 (ra := valA (callB lenD (valA (var 1) noA)) noA) (δ := DU c ms size none none none) (j := (ms.length : Int)) (e_valA (elen _ rfl) rfl) (by omega) (by omega))
    rw [Int.toNat_natCast] at this
    exact this
  rcases hloop with ⟨δ', e, x4, x5, n4, n5, hno, rfl⟩ | ⟨v, δ', e, hv, x4, x5, x6, rfl⟩
  · rw [List.length_map, List.length_range] at hno
    refine ⟨.non, .inl ⟨rfl, hno⟩, ?_⟩
    refine e_fn (δ1 := DU c ms size x4 x5 none) rfl ?_
    exact Eq.trans (e_then e0) (Eq.trans (e_then (Eq.trans ef e)) (e_ret rfl))
  · refine ⟨v, hv, ?_⟩
    refine e_fn (δ1 := DU c ms size x4 x5 x6) rfl ?_
    refine Eq.trans (e_then e0) ?_
    exact then_ret (Eq.trans ef e)

theorem most_mono {c : Nat} {ms : List Mo} {a : Nat} : ∀ b : Nat, a ≤ b → mostAt c ms a ≤ mostAt c ms b
  | 0, h => by rw [Nat.le_zero.mp h]; exact Int.le_refl _
  | b + 1, h => by
    rcases Nat.lt_or_eq_of_le h with q | q
    · have := most_mono (c := c) (ms := ms) (a := a) b (by omega)
      show _ ≤ max (mostAt c ms b) _
      omega
    · rw [q]; exact Int.le_refl _
theorem over_mem {room : Int} {l : List Int} {j : Nat} {r : List Int} (h : overAt room l = (j : Int) :: r) : j < l.length ∧ room < l.getD j 0 := by
  have ha : (j : Int) ∈ overAt room l := by rw [h]; exact List.mem_cons_self
  unfold overAt at ha
  obtain ⟨i, hi, e⟩ := List.mem_map.mp ha
  have e : i = j := by omega
  subst e
  obtain ⟨h1, h2⟩ := List.mem_filter.mp hi
  exact ⟨List.mem_range.mp h1, of_decide_eq_true h2⟩
theorem none_iff {c : Nat} {ms : List Mo} {s : Int} {v : D} (h1 : 1 ≤ c) (hs : 0 ≤ s) (h : FirstI c ms s ms.length v) : v.isN = decide (mostAt c ms ms.length ≤ s) := by
  rcases h with ⟨rfl, hno⟩ | ⟨k, j, r, hk, _, ho, rfl⟩
  · have key : ∀ k, k ≤ ms.length → mostAt c ms k ≤ s := by
      intro k
      induction k with
      | zero => intro _; exact hs
      | succ k ih =>
        intro hk
        have a := ih (by omega)
        have b := maxI_le (lagsAt_ne (ms := ms) (k := k + 1) h1) (b := s) fun x hx => nil_over (hno k (by omega)) hx
        show max (mostAt c ms k) _ ≤ s
        omega
    rw [decide_eq_true (key _ (Nat.le_refl _))]; rfl
  · obtain ⟨hj, hr⟩ := over_mem ho
    have hm : (lagsAt c ms (k + 1)).getD j 0 ∈ lagsAt c ms (k + 1) := by
      rw [show (lagsAt c ms (k + 1)).getD j 0 = (lagsAt c ms (k + 1))[j] by simp [hj]]; exact List.getElem_mem hj
    have a := le_maxI hm
    have b := most_mono (c := c) (ms := ms) (a := k + 1) ms.length (by omega)
    have d : maxI (lagsAt c ms (k + 1)) ≤ mostAt c ms (k + 1) := by
      show _ ≤ max (mostAt c ms k) (maxI (lagsAt c ms (k + 1)))
      omega
    rw [decide_eq_false (by omega)]; rfl
theorem first_show {c : Nat} {ms : List Mo} {s : Int} {v : D} (h4 : c ≤ 4) (hd : Day c ms) (h : FirstI c ms s ms.length v) : ShowOk 400 60 (.lst [v, v]) := by
  have hv : ShowOk 126 2 v := by
    rcases h with ⟨rfl, hno⟩ | ⟨k, j, r, hk, _, ho, rfl⟩
    · exact ShowOk.non.mono (by decide) (by decide)
    · obtain ⟨hj, hr⟩ := over_mem ho
      rw [lagsAt_len] at hj
      have hb := lastS_bd (ms := ms) (k := k + 1) (j := j)
      have hlen := hd.len
      rw [lasts_stop hj]
      have big : (10 : Nat) ^ 12 = 1000000000000 := by decide
      exact (ShowOk.tup (n := 41) (k := 1) fun d hd => by
        simp only [List.mem_cons, List.not_mem_nil, or_false] at hd
        rcases hd with rfl | rfl | rfl <;> exact ShowOk.int (by omega)).mono (by simp) (by decide)
  exact (ShowOk.lst (n := 126) (k := 2) fun d hd => by
    simp only [List.mem_cons, List.not_mem_nil, or_false, or_self] at hd
    subst hd; exact hv).mono (by simp) (by decide)
abbrev LX (ns : List Int) (m : MD) (x2 : Option Sl) (c : Nat) (ms : List Mo) (x7 x8 : Option Sl) : DE :=
  [some (.val (.scr ns)), some (.own m), x2, some (.val (.int c)), some (.val (dayD ms)), some (.val (.lst (rowsD c ms ms.length))), some (.val (.int (mostAt c ms ms.length))), x7, x8, none]
noncomputable abbrev last58 : DE → O := (thenS (setS 8 (callF ph_due (valA (var 3) (valA (var 4) (valA (var 7) noA))))) (thenS (ifS (notT (tst (callF ph_same (valA (ofN (lstN (valA (callF ph_p_crowded (valA (var 3) (valA (var 4) (valA (var 7) noA)))) (valA (callF ph_p_crowded (valA (var 3) (valA (var 4) (valA (var 7) noA)))) noA)))) (valA (ofN (lstN (valA (var 8) (valA (var 8) noA)))) noA))))) (retS (cst (.bl false))) skipS) (ifS (tst (op2 neD (op2 isNo (var 8) (cst .non)) (op2 ige (var 7) (var 6)))) (retS (cst (.bl false))) skipS)))
set_option maxHeartbeats 4000000 in
theorem last_ok {ns : List Int} {m : MD} {x2 x8 : Option Sl} {c : Nat} {ms : List Mo} {s : Int} (h1 : 1 ≤ c) (h4 : c ≤ 4) (hd : Day c ms) (hs : 0 ≤ s) (n8 : nv x8 = true) :
    ∃ v, last58 (LX ns m x2 c ms (some (.val (.int s))) x8) = .nx (LX ns m x2 c ms (some (.val (.int s))) (some (.val v))) := by
  obtain ⟨v, hv, e1⟩ := due_ok h1 h4 hd hs
  obtain ⟨f, hf, e2⟩ := crowded_ok h1 h4 hd hs
  have efv := hf.uniq hv
  subst efv
  refine ⟨f, ?_⟩
  have hsame := same_ok (first_show h4 hd hf) (by decide) (by decide)
  have eA : setS 8 (callF ph_due (valA (var 3) (valA (var 4) (valA (var 7) noA)))) (LX ns m x2 c ms (some (.val (.int s))) x8) = .nx (LX ns m x2 c ms (some (.val (.int s))) (some (.val f))) :=
    e_set (e_callF (as := [.val (.int c), .val (dayD ms), .val (.int s)]) rfl .nil rfl e1) (by simp [setSl_s, setSl_x (nv_nb n8), unlend])
  have el : callF ph_p_crowded (valA (var 3) (valA (var 4) (valA (var 7) noA))) (LX ns m x2 c ms (some (.val (.int s))) (some (.val f))) = .ok f (LX ns m x2 c ms (some (.val (.int s))) (some (.val f))) :=
    e_callF (as := [.val (.int c), .val (dayD ms), .val (.int s)]) rfl .nil rfl e2
  refine Eq.trans (e_then eA) (Eq.trans (e_then (δ1 := LX ns m x2 c ms (some (.val (.int s))) (some (.val f))) ?_) ?_)
  · exact e_if_f (e_notT (b := true) (e_tst (e_callF (as := [.val (.lst [f, f]), .val (.lst [f, f])]) (e_valA (e_ofN (e_lstN (ds := [f, f]) (e_valA el (e_valA el rfl)) rfl)) (e_valA (e_ofN (e_lstN (ds := [f, f]) rfl rfl)) rfl)) .nil rfl hsame)))
  · refine e_if_f (e_tst (e_op2 (x := .bl f.isN) (e_op2 rfl rfl rfl) (e_op2 rfl rfl PV.ige_int) ?_))
    rw [none_iff h1 hs hf]
    show (some (decide (decide (mostAt c ms ms.length ≤ s) = decide (mostAt c ms ms.length ≤ s)))).map _ = _
    rw [decide_eq_true rfl]; rfl
abbrev LW (ns : List Int) (m : MD) (x2 x3 x4 x5 x6 x7 x8 : Option Sl) : DE := [some (.val (.scr ns)), some (.own m), x2, x3, x4, x5, x6, x7, x8, none]
noncomputable abbrev body58 : DE → O := (thenS (setS 3 (op2 addA (cst (.int 1)) (callF ph_draw (slotA 1 (valA (cst (.int 4)) noA))))) (thenS (setS 4 (callF ph_day (slotA 1 (valA (var 3) (valA (cst (.int 30)) noA))))) (thenS (setS 5 (callF ph_worst (valA (var 3) (valA (var 4) (valA (ofN (lrg1 (callB lenD (valA (var 4) noA)))) noA))))) (thenS (setS 6 (callB maxLD (valA (op2 addA (ofN (lstN (valA (cst (.int 0)) noA))) (ofN (lcN (seqE (var 5)) (nmG 9) noCond (callB maxLD (valA (var 9) noA)) [9]))) noA))) (forS (seqE (ofN (lstN (valA (var 6) (valA (callB max2D (valA (cst (.int 0)) (valA (op2 isub (var 6) (cst (.int 1))) noA))) (valA (callB max2D (valA (cst (.int 0)) (valA (op2 isub (op2 isub (var 6) (cst (.int 1))) (callF ph_draw (slotA 1 (valA (cst (.int 20)) noA)))) noA))) (valA (op2 idiv (var 6) (cst (.int 2))) (valA (cst (.int 0)) (valA (op2 ipow (cst (.int 10)) (cst (.int 39))) noA))))))))) (nmG 7) last58)))))
set_option maxHeartbeats 4000000 in
theorem body_ok {ns : List Int} {m : MD} {x2 x3 x4 x5 x6 x7 x8 : Option Sl} (hp : IsPen m) (n3 : nv x3 = true) (n4 : nv x4 = true) (n5 : nv x5 = true) (n6 : nv x6 = true) (n7 : nv x7 = true) (n8 : nv x8 = true) :
    ∃ m' y3 y4 y5 y6 y7 y8, IsPen m' ∧ nv y3 = true ∧ nv y4 = true ∧ nv y5 = true ∧ nv y6 = true ∧ nv y7 = true ∧ nv y8 = true ∧ body58 (LW ns m x2 x3 x4 x5 x6 x7 x8) = .nx (LW ns m' x2 y3 y4 y5 y6 y7 y8) := by
  obtain ⟨r, m1, p1, r0, r1, e1⟩ := draw_at (δ := LW ns m x2 x3 x4 x5 x6 x7 x8) (i := 1) (s := .own m) (m := m) (fk := cst (.int 4)) (k := 4) rfl rfl rfl hp (by omega) (by omega)
  obtain ⟨c0, rfl⟩ := Int.eq_ofNat_of_zero_le r0
  obtain ⟨c, hc⟩ : ∃ c : Nat, c = c0 + 1 := ⟨_, rfl⟩
  have h1 : 1 ≤ c := by omega
  have h4 : c ≤ 4 := by omega
  have eA : setS 3 (op2 addA (cst (.int 1)) (callF ph_draw (slotA 1 (valA (cst (.int 4)) noA)))) (LW ns m x2 x3 x4 x5 x6 x7 x8) = .nx (LW ns m1 x2 (some (.val (.int c))) x4 x5 x6 x7 x8) :=
    e_set (e_op2 rfl e1 (show addA (.int 1) (.int c0) = some (.int c) by rw [PV.addA_int]; congr 2; omega)) (by simp [setSl_s, setSl_x (nv_nb n3)]; rfl)
  obtain ⟨ms, m2, p2, hday, e2⟩ := day_ok h1 h4 p1
  have eB : setS 4 (callF ph_day (slotA 1 (valA (var 3) (valA (cst (.int 30)) noA)))) (LW ns m1 x2 (some (.val (.int c))) x4 x5 x6 x7 x8) = .nx (LW ns m2 x2 (some (.val (.int c))) (some (.val (dayD ms))) x5 x6 x7 x8) :=
    e_set (e_callF (as := [.slot 1, .val (.int c), .val (.int 30)]) rfl (by show [1].Nodup; simp) rfl e2) (by simp [setSl_s, setSl_x (nv_nb n4), unlend, mutOf, Sl.mut, Sl.wr])
  have hlen := hday.len
  have hw := worst_ok (ch := (List.range ms.length).map fun i => ((i : Nat) : Int)) h1 h4 hday (fun k hk => List.mem_map.mpr ⟨k, List.mem_range.mpr hk, rfl⟩)
  have er : lrg1 (callB lenD (valA (var 4) noA)) (LW ns m2 x2 (some (.val (.int c))) (some (.val (dayD ms))) x5 x6 x7 x8) = .ok (.lst (((List.range ms.length).map fun i => ((i : Nat) : Int)).map D.int)) (LW ns m2 x2 (some (.val (.int c))) (some (.val (dayD ms))) x5 x6 x7 x8) :=
    e_lrg1 (e_callB (ds := [dayD ms]) rfl rfl (by show some (D.int ((ms.map Mo.d).length : Nat)) = _; rw [List.length_map])) (by omega)
  have eC : setS 5 (callF ph_worst (valA (var 3) (valA (var 4) (valA (ofN (lrg1 (callB lenD (valA (var 4) noA)))) noA)))) (LW ns m2 x2 (some (.val (.int c))) (some (.val (dayD ms))) x5 x6 x7 x8) = .nx (LW ns m2 x2 (some (.val (.int c))) (some (.val (dayD ms))) (some (.val (.lst (rowsD c ms ms.length)))) x6 x7 x8) :=
    e_set (e_callF (e_valA rfl (e_valA rfl (e_valA (e_ofN er) rfl))) .nil rfl hw) (by simp [setSl_s, setSl_x (nv_nb n5), unlend])
  have hlc := lc_map (f := seqE (var 5)) (t := nmG 9) (elt := callB maxLD (valA (var 9) noA)) (vs := [9]) (δ := LW ns m2 x2 (some (.val (.int c))) (some (.val (dayD ms))) (some (.val (.lst (rowsD c ms ms.length)))) x6 x7 x8)
    (δ0 := LW ns m2 x2 (some (.val (.int c))) (some (.val (dayD ms))) (some (.val (.lst (rowsD c ms ms.length)))) x6 x7 x8) (δw := LW ns m2 x2 (some (.val (.int c))) (some (.val (dayD ms))) (some (.val (.lst (rowsD c ms ms.length)))) x6 x7 x8)
    (ds := rowsD c ms ms.length) (fun d => (maxLD [d]).getD .non) rfl rfl (by unfold rowsD LIM; rw [List.length_map, List.length_range]; omega) (fun d hd => by
      unfold rowsD at hd
      obtain ⟨j, hj, rfl⟩ := List.mem_map.mp hd
      refine ⟨[some (.val (.scr ns)), some (.own m2), x2, some (.val (.int c)), some (.val (dayD ms)), some (.val (.lst (rowsD c ms ms.length))), x6, x7, x8, some (.val (.lst ((lagsAt c ms (j + 1)).map D.int)))], _, rfl, e_callB rfl rfl ?_, rfl⟩
      rw [maxLD_ints (lagsAt_ne h1)]; rfl)
  have erows : (rowsD c ms ms.length).map (fun d => (maxLD [d]).getD .non) = ((List.range ms.length).map fun j => maxI (lagsAt c ms (j + 1))).map D.int := by
    unfold rowsD
    rw [List.map_map, List.map_map]
    apply List.map_congr_left
    intro j _
    show (maxLD [.lst ((lagsAt c ms (j + 1)).map D.int)]).getD .non = _
    rw [maxLD_ints (lagsAt_ne h1)]; rfl
  rw [erows] at hlc
  have eD : setS 6 (callB maxLD (valA (op2 addA (ofN (lstN (valA (cst (.int 0)) noA))) (ofN (lcN (seqE (var 5)) (nmG 9) noCond (callB maxLD (valA (var 9) noA)) [9]))) noA)) (LW ns m2 x2 (some (.val (.int c))) (some (.val (dayD ms))) (some (.val (.lst (rowsD c ms ms.length)))) x6 x7 x8) = .nx (LX ns m2 x2 c ms x7 x8) := by
    refine e_set (e_callB (e_valA (e_op2 (x := .lst [.int 0]) rfl (e_ofN hlc) (addA_lst (by rw [List.length_map, List.length_map, List.length_range]; simp [LIM]; omega))) rfl) rfl ?_) (by simp [setSl_s, setSl_x (nv_nb n6), unwipe]; rfl)
    show maxLD [.lst ((0 :: (List.range ms.length).map fun j => maxI (lagsAt c ms (j + 1))).map D.int)] = _
    rw [maxLD_ints (by simp), most_rows]
  have hbd := mostAt_bd h1 hday.ok ms.length (Nat.le_refl _)
  obtain ⟨r3, m3, p3, q0, q1, e3⟩ := draw_at (δ := LX ns m2 x2 c ms x7 x8) (i := 1) (s := .own m2) (m := m2) (fk := cst (.int 20)) (k := 20) rfl rfl rfl p2 (by omega) (by omega)
  let L := mostAt c ms ms.length
  let sizes : List Int := [L, max 0 (L - 1), max 0 (L - 1 - r3), L / 2, 0, 10 ^ 39]
  have hpos : ∀ x ∈ sizes, 0 ≤ x := fun x hx => by
    simp only [sizes, List.mem_cons, List.not_mem_nil, or_false] at hx
    have hL : 0 ≤ L := hbd.1
    rcases hx with rfl | rfl | rfl | rfl | rfl | rfl
    · exact hL
    · omega
    · omega
    · omega
    · omega
    · decide
  have esz : ofN (lstN (valA (var 6) (valA (callB max2D (valA (cst (.int 0)) (valA (op2 isub (var 6) (cst (.int 1))) noA))) (valA (callB max2D (valA (cst (.int 0)) (valA (op2 isub (op2 isub (var 6) (cst (.int 1))) (callF ph_draw (slotA 1 (valA (cst (.int 20)) noA)))) noA))) (valA (op2 idiv (var 6) (cst (.int 2))) (valA (cst (.int 0)) (valA (op2 ipow (cst (.int 10)) (cst (.int 39))) noA))))))) (LX ns m2 x2 c ms x7 x8) = .ok (.lst (sizes.map D.int)) (LX ns m3 x2 c ms x7 x8) :=
    e_ofN (m := .lst (sizes.map D.int)) (e_lstN (as := [.val (.int L), .val (.int (max 0 (L - 1))), .val (.int (max 0 (L - 1 - r3))), .val (.int (L / 2)), .val (.int 0), .val (.int (10 ^ 39))])
      (e_valA rfl (e_valA (e_callB (ds := [.int 0, .int (L - 1)]) rfl rfl max2_eq) (e_valA (e_callB (as := [.val (.int 0), .val (.int (L - 1 - r3))]) (ds := [.int 0, .int (L - 1 - r3)]) (e_valA rfl (e_valA (e_op2 (x := .int (L - 1)) rfl e3 PV.isub_int) rfl)) rfl max2_eq)
        (e_valA (e_op2 rfl rfl (PV.idiv_int (by decide) (by decide))) (e_valA rfl (e_valA (e_op2 rfl rfl (PV.ipow_int (by decide) (by decide) (by decide))) rfl)))))) rfl (by simp [sizes, LIM]))
  have hloop := loop_ok (t := nmG 7) (g := last58) (ds := sizes.map D.int) (fun _ δ => ∃ x7 x8, nv x7 = true ∧ nv x8 = true ∧ δ = LX ns m3 x2 c ms x7 x8)
    (fun k d δ hd hI => by
      obtain ⟨x7, x8, n7, n8, rfl⟩ := hI
      rw [List.getElem?_map] at hd
      obtain ⟨s, hs, rfl⟩ := Option.map_eq_some_iff.mp hd
      obtain ⟨v, e⟩ := last_ok (ns := ns) (m := m3) (x2 := x2) h1 h4 hday (hpos s (List.mem_of_getElem? hs)) n8
      exact ⟨LX ns m3 x2 c ms (some (.val (.int s))) x8, _, by simp [nmG, setSl_s, setSl_x (nv_nb n7)], e, _, _, rfl, rfl, rfl⟩)
    (LX ns m3 x2 c ms x7 x8) ⟨x7, x8, n7, n8, rfl⟩
  obtain ⟨δ', e5, y7, y8, k7, k8, rfl⟩ := hloop
  exact ⟨m3, _, _, _, _, y7, y8, p3, rfl, rfl, rfl, rfl, k7, k8, Eq.trans (e_then eA) (Eq.trans (e_then eB) (Eq.trans (e_then eC) (Eq.trans (e_then eD) (Eq.trans (e_for (e_seq esz)) e5))))⟩
theorem law_true (ns : List Int) (hl : ns.length ≤ 63) : ∃ as', ph_law [.val (.scr ns)] = .ret (.bl true) as' := by
  have hpl := penLoop_ok (i := 1) (ps := pensOf ns 4) (g := forS (rng1 (valA (cst (.int 8)) noA)) (nmG 2) body58)
    (fun δ => ∃ y x2 x3 x4 x5 x6 x7 x8, nb y = true ∧ nv x2 = true ∧ nv x3 = true ∧ nv x4 = true ∧ nv x5 = true ∧ nv x6 = true ∧ nv x7 = true ∧ nv x8 = true ∧ δ = [some (.val (.scr ns)), y, x2, x3, x4, x5, x6, x7, x8, none])
    (fun p δ hp hI => by
      obtain ⟨y, x2, x3, x4, x5, x6, x7, x8, ny, n2, n3, n4, n5, n6, n7, n8, rfl⟩ := hI
      have hloop := loop_ok (t := nmG 2) (g := body58) (ds := (List.range (8 : Int).toNat).map fun i => D.int ((0 : Int) + (i : Nat)))
        (fun _ δ => ∃ m x2 x3 x4 x5 x6 x7 x8, IsPen m ∧ nv x2 = true ∧ nv x3 = true ∧ nv x4 = true ∧ nv x5 = true ∧ nv x6 = true ∧ nv x7 = true ∧ nv x8 = true ∧ δ = LW ns m x2 x3 x4 x5 x6 x7 x8)
        (fun k d δ hd hI => by
          obtain ⟨m, x2, x3, x4, x5, x6, x7, x8, hp, n2, n3, n4, n5, n6, n7, n8, rfl⟩ := hI
          obtain ⟨m', y3, y4, y5, y6, y7, y8, p', k3, k4, k5, k6, k7, k8, e⟩ := body_ok (ns := ns) (x2 := some (.val d)) hp n3 n4 n5 n6 n7 n8
          exact ⟨LW ns m (some (.val d)) x3 x4 x5 x6 x7 x8, _, by simp [nmG, setSl_s, setSl_x (nv_nb n2)], e, m', _, _, _, _, _, _, _, p', rfl, k3, k4, k5, k6, k7, k8, rfl⟩)
        (LW ns (.lst (penD p)) x2 x3 x4 x5 x6 x7 x8) ⟨_, x2, x3, x4, x5, x6, x7, x8, pens_are hp, n2, n3, n4, n5, n6, n7, n8, rfl⟩
      obtain ⟨δ', e5, m', x2', x3', x4', x5', x6', x7', x8', p', k2, k3, k4, k5, k6, k7, k8, rfl⟩ := hloop
      exact ⟨LW ns (.lst (penD p)) x2 x3 x4 x5 x6 x7 x8, _, by simp [setSl_s, setSl_x ny], Eq.trans (e_for (e_rng1 rfl (by decide) (by decide))) e5, some (.own m'), x2', x3', x4', x5', x6', x7', x8', rfl, k2, k3, k4, k5, k6, k7, k8, rfl⟩)
    [some (.val (.scr ns)), none, none, none, none, none, none, none, none, none] ⟨none, none, none, none, none, none, none, none, rfl, rfl, rfl, rfl, rfl, rfl, rfl, rfl, rfl⟩
  obtain ⟨δ', e0, y, x2, x3, x4, x5, x6, x7, x8, ny, n2, n3, n4, n5, n6, n7, n8, rfl⟩ := hpl
  have hfp : forPens 0 4 1 (forS (rng1 (valA (cst (.int 8)) noA)) (nmG 2) body58) [some (.val (.scr ns)), none, none, none, none, none, none, none, none, none] = .nx [some (.val (.scr ns)), y, x2, x3, x4, x5, x6, x7, x8, none] := by
    show (if ns.length ≤ 1000 ∧ (4 : Nat) ≤ 1000 then penLoop 1 _ (pensOf ns 4) _ else .stuck) = _
    rw [if_pos ⟨by omega, by decide⟩, e0]
  exact ⟨_, e_fn rfl (Eq.trans (e_then hfp) (e_ret rfl))⟩
end K58

namespace K58
open PySem PySem.Spec PyProof.Rows L2 PV
abbrev topS (i : Nat) : Stmt := PySem.Challenge.pw_closenews_k58_crowded_days.main.body.getD i (.Pass ⟨0, 0, 0, 0⟩)
abbrev s_p_is_between : Stmt := topS 6
theorem sc_p_is_between : FnScope ["thing", "low", "high"] ["thing", "low", "high"] (defScope s_p_is_between) := ⟨rfl, rfl, rfl, by decide +kernel, rfl, by decide +kernel, by decide +kernel⟩
abbrev s_p_is_moment : Stmt := topS 12
theorem sc_p_is_moment : FnScope ["thing", "clients"] ["thing", "clients"] (defScope s_p_is_moment) := ⟨rfl, rfl, rfl, by decide +kernel, rfl, by decide +kernel, by decide +kernel⟩
abbrev s_p_need_day : Stmt := topS 13
theorem sc_p_need_day : FnScope ["clients", "day", "one"] ["clients", "day"] (defScope s_p_need_day) := ⟨rfl, rfl, rfl, by decide +kernel, rfl, by decide +kernel, by decide +kernel⟩
abbrev s_p_need_room : Stmt := topS 14
theorem sc_p_need_room : FnScope ["room"] ["room"] (defScope s_p_need_room) := ⟨rfl, rfl, rfl, by decide +kernel, rfl, by decide +kernel, by decide +kernel⟩
abbrev s_p_longest : Stmt := topS 15
theorem sc_p_longest : FnScope ["clients", "day", "room", "lags", "lasts", "most", "first", "at", "moment", "over", "lag", "client"] ["clients", "day", "room"] (defScope s_p_longest) := ⟨rfl, rfl, rfl, by decide +kernel, rfl, by decide +kernel, by decide +kernel⟩
abbrev s_p_crowded : Stmt := topS 16
theorem sc_p_crowded : FnScope ["clients", "day", "room"] ["clients", "day", "room"] (defScope s_p_crowded) := ⟨rfl, rfl, rfl, by decide +kernel, rfl, by decide +kernel, by decide +kernel⟩
abbrev s_worst : Stmt := topS 18
theorem sc_worst : FnScope ["_law_clients", "_law_day_here", "_law_chosen", "_law_lags", "_law_found", "_law_at", "_law_moment", "_law_lag", "_law_client"] ["_law_clients", "_law_day_here", "_law_chosen"] (defScope s_worst) := ⟨rfl, rfl, rfl, by decide +kernel, rfl, by decide +kernel, by decide +kernel⟩
abbrev s_rest : Stmt := topS 19
theorem sc_rest : FnScope ["_law_number", "_law_by"] ["_law_number", "_law_by"] (defScope s_rest) := ⟨rfl, rfl, rfl, by decide +kernel, rfl, by decide +kernel, by decide +kernel⟩
abbrev s_pen : Stmt := topS 20
theorem sc_pen : FnScope ["_law_cell"] ["_law_cell"] (defScope s_pen) := ⟨rfl, rfl, rfl, by decide +kernel, rfl, by decide +kernel, by decide +kernel⟩
abbrev s_cell_at : Stmt := topS 21
theorem sc_cell_at : FnScope ["_law_script", "_law_k"] ["_law_script", "_law_k"] (defScope s_cell_at) := ⟨rfl, rfl, rfl, by decide +kernel, rfl, by decide +kernel, by decide +kernel⟩
abbrev s_pens : Stmt := topS 22
theorem sc_pens : FnScope ["_law_script", "_law_many", "_law_k"] ["_law_script", "_law_many"] (defScope s_pens) := ⟨rfl, rfl, rfl, by decide +kernel, rfl, by decide +kernel, by decide +kernel⟩
abbrev s_draw : Stmt := topS 23
theorem sc_draw : FnScope ["_law_pen_here", "_law_many", "_law_mixed", "_law_found"] ["_law_pen_here", "_law_many"] (defScope s_draw) := ⟨rfl, rfl, rfl, by decide +kernel, rfl, by decide +kernel, by decide +kernel⟩
abbrev s_pick : Stmt := topS 24
theorem sc_pick : FnScope ["_law_pen_here", "_law_some"] ["_law_pen_here", "_law_some"] (defScope s_pick) := ⟨rfl, rfl, rfl, by decide +kernel, rfl, by decide +kernel, by decide +kernel⟩
abbrev s_day : Stmt := topS 25
theorem sc_day : FnScope ["_law_pen_here", "_law_clients", "_law_most", "_law_found", "_law_turn"] ["_law_pen_here", "_law_clients", "_law_most"] (defScope s_day) := ⟨rfl, rfl, rfl, by decide +kernel, rfl, by decide +kernel, by decide +kernel⟩
abbrev s_same : Stmt := topS 26
theorem sc_same : FnScope ["_law_found", "_law_due_here"] ["_law_found", "_law_due_here"] (defScope s_same) := ⟨rfl, rfl, rfl, by decide +kernel, rfl, by decide +kernel, by decide +kernel⟩
abbrev s_due : Stmt := topS 27
theorem sc_due : FnScope ["_law_clients", "_law_day_here", "_law_size", "_law_rows", "_law_at", "_law_client", "_law_stops", "_law_place"] ["_law_clients", "_law_day_here", "_law_size"] (defScope s_due) := ⟨rfl, rfl, rfl, by decide +kernel, rfl, by decide +kernel, by decide +kernel⟩
abbrev s_law : Stmt := topS 28
theorem sc_law : FnScope ["_law_script", "_law_pen_here", "_law_turn", "_law_clients", "_law_day_here", "_law_rows", "_law_least", "_law_size", "_law_due_here", "_law_lags"] ["_law_script"] (defScope s_law) := ⟨rfl, rfl, rfl, by decide +kernel, rfl, by decide +kernel, by decide +kernel⟩
structure Txt (K : PySem.W.Frag) (mg : Str → Option Value) where
  n_all : mg "all" = none
  n_bool : mg "bool" = none
  n_enumerate : mg "enumerate" = none
  n_int : mg "int" = none
  n_isinstance : mg "isinstance" = none
  n_len : mg "len" = none
  n_list : mg "list" = none
  n_max : mg "max" = none
  n_min : mg "min" = none
  n_range : mg "range" = none
  n_repr : mg "repr" = none
  n_str : mg "str" = none
  n_tuple : mg "tuple" = none
  k_MOST_CLIENTS : Tok
  c_MOST_CLIENTS : mg "MOST_CLIENTS" = some (.int 4 k_MOST_CLIENTS)
  k_MOST_MOMENTS : Tok
  c_MOST_MOMENTS : mg "MOST_MOMENTS" = some (.int 30 k_MOST_MOMENTS)
  k_MOST_SENT : Tok
  c_MOST_SENT : mg "MOST_SENT" = some (.int 20 k_MOST_SENT)
  k_MOST_COST : Tok
  c_MOST_COST : mg "MOST_COST" = some (.int 99 k_MOST_COST)
  f_p_is_between : Addr
  d_p_is_between : FuncData
  g_p_is_between : mg "is_between" = some (.ref f_p_is_between)
  t_p_is_between : Fun K "is_between" "is_between" s_p_is_between f_p_is_between d_p_is_between
  b_p_is_between : Binds K d_p_is_between ["thing", "low", "high"] []
  f_p_is_moment : Addr
  d_p_is_moment : FuncData
  g_p_is_moment : mg "is_moment" = some (.ref f_p_is_moment)
  t_p_is_moment : Fun K "is_moment" "is_moment" s_p_is_moment f_p_is_moment d_p_is_moment
  b_p_is_moment : Binds K d_p_is_moment ["thing", "clients"] []
  f_p_need_day : Addr
  d_p_need_day : FuncData
  g_p_need_day : mg "need_day" = some (.ref f_p_need_day)
  t_p_need_day : Fun K "need_day" "need_day" s_p_need_day f_p_need_day d_p_need_day
  b_p_need_day : Binds K d_p_need_day ["clients", "day"] []
  f_p_need_room : Addr
  d_p_need_room : FuncData
  g_p_need_room : mg "need_room" = some (.ref f_p_need_room)
  t_p_need_room : Fun K "need_room" "need_room" s_p_need_room f_p_need_room d_p_need_room
  b_p_need_room : Binds K d_p_need_room ["room"] []
  f_p_longest : Addr
  d_p_longest : FuncData
  g_p_longest : mg "longest" = some (.ref f_p_longest)
  t_p_longest : Fun K "longest" "longest" s_p_longest f_p_longest d_p_longest
  b_p_longest : Binds K d_p_longest ["clients", "day", "room"] []
  f_p_crowded : Addr
  d_p_crowded : FuncData
  g_p_crowded : mg "crowded" = some (.ref f_p_crowded)
  t_p_crowded : Fun K "crowded" "crowded" s_p_crowded f_p_crowded d_p_crowded
  b_p_crowded : Binds K d_p_crowded ["clients", "day", "room"] []
  f_worst : Addr
  d_worst : FuncData
  g_worst : mg "_law_worst" = some (.ref f_worst)
  t_worst : Fun K "_law_worst" "_law_worst" s_worst f_worst d_worst
  b_worst : Binds K d_worst ["_law_clients", "_law_day_here", "_law_chosen"] []
  f_rest : Addr
  d_rest : FuncData
  g_rest : mg "_law_rest" = some (.ref f_rest)
  t_rest : Fun K "_law_rest" "_law_rest" s_rest f_rest d_rest
  b_rest : Binds K d_rest ["_law_number", "_law_by"] []
  f_pen : Addr
  d_pen : FuncData
  g_pen : mg "_law_pen" = some (.ref f_pen)
  t_pen : Fun K "_law_pen" "_law_pen" s_pen f_pen d_pen
  b_pen : Binds K d_pen ["_law_cell"] []
  f_cell_at : Addr
  d_cell_at : FuncData
  g_cell_at : mg "_law_cell_at" = some (.ref f_cell_at)
  t_cell_at : Fun K "_law_cell_at" "_law_cell_at" s_cell_at f_cell_at d_cell_at
  b_cell_at : Binds K d_cell_at ["_law_script", "_law_k"] []
  f_pens : Addr
  d_pens : FuncData
  g_pens : mg "_law_pens" = some (.ref f_pens)
  t_pens : Fun K "_law_pens" "_law_pens" s_pens f_pens d_pens
  b_pens : Binds K d_pens ["_law_script", "_law_many"] []
  f_draw : Addr
  d_draw : FuncData
  g_draw : mg "_law_draw" = some (.ref f_draw)
  t_draw : Fun K "_law_draw" "_law_draw" s_draw f_draw d_draw
  b_draw : Binds K d_draw ["_law_pen_here", "_law_many"] []
  f_pick : Addr
  d_pick : FuncData
  g_pick : mg "_law_pick" = some (.ref f_pick)
  t_pick : Fun K "_law_pick" "_law_pick" s_pick f_pick d_pick
  b_pick : Binds K d_pick ["_law_pen_here", "_law_some"] []
  f_day : Addr
  d_day : FuncData
  g_day : mg "_law_day" = some (.ref f_day)
  t_day : Fun K "_law_day" "_law_day" s_day f_day d_day
  b_day : Binds K d_day ["_law_pen_here", "_law_clients", "_law_most"] []
  f_same : Addr
  d_same : FuncData
  g_same : mg "_law_same" = some (.ref f_same)
  t_same : Fun K "_law_same" "_law_same" s_same f_same d_same
  b_same : Binds K d_same ["_law_found", "_law_due_here"] []
  f_due : Addr
  d_due : FuncData
  g_due : mg "_law_due" = some (.ref f_due)
  t_due : Fun K "_law_due" "_law_due" s_due f_due d_due
  b_due : Binds K d_due ["_law_clients", "_law_day_here", "_law_size"] []
  f_law : Addr
  d_law : FuncData
  g_law : mg "law" = some (.ref f_law)
  t_law : Fun K "law" "law" s_law f_law d_law
  b_law : Binds K d_law ["_law_script"] []
section
variable {P : Program} {w : World} {K : PySem.W.Frag} {mg : Str → Option Value} {base : Heap}
theorem ok_p_is_between (T : Txt K mg) : VOk false P w K mg base 1 T.f_p_is_between T.d_p_is_between ["thing", "low", "high"] ph_p_is_between := PV.Fun.val T.t_p_is_between sc_p_is_between rfl fun cd A outer s H E hr gd tk => (vss_one (vs_ret (ve_and (ve_bf b_isi (by rfl) T.n_isinstance (by decide +kernel) (va_val (ve_var 0) (va_val (ve_bltn (d := .ty "int") (v := .ty "int") (by rfl) T.n_int (by decide +kernel) rfl (fun _ => rfl)) va_nil))) (ve_and (ve_not (ve_bf b_isi (by rfl) T.n_isinstance (by decide +kernel) (va_val (ve_var 0) (va_val (ve_bltn (d := .ty "bool") (v := .ty "bool") (by rfl) T.n_bool (by decide +kernel) rfl (fun _ => rfl)) va_nil)))) (ve_one (ve_chain o_ile o_ile (ve_var 1) (ve_var 0) (ve_var 2)))))))
theorem ok_p_need_room (T : Txt K mg) : VOk false P w K mg base 1 T.f_p_need_room T.d_p_need_room ["room"] ph_p_need_room := PV.Fun.val T.t_p_need_room sc_p_need_room rfl fun cd A outer s H E hr gd tk => (vss_one (vs_if (vt_w (vw_or (vt_not (vt_val (ve_bf b_isi (by rfl) T.n_isinstance (by decide +kernel) (va_val (ve_var 0) (va_val (ve_bltn (d := .ty "int") (v := .ty "int") (by rfl) T.n_int (by decide +kernel) rfl (fun _ => rfl)) va_nil))))) (vw_or (vt_val (ve_bf b_isi (by rfl) T.n_isinstance (by decide +kernel) (va_val (ve_var 0) (va_val (ve_bltn (d := .ty "bool") (v := .ty "bool") (by rfl) T.n_bool (by decide +kernel) rfl (fun _ => rfl)) va_nil)))) (vw_or1 (vt_cmp o_ilt (ve_var 0) ve_int (nomark _)))))) (vss_one vs_never) vss_nil))
theorem ok_p_longest (T : Txt K mg) : VOk false P w K mg base 1 T.f_p_longest T.d_p_longest ["clients", "day", "room"] ph_p_longest := PV.Fun.val T.t_p_longest sc_p_longest rfl fun cd A outer s H E hr gd tk => (vss_cons (vs_own (i := 3) sc_p_longest.nd rfl (by first | exact Or.inl rfl | exact Or.inr rfl) (vn_mul (ve_new (vn_lst (va_val ve_int va_nil))) (ve_var 0))) (vss_cons (vs_own (i := 4) sc_p_longest.nd rfl (by first | exact Or.inl rfl | exact Or.inr rfl) (vn_mul (ve_new (vn_lst (va_val (ve_neg ve_int) va_nil))) (ve_var 0))) (vss_cons (vs_set (i := 5) sc_p_longest.nd rfl (by first | exact Or.inl rfl | exact Or.inr rfl) ve_int) (vss_cons (vs_set (i := 6) sc_p_longest.nd rfl (by first | exact Or.inl rfl | exact Or.inr rfl) ve_non) (vss_cons (vs_for (passes_of rfl) rfl (vi_enum (by rfl) T.n_enumerate (va_val (ve_var 1) va_nil)) (vg_tup (n := 2) rfl (vgs_cons (vg_name (i := 7) sc_p_longest.nd rfl (by first | exact Or.inl rfl | exact Or.inr rfl)) (vgs_cons (vg_name (i := 8) sc_p_longest.nd rfl (by first | exact Or.inl rfl | exact Or.inr rfl)) vgs_nil))) (vss_cons (vs_if (vt_cmp (o_eq hr.units) (ve_ix (ve_var 8) ve_int (fun _ _ => rfl)) ve_str (nomark _)) (vss_cons (vs_put 3 ve_int (ve_ix (ve_var 8) ve_int (fun _ _ => rfl))) (vss_one (vs_put 4 (ve_var 7) (ve_ix (ve_var 8) ve_int (fun _ _ => rfl))))) (vss_one (vs_ownLc (i := 3) (own := [("lag", 10)]) rfl sc_p_longest.nd rfl rfl (sw_true rfl rfl rfl (by decide +kernel)) (vi_seq (ve_var 3)) (blkOk_by (N := ["clients", "day", "room", "lags", "lasts", "most", "first", "at", "moment", "over", "lag", "client"]) (sc := defScope s_p_longest) (by decide +kernel)) (by decide) (fun _ _ _ _ _ => (vg_name (i := 10) sc_p_longest.nd rfl (by first | exact Or.inl rfl | exact Or.inr rfl))) (fun _ _ _ _ _ => vts_nil) (fun _ _ _ _ _ => (ve_op o_add (ve_var 10) (ve_ix (ve_var 8) ve_int (fun _ _ => rfl))))))) (vss_cons (vs_set (i := 5) sc_p_longest.nd rfl (by first | exact Or.inl rfl | exact Or.inr rfl) (ve_bf (b_max2 rfl) (by rfl) T.n_max (by decide +kernel) (va_val (ve_var 5) (va_val (ve_bf (b_maxL rfl) (by rfl) T.n_max (by decide +kernel) (va_slot 3 va_nil)) va_nil)))) (vss_cons (vs_setLcT 3 (i := 9) (own := [("client", 11), ("lag", 10)]) rfl sc_p_longest.nd rfl rfl (sw_true rfl rfl rfl (by decide +kernel)) (vi_enum (by rfl) T.n_enumerate (va_val (ve_var 3) va_nil)) (blkOk_by (N := ["clients", "day", "room", "lags", "lasts", "most", "first", "at", "moment", "over", "lag", "client"]) (sc := defScope s_p_longest) (by decide +kernel)) (by decide) (fun _ _ _ _ _ => (vg_tup (n := 2) rfl (vgs_cons (vg_name (i := 11) sc_p_longest.nd rfl (by first | exact Or.inl rfl | exact Or.inr rfl)) (vgs_cons (vg_name (i := 10) sc_p_longest.nd rfl (by first | exact Or.inl rfl | exact Or.inr rfl)) vgs_nil)))) (fun _ _ _ _ _ => vts_one (vt_cmp o_igt (ve_var 10) (ve_var 2) (nomark _))) (fun _ _ _ _ _ => (ve_var 11))) (vss_one (vs_if (vt_w (vw_and (vt_cmp o_isN (ve_var 6) ve_non (nomark _)) (vw_and1 (vt_cmp (o_ne hr.units) (ve_var 9) (ve_new (vn_lst va_nil)) (nomark _))))) (vss_one (vs_set (i := 6) sc_p_longest.nd rfl (by first | exact Or.inl rfl | exact Or.inr rfl) (ve_tup (va_val (ve_ix (ve_var 9) ve_int (fun _ _ => rfl)) (va_val (ve_ixSl 4 (ve_ix (ve_var 9) ve_int (fun _ _ => rfl)) (fun _ _ => rfl)) (va_val (ve_var 7) va_nil)))))) vss_nil)))))) (vss_one (vs_ret (ve_tup (va_val (ve_var 5) (va_val (ve_var 6) va_nil))))))))))
theorem ok_worst (T : Txt K mg) : VOk false P w K mg base 1 T.f_worst T.d_worst ["_law_clients", "_law_day_here", "_law_chosen"] ph_worst := PV.Fun.val T.t_worst sc_worst rfl fun cd A outer s H E hr gd tk => (vss_cons (vs_parVN (i := 3) (j := 4) rfl sc_worst.nd rfl rfl (by decide) rfl rfl (ve_op o_mul (ve_new (vn_lst (va_val ve_int va_nil))) (ve_var 0)) (vn_lst va_nil)) (vss_cons (vs_for (passes_of rfl) rfl (vi_enum (by rfl) T.n_enumerate (va_val (ve_var 1) va_nil)) (vg_tup (n := 2) rfl (vgs_cons (vg_name (i := 5) sc_worst.nd rfl (by first | exact Or.inl rfl | exact Or.inr rfl)) (vgs_cons (vg_name (i := 6) sc_worst.nd rfl (by first | exact Or.inl rfl | exact Or.inr rfl)) vgs_nil))) (vss_cons (vs_if (vt_cmp (o_eq hr.units) (ve_ix (ve_var 6) ve_int (fun _ _ => rfl)) ve_str (nomark _)) (vss_one (vs_setLc (i := 3) (own := [("_law_lag", 7)]) rfl sc_worst.nd rfl rfl (sw_true rfl rfl rfl (by decide +kernel)) (vi_seq (ve_var 3)) (blkOk_by (N := ["_law_clients", "_law_day_here", "_law_chosen", "_law_lags", "_law_found", "_law_at", "_law_moment", "_law_lag", "_law_client"]) (sc := defScope s_worst) (by decide +kernel)) (by decide) (fun _ _ _ _ _ => (vg_name (i := 7) sc_worst.nd rfl (by first | exact Or.inl rfl | exact Or.inr rfl))) (fun _ _ _ _ _ => vts_nil) (fun _ _ _ _ _ => (ve_op o_add (ve_var 7) (ve_ix (ve_var 6) ve_int (fun _ _ => rfl)))))) (vss_one (vs_if (vt_cmp o_in (ve_var 5) (ve_var 2) (by rfl)) (vss_one (vs_setLc (i := 3) (own := [("_law_client", 8), ("_law_lag", 7)]) rfl sc_worst.nd rfl rfl (sw_true rfl rfl rfl (by decide +kernel)) (vi_enum (by rfl) T.n_enumerate (va_val (ve_var 3) va_nil)) (blkOk_by (N := ["_law_clients", "_law_day_here", "_law_chosen", "_law_lags", "_law_found", "_law_at", "_law_moment", "_law_lag", "_law_client"]) (sc := defScope s_worst) (by decide +kernel)) (by decide) (fun _ _ _ _ _ => (vg_tup (n := 2) rfl (vgs_cons (vg_name (i := 8) sc_worst.nd rfl (by first | exact Or.inl rfl | exact Or.inr rfl)) (vgs_cons (vg_name (i := 7) sc_worst.nd rfl (by first | exact Or.inl rfl | exact Or.inr rfl)) vgs_nil)))) (fun _ _ _ _ _ => vts_nil) (fun _ _ _ _ _ => (ve_if (vt_cmp (o_eq hr.units) (ve_var 8) (ve_ix (ve_var 6) ve_int (fun _ _ => rfl)) (nomark _)) ve_int (ve_var 7))))) vss_nil))) (vss_one (vs_append 4 (ve_var 3))))) (vss_one (vs_ret (ve_var 4)))))
theorem ok_rest (T : Txt K mg) : VOk false P w K mg base 1 T.f_rest T.d_rest ["_law_number", "_law_by"] ph_rest := PV.Fun.val T.t_rest sc_rest rfl fun cd A outer s H E hr gd tk => (vss_one (vs_ret (ve_op o_isub (ve_var 0) (ve_op o_mul (ve_op o_idiv (ve_var 0) (ve_var 1)) (ve_var 1)))))
theorem ok_cell_at (T : Txt K mg) : VOk false P w K mg base 1 T.f_cell_at T.d_cell_at ["_law_script", "_law_k"] ph_cell_at := PV.Fun.val T.t_cell_at sc_cell_at rfl fun cd A outer s H E hr gd tk => (vss_cons (vs_if (vt_cmp o_ilt (ve_var 1) (ve_bf b_len (by rfl) T.n_len (by decide +kernel) (va_val (ve_var 0) va_nil)) (nomark _)) (vss_one (vs_ret (ve_ix (ve_var 0) (ve_var 1) (fun _ _ => rfl)))) vss_nil) (vss_one (vs_ret ve_int)))
theorem ok_same (T : Txt K mg) : VOk true P w K mg base 1 T.f_same T.d_same ["_law_found", "_law_due_here"] ph_same := PV.Fun.val T.t_same sc_same rfl fun cd A outer s H E hr gd tk => (vss_one (vs_ret (ve_cmp (o_eq hr.units) (ve_bf (b_repr hr.units (gd rfl)) (by rfl) T.n_repr (by decide +kernel) (va_val (ve_var 0) va_nil)) (ve_bf (b_repr hr.units (gd rfl)) (by rfl) T.n_repr (by decide +kernel) (va_val (ve_var 1) va_nil)) (nomark _))))
theorem ok_p_is_moment (T : Txt K mg) : VOk false P w K mg base 2 T.f_p_is_moment T.d_p_is_moment ["thing", "clients"] ph_p_is_moment := PV.Fun.val T.t_p_is_moment sc_p_is_moment rfl fun cd A outer s H E hr gd tk => (vss_cons (vs_if (vt_w (vw_or (vt_not (vt_val (ve_bf b_isi (by rfl) T.n_isinstance (by decide +kernel) (va_val (ve_var 0) (va_val (ve_bltn (d := .ty "tuple") (v := .ty "tuple") (by rfl) T.n_tuple (by decide +kernel) rfl (fun _ => rfl)) va_nil))))) (vw_or (vt_cmp o_notIn (ve_bf b_len (by rfl) T.n_len (by decide +kernel) (va_val (ve_var 0) va_nil)) (ve_tup (va_val ve_int (va_val ve_int va_nil))) (by rfl)) (vw_or1 (vt_not (vt_val (ve_bf b_isi (by rfl) T.n_isinstance (by decide +kernel) (va_val (ve_ix (ve_var 0) ve_int (fun _ _ => rfl)) (va_val (ve_bltn (d := .ty "str") (v := .ty "str") (by rfl) T.n_str (by decide +kernel) rfl (fun _ => rfl)) va_nil))))))))) (vss_one (vs_ret ve_bl)) vss_nil) (vss_cons (vs_if (vt_cmp (o_eq hr.units) (ve_bf b_len (by rfl) T.n_len (by decide +kernel) (va_val (ve_var 0) va_nil)) ve_int (nomark _)) (vss_one (vs_ret (ve_and (ve_cmp (o_eq hr.units) (ve_ix (ve_var 0) ve_int (fun _ _ => rfl)) ve_str (nomark _)) (ve_one (ve_call (ok_p_is_between T) (hr.mono (by decide)) (fun z => absurd z Bool.false_ne_true) tk (by rfl) T.g_p_is_between T.t_p_is_between.kp T.b_p_is_between (va_val (ve_ix (ve_var 0) ve_int (fun _ _ => rfl)) (va_val ve_int (va_val (ve_glob (d := (.int 20)) (v := (.int 20)) (by rfl) T.c_MOST_SENT ⟨_, rfl⟩ (fun _ => rfl)) va_nil)))))))) vss_nil) (vss_one (vs_ret (ve_and (ve_cmp (o_eq hr.units) (ve_ix (ve_var 0) ve_int (fun _ _ => rfl)) ve_str (nomark _)) (ve_and (ve_call (ok_p_is_between T) (hr.mono (by decide)) (fun z => absurd z Bool.false_ne_true) tk (by rfl) T.g_p_is_between T.t_p_is_between.kp T.b_p_is_between (va_val (ve_ix (ve_var 0) ve_int (fun _ _ => rfl)) (va_val ve_int (va_val (ve_op o_isub (ve_var 1) ve_int) va_nil)))) (ve_one (ve_call (ok_p_is_between T) (hr.mono (by decide)) (fun z => absurd z Bool.false_ne_true) tk (by rfl) T.g_p_is_between T.t_p_is_between.kp T.b_p_is_between (va_val (ve_ix (ve_var 0) ve_int (fun _ _ => rfl)) (va_val ve_int (va_val (ve_glob (d := (.int 99)) (v := (.int 99)) (by rfl) T.c_MOST_COST ⟨_, rfl⟩ (fun _ => rfl)) va_nil)))))))))))
theorem ok_pen (T : Txt K mg) : FnOk P w K mg base (L2.CX P w) 2 T.f_pen T.d_pen ["_law_cell"] (spNew K 1 1 F_pen) := PV.Fun.new T.t_pen sc_pen rfl fun cd A outer s H E hr tk => ⟨_, _, rfl, (vn_lst (va_val (ve_bf (b_max2 rfl) (by rfl) T.n_max (by decide +kernel) (va_val ve_int (va_val (ve_op o_isub (ve_var 0) (ve_op o_ipow ve_int ve_int)) va_nil))) (va_val (ve_op o_add (ve_call (ok_rest T) (hr.mono (by decide)) (fun z => absurd z Bool.false_ne_true) tk (by rfl) T.g_rest T.t_rest.kp T.b_rest (va_val (ve_var 0) (va_val ve_int va_nil))) ve_int) (va_val ve_int va_nil))))⟩
theorem ok_draw (T : Txt K mg) : VOk false P w K mg base 2 T.f_draw T.d_draw ["_law_pen_here", "_law_many"] ph_draw := PV.Fun.val T.t_draw sc_draw rfl fun cd A outer s H E hr gd tk => (vss_cons (vs_if (vt_cmp o_igt (ve_ixSl 0 ve_int (fun _ _ => rfl)) ve_int (nomark _)) (vss_cons (vs_set (i := 3) sc_draw.nd rfl (by first | exact Or.inl rfl | exact Or.inr rfl) (ve_call (ok_rest T) (hr.mono (by decide)) (fun z => absurd z Bool.false_ne_true) tk (by rfl) T.g_rest T.t_rest.kp T.b_rest (va_val (ve_ixSl 0 ve_int (fun _ _ => rfl)) (va_val (ve_var 1) va_nil)))) (vss_cons (vs_put 0 (ve_op o_idiv (ve_ixSl 0 ve_int (fun _ _ => rfl)) (ve_var 1)) ve_int) (vss_one (vs_ret (ve_var 3))))) vss_nil) (vss_cons (vs_put 0 (ve_op o_add (ve_ixSl 0 ve_int (fun _ _ => rfl)) ve_int) ve_int) (vss_cons (vs_put 0 (ve_call (ok_rest T) (hr.mono (by decide)) (fun z => absurd z Bool.false_ne_true) tk (by rfl) T.g_rest T.t_rest.kp T.b_rest (va_val (ve_op o_add (ve_op o_add (ve_op o_mul (ve_ixSl 0 ve_int (fun _ _ => rfl)) ve_int) (ve_op o_mul ve_int (ve_ixSl 0 ve_int (fun _ _ => rfl)))) ve_int) (va_val ve_int va_nil))) ve_int) (vss_cons (vs_set (i := 2) sc_draw.nd rfl (by first | exact Or.inl rfl | exact Or.inr rfl) (ve_call (ok_rest T) (hr.mono (by decide)) (fun z => absurd z Bool.false_ne_true) tk (by rfl) T.g_rest T.t_rest.kp T.b_rest (va_val (ve_op o_add (ve_op o_add (ve_op o_mul (ve_ixSl 0 ve_int (fun _ _ => rfl)) (ve_ixSl 0 ve_int (fun _ _ => rfl))) (ve_op o_mul ve_int (ve_ixSl 0 ve_int (fun _ _ => rfl)))) ve_int) (va_val ve_int va_nil)))) (vss_cons (vs_set (i := 2) sc_draw.nd rfl (by first | exact Or.inl rfl | exact Or.inr rfl) (ve_call (ok_rest T) (hr.mono (by decide)) (fun z => absurd z Bool.false_ne_true) tk (by rfl) T.g_rest T.t_rest.kp T.b_rest (va_val (ve_op o_add (ve_op o_mul (ve_var 2) (ve_var 2)) (ve_op o_mul ve_int (ve_var 2))) (va_val ve_int va_nil)))) (vss_one (vs_ret (ve_call (ok_rest T) (hr.mono (by decide)) (fun z => absurd z Bool.false_ne_true) tk (by rfl) T.g_rest T.t_rest.kp T.b_rest (va_val (ve_op o_idiv (ve_var 2) ve_int) (va_val (ve_var 1) va_nil))))))))))
theorem ok_due (T : Txt K mg) : VOk false P w K mg base 2 T.f_due T.d_due ["_law_clients", "_law_day_here", "_law_size"] ph_due := PV.Fun.val T.t_due sc_due rfl fun cd A outer s H E hr gd tk => (vss_cons (vs_set (i := 3) sc_due.nd rfl (by first | exact Or.inl rfl | exact Or.inr rfl) (ve_call (ok_worst T) (hr.mono (by decide)) (fun z => absurd z Bool.false_ne_true) tk (by rfl) T.g_worst T.t_worst.kp T.b_worst (va_val (ve_var 0) (va_val (ve_var 1) (va_val (ve_new (vn_lrg1 rfl (by rfl) T.n_list (by rfl) T.n_range (ve_bf b_len (by rfl) T.n_len (by decide +kernel) (va_val (ve_var 1) va_nil)))) va_nil))))) (vss_cons (vs_for (passes_of rfl) rfl (vi_range1 (by rfl) T.n_range (va_val (ve_bf b_len (by rfl) T.n_len (by decide +kernel) (va_val (ve_var 1) va_nil)) va_nil)) (vg_name (i := 4) sc_due.nd rfl (by first | exact Or.inl rfl | exact Or.inr rfl)) (vss_one (vs_for (passes_of rfl) rfl (vi_range1 (by rfl) T.n_range (va_val (ve_var 0) va_nil)) (vg_name (i := 5) sc_due.nd rfl (by first | exact Or.inl rfl | exact Or.inr rfl)) (vss_one (vs_if (vt_cmp o_igt (ve_ix (ve_ix (ve_var 3) (ve_var 4) (fun _ _ => rfl)) (ve_var 5) (fun _ _ => rfl)) (ve_var 2) (nomark _)) (vss_cons (vs_setLc (i := 6) (own := [("_law_place", 7)]) rfl sc_due.nd rfl rfl (sw_true rfl rfl rfl (by decide +kernel)) (vi_range1 (by rfl) T.n_range (va_val (ve_var 4) va_nil)) (blkOk_by (N := ["_law_clients", "_law_day_here", "_law_size", "_law_rows", "_law_at", "_law_client", "_law_stops", "_law_place"]) (sc := defScope s_due) (by decide +kernel)) (by decide) (fun _ _ _ _ _ => (vg_name (i := 7) sc_due.nd rfl (by first | exact Or.inl rfl | exact Or.inr rfl))) (fun _ _ _ _ _ => vts_one (vt_cmp (o_eq hr.units) (ve_slice (ve_ix (ve_var 1) (ve_var 7) (fun _ _ => rfl)) vo_none (vo_some ve_int)) (ve_tup (va_val ve_str (va_val (ve_var 5) va_nil))) (nomark _))) (fun _ _ _ _ _ => (ve_var 7))) (vss_one (vs_ret (ve_tup (va_val (ve_var 5) (va_val (ve_if (vt_cmp (o_ne hr.units) (ve_var 6) (ve_new (vn_lst va_nil)) (nomark _)) (ve_ix (ve_var 6) (ve_neg ve_int) (fun _ _ => rfl)) (ve_neg ve_int)) (va_val (ve_var 4) va_nil))))))) vss_nil))))) (vss_one (vs_ret ve_non))))
theorem ok_p_need_day (T : Txt K mg) : VOk false P w K mg base 3 T.f_p_need_day T.d_p_need_day ["clients", "day"] ph_p_need_day := PV.Fun.val T.t_p_need_day sc_p_need_day rfl fun cd A outer s H E hr gd tk => (vss_cons (vs_if (vt_not (vt_val (ve_call (ok_p_is_between T) (hr.mono (by decide)) (fun z => absurd z Bool.false_ne_true) tk (by rfl) T.g_p_is_between T.t_p_is_between.kp T.b_p_is_between (va_val (ve_var 0) (va_val ve_int (va_val (ve_glob (d := (.int 4)) (v := (.int 4)) (by rfl) T.c_MOST_CLIENTS ⟨_, rfl⟩ (fun _ => rfl)) va_nil)))))) (vss_one vs_never) vss_nil) (vss_one (vs_if (vt_w (vw_or (vt_not (vt_val (ve_bf b_isi (by rfl) T.n_isinstance (by decide +kernel) (va_val (ve_var 1) (va_val (ve_bltn (d := .ty "tuple") (v := .ty "tuple") (by rfl) T.n_tuple (by decide +kernel) rfl (fun _ => rfl)) va_nil))))) (vw_or (vt_cmp o_igt (ve_bf b_len (by rfl) T.n_len (by decide +kernel) (va_val (ve_var 1) va_nil)) (ve_glob (d := (.int 30)) (v := (.int 30)) (by rfl) T.c_MOST_MOMENTS ⟨_, rfl⟩ (fun _ => rfl)) (nomark _)) (vw_or1 (vt_not (vt_val (ve_bf (b_all rfl) (by rfl) T.n_all (by decide +kernel) (va_val (ve_new (vn_lc (own := [("one", 2)]) rfl sc_p_need_day.nd (vi_seq (ve_var 1)) (blkOk_by (N := ["clients", "day", "one"]) (sc := defScope s_p_need_day) (by decide +kernel)) (by decide) (fun _ _ _ _ _ => (vg_name (i := 2) sc_p_need_day.nd rfl (by first | exact Or.inl rfl | exact Or.inr rfl))) (fun _ _ _ _ _ => vts_nil) (fun _ _ _ _ _ => (ve_call (ok_p_is_moment T) (hr.mono (by decide)) (fun z => absurd z Bool.false_ne_true) takes0 (by rfl) T.g_p_is_moment T.t_p_is_moment.kp T.b_p_is_moment (va_val (ve_var 2) (va_val (ve_var 0) va_nil)))))) va_nil)))))))) (vss_one vs_never) vss_nil)))
theorem ok_pens (T : Txt K mg) : FnOk P w K mg base (L2.CX P w) 3 T.f_pens T.d_pens ["_law_script", "_law_many"] (spPens K) := T.t_pens.okX sc_pens (fun vs H Q E h => by obtain ⟨a, ns, m, rfl, _⟩ := h; rfl) fun cd A outer s H vs Q E hr h =>
  ⟨_, pss_one (ps_ret (pe_lc (own := [("_law_k", 2)]) (g := gName 2) (tt := tYes) rfl sc_pens.nd (pi_range1 rfl T.n_range (pa_cons (show VE _ W0 _ (callB max2D (valA (cst (.int 1)) (valA (callB min2D (valA (callB lenD (valA (var 0) noA)) (valA (var 1) noA))) noA))) from
      ve_bf (b_max2 rfl) (by rfl) T.n_max (by decide +kernel) (va_val ve_int (va_val (ve_bf (b_min2 rfl) (by rfl) T.n_min (by decide +kernel) (va_val (ve_bf b_len (by rfl) T.n_len (by decide +kernel) (va_val (ve_var 0) va_nil)) (va_val (ve_var 1) va_nil))) va_nil))) pa_nil))
      (blkOk_by (N := ["_law_script", "_law_many", "_law_k"]) (sc := defScope s_pens) (by decide +kernel)) (fun _ _ _ _ _ => pg_name (i := 2) sc_pens.nd rfl (by first | exact Or.inl rfl | exact Or.inr rfl)) (fun _ _ _ _ _ => pts_nil)
      (fun _ _ _ _ _ => pe_callS (ok_pen T) (hr.mono (by decide)) (by rfl) T.g_pen T.t_pen.kp T.b_pen (fun σ => passAt takes0 σ) (pa_cons (pe_callS (ok_cell_at T).fn (hr.mono (by decide)) (by rfl) T.g_cell_at T.t_cell_at.kp T.b_cell_at (fun σ => passAt takes0 σ) (pa_cons (pv 0) (pa_cons (pv 2) pa_nil))) pa_nil)))),
    pens_read rfl (fun ns m => by simp [callB, valA, cst, var, noA, R.bind, R.of, peeks, peekA, lenD, min2D, max2D]; split <;> split <;> omega) h⟩

theorem ok_pick (T : Txt K mg) : VOk false P w K mg base 3 T.f_pick T.d_pick ["_law_pen_here", "_law_some"] ph_pick := PV.Fun.val T.t_pick sc_pick rfl fun cd A outer s H E hr gd tk => (vss_one (vs_ret (ve_ix (ve_var 1) (ve_call (ok_draw T) (hr.mono (by decide)) (fun z => absurd z Bool.false_ne_true) tk (by rfl) T.g_draw T.t_draw.kp T.b_draw (va_slot 0 (va_val (ve_bf b_len (by rfl) T.n_len (by decide +kernel) (va_val (ve_var 1) va_nil)) va_nil))) (fun _ _ => rfl))))
theorem ok_p_crowded (T : Txt K mg) : VOk false P w K mg base 4 T.f_p_crowded T.d_p_crowded ["clients", "day", "room"] ph_p_crowded := PV.Fun.val T.t_p_crowded sc_p_crowded rfl fun cd A outer s H E hr gd tk => (vss_cons (vs_expr (ve_call (ok_p_need_day T) (hr.mono (by decide)) (fun z => absurd z Bool.false_ne_true) tk (by rfl) T.g_p_need_day T.t_p_need_day.kp T.b_p_need_day (va_val (ve_var 0) (va_val (ve_var 1) va_nil)))) (vss_cons (vs_expr (ve_call (ok_p_need_room T) (hr.mono (by decide)) (fun z => absurd z Bool.false_ne_true) tk (by rfl) T.g_p_need_room T.t_p_need_room.kp T.b_p_need_room (va_val (ve_var 2) va_nil))) (vss_one (vs_ret (ve_ix (ve_call (ok_p_longest T) (hr.mono (by decide)) (fun z => absurd z Bool.false_ne_true) tk (by rfl) T.g_p_longest T.t_p_longest.kp T.b_p_longest (va_val (ve_var 0) (va_val (ve_var 1) (va_val (ve_var 2) va_nil)))) ve_int (fun _ _ => rfl))))))
theorem ok_day (T : Txt K mg) : VOk false P w K mg base 4 T.f_day T.d_day ["_law_pen_here", "_law_clients", "_law_most"] ph_day := PV.Fun.val T.t_day sc_day rfl fun cd A outer s H E hr gd tk => (vss_cons (vs_own (i := 3) sc_day.nd rfl (by first | exact Or.inl rfl | exact Or.inr rfl) (vn_lst va_nil)) (vss_cons (vs_for (passes_of rfl) rfl (vi_range1 (by rfl) T.n_range (va_val (ve_call (ok_draw T) (hr.mono (by decide)) (fun z => absurd z Bool.false_ne_true) tk (by rfl) T.g_draw T.t_draw.kp T.b_draw (va_slot 0 (va_val (ve_op o_add (ve_var 2) ve_int) va_nil))) va_nil)) (vg_name (i := 4) sc_day.nd rfl (by first | exact Or.inl rfl | exact Or.inr rfl)) (vss_one (vs_if (vt_cmp (o_eq hr.units) (ve_call (ok_draw T) (hr.mono (by decide)) (fun z => absurd z Bool.false_ne_true) tk (by rfl) T.g_draw T.t_draw.kp T.b_draw (va_slot 0 (va_val ve_int va_nil))) ve_int (nomark _)) (vss_one (vs_append 3 (ve_tup (va_val ve_str (va_val (ve_call (ok_pick T) (hr.mono (by decide)) (fun z => absurd z Bool.false_ne_true) tk (by rfl) T.g_pick T.t_pick.kp T.b_pick (va_slot 0 (va_val (ve_new (vn_lst (va_val ve_int (va_val ve_int (va_val ve_int (va_val ve_int (va_val ve_int (va_val ve_int va_nil)))))))) va_nil))) va_nil))))) (vss_one (vs_append 3 (ve_tup (va_val ve_str (va_val (ve_call (ok_draw T) (hr.mono (by decide)) (fun z => absurd z Bool.false_ne_true) tk (by rfl) T.g_draw T.t_draw.kp T.b_draw (va_slot 0 (va_val (ve_var 1) va_nil))) (va_val (ve_call (ok_pick T) (hr.mono (by decide)) (fun z => absurd z Bool.false_ne_true) tk (by rfl) T.g_pick T.t_pick.kp T.b_pick (va_slot 0 (va_val (ve_new (vn_lst (va_val ve_int (va_val ve_int (va_val ve_int (va_val ve_int (va_val ve_int (va_val ve_int va_nil)))))))) va_nil))) va_nil))))))))) (vss_one (vs_ret (ve_bty b_tuple (by rfl) T.n_tuple (by decide +kernel) (va_slot 3 va_nil))))))
theorem ok_law (T : Txt K mg) : VOk true P w K mg base 5 T.f_law T.d_law ["_law_script"] ph_law := PV.Fun.val T.t_law sc_law rfl fun cd A outer s H E hr gd tk => (vss_cons (PS.to (ps_for (passes_of rfl) rfl (pi_list (pe_callS (ok_pens T) (hr.mono (by decide)) (by rfl) T.g_pens T.t_pens.kp T.b_pens (fun σ => passAt tk σ) (pa_cons (pv 0) (pa_cons pe_int pa_nil)))) (pg_name (i := 1) sc_law.nd rfl (by first | exact Or.inl rfl | exact Or.inr rfl)) (vss_one (vs_for (passes_of rfl) rfl (vi_range1 (by rfl) T.n_range (va_val ve_int va_nil)) (vg_name (i := 2) sc_law.nd rfl (by first | exact Or.inl rfl | exact Or.inr rfl)) (vss_cons (vs_set (i := 3) sc_law.nd rfl (by first | exact Or.inl rfl | exact Or.inr rfl) (ve_op o_add ve_int (ve_call (ok_draw T) (hr.mono (by decide)) (fun z => absurd z Bool.false_ne_true) tk (by rfl) T.g_draw T.t_draw.kp T.b_draw (va_slot 1 (va_val ve_int va_nil))))) (vss_cons (vs_set (i := 4) sc_law.nd rfl (by first | exact Or.inl rfl | exact Or.inr rfl) (ve_call (ok_day T) (hr.mono (by decide)) (fun z => absurd z Bool.false_ne_true) tk (by rfl) T.g_day T.t_day.kp T.b_day (va_slot 1 (va_val (ve_var 3) (va_val ve_int va_nil))))) (vss_cons (vs_set (i := 5) sc_law.nd rfl (by first | exact Or.inl rfl | exact Or.inr rfl) (ve_call (ok_worst T) (hr.mono (by decide)) (fun z => absurd z Bool.false_ne_true) tk (by rfl) T.g_worst T.t_worst.kp T.b_worst (va_val (ve_var 3) (va_val (ve_var 4) (va_val (ve_new (vn_lrg1 rfl (by rfl) T.n_list (by rfl) T.n_range (ve_bf b_len (by rfl) T.n_len (by decide +kernel) (va_val (ve_var 4) va_nil)))) va_nil))))) (vss_cons (vs_set (i := 6) sc_law.nd rfl (by first | exact Or.inl rfl | exact Or.inr rfl) (ve_bf (b_maxL rfl) (by rfl) T.n_max (by decide +kernel) (va_val (ve_op o_add (ve_new (vn_lst (va_val ve_int va_nil))) (ve_new (vn_lc (own := [("_law_lags", 9)]) rfl sc_law.nd (vi_seq (ve_var 5)) (blkOk_by (N := ["_law_script", "_law_pen_here", "_law_turn", "_law_clients", "_law_day_here", "_law_rows", "_law_least", "_law_size", "_law_due_here", "_law_lags"]) (sc := defScope s_law) (by decide +kernel)) (by decide) (fun _ _ _ _ _ => (vg_name (i := 9) sc_law.nd rfl (by first | exact Or.inl rfl | exact Or.inr rfl))) (fun _ _ _ _ _ => vts_nil) (fun _ _ _ _ _ => (ve_bf (b_maxL rfl) (by rfl) T.n_max (by decide +kernel) (va_val (ve_var 9) va_nil)))))) va_nil))) (vss_one (vs_for (passes_of rfl) rfl (vi_seq (ve_new (vn_lst (va_val (ve_var 6) (va_val (ve_bf (b_max2 rfl) (by rfl) T.n_max (by decide +kernel) (va_val ve_int (va_val (ve_op o_isub (ve_var 6) ve_int) va_nil))) (va_val (ve_bf (b_max2 rfl) (by rfl) T.n_max (by decide +kernel) (va_val ve_int (va_val (ve_op o_isub (ve_op o_isub (ve_var 6) ve_int) (ve_call (ok_draw T) (hr.mono (by decide)) (fun z => absurd z Bool.false_ne_true) tk (by rfl) T.g_draw T.t_draw.kp T.b_draw (va_slot 1 (va_val ve_int va_nil)))) va_nil))) (va_val (ve_op o_idiv (ve_var 6) ve_int) (va_val ve_int (va_val (ve_op o_ipow ve_int ve_int) va_nil))))))))) (vg_name (i := 7) sc_law.nd rfl (by first | exact Or.inl rfl | exact Or.inr rfl)) (vss_cons (vs_set (i := 8) sc_law.nd rfl (by first | exact Or.inl rfl | exact Or.inr rfl) (ve_call (ok_due T) (hr.mono (by decide)) (fun z => absurd z Bool.false_ne_true) tk (by rfl) T.g_due T.t_due.kp T.b_due (va_val (ve_var 3) (va_val (ve_var 4) (va_val (ve_var 7) va_nil))))) (vss_cons (vs_if (vt_not (vt_val (ve_call (ok_same T) (hr.mono (by decide)) gd tk (by rfl) T.g_same T.t_same.kp T.b_same (va_val (ve_new (vn_lst (va_val (ve_call (ok_p_crowded T) (hr.mono (by decide)) (fun z => absurd z Bool.false_ne_true) tk (by rfl) T.g_p_crowded T.t_p_crowded.kp T.b_p_crowded (va_val (ve_var 3) (va_val (ve_var 4) (va_val (ve_var 7) va_nil)))) (va_val (ve_call (ok_p_crowded T) (hr.mono (by decide)) (fun z => absurd z Bool.false_ne_true) tk (by rfl) T.g_p_crowded T.t_p_crowded.kp T.b_p_crowded (va_val (ve_var 3) (va_val (ve_var 4) (va_val (ve_var 7) va_nil)))) va_nil)))) (va_val (ve_new (vn_lst (va_val (ve_var 8) (va_val (ve_var 8) va_nil)))) va_nil))))) (vss_one (vs_ret ve_bl)) vss_nil) (vss_one (vs_if (vt_cmp (o_ne hr.units) (ve_cmp o_isN (ve_var 8) ve_non (nomark _)) (ve_cmp o_ige (ve_var 7) (ve_var 6) (nomark _)) (nomark _)) (vss_one (vs_ret ve_bl)) vss_nil))))))))))))) fun _ _ _ z => rd_pens z) (vss_one (vs_ret ve_bl)))
end
end K58

namespace K58
open PySem PySem.Spec PyProof.Rows L2 PV
theorem all_mk {l : PySem.W.OpenLaw} {w : World} {K : PySem.W.Frag} {h : Heap} {mg : Str → Option Value} {fa : Addr} (X : K.In h) (G : h.Ns mainGlobals mg) (hfa : mg "law" = some (.ref fa))
    {f0 : Addr} {od0 an0 : Option Addr} {sl0 : Array (Option Value)} {oc0 kV0 dc0 pm0 cd0 ct0 : Value}
    {f1 : Addr} {od1 an1 : Option Addr} {sl1 : Array (Option Value)} {oc1 kV1 dc1 pm1 cd1 ct1 : Value}
    {f2 : Addr} {od2 an2 : Option Addr} {sl2 : Array (Option Value)} {oc2 kV2 dc2 pm2 cd2 ct2 : Value}
    {f3 : Addr} {od3 an3 : Option Addr} {sl3 : Array (Option Value)} {oc3 kV3 dc3 pm3 cd3 ct3 : Value}
    {f4 : Addr} {od4 an4 : Option Addr} {sl4 : Array (Option Value)} {oc4 kV4 dc4 pm4 cd4 ct4 : Value}
    {f5 : Addr} {od5 an5 : Option Addr} {sl5 : Array (Option Value)} {oc5 kV5 dc5 pm5 cd5 ct5 : Value}
    {f6 : Addr} {od6 an6 : Option Addr} {sl6 : Array (Option Value)} {oc6 kV6 dc6 pm6 cd6 ct6 : Value}
    {f7 : Addr} {od7 an7 : Option Addr} {sl7 : Array (Option Value)} {oc7 kV7 dc7 pm7 cd7 ct7 : Value}
    {f8 : Addr} {od8 an8 : Option Addr} {sl8 : Array (Option Value)} {oc8 kV8 dc8 pm8 cd8 ct8 : Value}
    {f9 : Addr} {od9 an9 : Option Addr} {sl9 : Array (Option Value)} {oc9 kV9 dc9 pm9 cd9 ct9 : Value}
    {f10 : Addr} {od10 an10 : Option Addr} {sl10 : Array (Option Value)} {oc10 kV10 dc10 pm10 cd10 ct10 : Value}
    {f11 : Addr} {od11 an11 : Option Addr} {sl11 : Array (Option Value)} {oc11 kV11 dc11 pm11 cd11 ct11 : Value}
    {f12 : Addr} {od12 an12 : Option Addr} {sl12 : Array (Option Value)} {oc12 kV12 dc12 pm12 cd12 ct12 : Value}
    {f13 : Addr} {od13 an13 : Option Addr} {sl13 : Array (Option Value)} {oc13 kV13 dc13 pm13 cd13 ct13 : Value}
    {f14 : Addr} {od14 an14 : Option Addr} {sl14 : Array (Option Value)} {oc14 kV14 dc14 pm14 cd14 ct14 : Value}
    {f15 : Addr} {od15 an15 : Option Addr} {sl15 : Array (Option Value)} {oc15 kV15 dc15 pm15 cd15 ct15 : Value}
    {f16 : Addr} {od16 an16 : Option Addr} {sl16 : Array (Option Value)} {oc16 kV16 dc16 pm16 cd16 ct16 : Value}
    {tk_MOST_CLIENTS : Tok}
    {tk_MOST_MOMENTS : Tok}
    {tk_MOST_SENT : Tok}
    {tk_MOST_COST : Tok}
    (a0 : PySem.W.nsIn K mainGlobals "is_between" = some (some (.ref f0))) (l0 : K.lookup f0 = some ⟨oc0, od0, .func (PySem.W.fnOf "is_between" "is_between" (defArgs s_p_is_between) (defBody s_p_is_between) (defScope s_p_is_between) .none kV0 dc0 pm0 an0 cd0 ct0), sl0⟩) (c0 : PySem.W.codeIn K cd0 "is_between" = true) (k0 : PySem.W.keepIn K (.ref f0) = true)
    (a1 : PySem.W.nsIn K mainGlobals "is_moment" = some (some (.ref f1))) (l1 : K.lookup f1 = some ⟨oc1, od1, .func (PySem.W.fnOf "is_moment" "is_moment" (defArgs s_p_is_moment) (defBody s_p_is_moment) (defScope s_p_is_moment) .none kV1 dc1 pm1 an1 cd1 ct1), sl1⟩) (c1 : PySem.W.codeIn K cd1 "is_moment" = true) (k1 : PySem.W.keepIn K (.ref f1) = true)
    (a2 : PySem.W.nsIn K mainGlobals "need_day" = some (some (.ref f2))) (l2 : K.lookup f2 = some ⟨oc2, od2, .func (PySem.W.fnOf "need_day" "need_day" (defArgs s_p_need_day) (defBody s_p_need_day) (defScope s_p_need_day) .none kV2 dc2 pm2 an2 cd2 ct2), sl2⟩) (c2 : PySem.W.codeIn K cd2 "need_day" = true) (k2 : PySem.W.keepIn K (.ref f2) = true)
    (a3 : PySem.W.nsIn K mainGlobals "need_room" = some (some (.ref f3))) (l3 : K.lookup f3 = some ⟨oc3, od3, .func (PySem.W.fnOf "need_room" "need_room" (defArgs s_p_need_room) (defBody s_p_need_room) (defScope s_p_need_room) .none kV3 dc3 pm3 an3 cd3 ct3), sl3⟩) (c3 : PySem.W.codeIn K cd3 "need_room" = true) (k3 : PySem.W.keepIn K (.ref f3) = true)
    (a4 : PySem.W.nsIn K mainGlobals "longest" = some (some (.ref f4))) (l4 : K.lookup f4 = some ⟨oc4, od4, .func (PySem.W.fnOf "longest" "longest" (defArgs s_p_longest) (defBody s_p_longest) (defScope s_p_longest) .none kV4 dc4 pm4 an4 cd4 ct4), sl4⟩) (c4 : PySem.W.codeIn K cd4 "longest" = true) (k4 : PySem.W.keepIn K (.ref f4) = true)
    (a5 : PySem.W.nsIn K mainGlobals "crowded" = some (some (.ref f5))) (l5 : K.lookup f5 = some ⟨oc5, od5, .func (PySem.W.fnOf "crowded" "crowded" (defArgs s_p_crowded) (defBody s_p_crowded) (defScope s_p_crowded) .none kV5 dc5 pm5 an5 cd5 ct5), sl5⟩) (c5 : PySem.W.codeIn K cd5 "crowded" = true) (k5 : PySem.W.keepIn K (.ref f5) = true)
    (a6 : PySem.W.nsIn K mainGlobals "_law_worst" = some (some (.ref f6))) (l6 : K.lookup f6 = some ⟨oc6, od6, .func (PySem.W.fnOf "_law_worst" "_law_worst" (defArgs s_worst) (defBody s_worst) (defScope s_worst) .none kV6 dc6 pm6 an6 cd6 ct6), sl6⟩) (c6 : PySem.W.codeIn K cd6 "_law_worst" = true) (k6 : PySem.W.keepIn K (.ref f6) = true)
    (a7 : PySem.W.nsIn K mainGlobals "_law_rest" = some (some (.ref f7))) (l7 : K.lookup f7 = some ⟨oc7, od7, .func (PySem.W.fnOf "_law_rest" "_law_rest" (defArgs s_rest) (defBody s_rest) (defScope s_rest) .none kV7 dc7 pm7 an7 cd7 ct7), sl7⟩) (c7 : PySem.W.codeIn K cd7 "_law_rest" = true) (k7 : PySem.W.keepIn K (.ref f7) = true)
    (a8 : PySem.W.nsIn K mainGlobals "_law_pen" = some (some (.ref f8))) (l8 : K.lookup f8 = some ⟨oc8, od8, .func (PySem.W.fnOf "_law_pen" "_law_pen" (defArgs s_pen) (defBody s_pen) (defScope s_pen) .none kV8 dc8 pm8 an8 cd8 ct8), sl8⟩) (c8 : PySem.W.codeIn K cd8 "_law_pen" = true) (k8 : PySem.W.keepIn K (.ref f8) = true)
    (a9 : PySem.W.nsIn K mainGlobals "_law_cell_at" = some (some (.ref f9))) (l9 : K.lookup f9 = some ⟨oc9, od9, .func (PySem.W.fnOf "_law_cell_at" "_law_cell_at" (defArgs s_cell_at) (defBody s_cell_at) (defScope s_cell_at) .none kV9 dc9 pm9 an9 cd9 ct9), sl9⟩) (c9 : PySem.W.codeIn K cd9 "_law_cell_at" = true) (k9 : PySem.W.keepIn K (.ref f9) = true)
    (a10 : PySem.W.nsIn K mainGlobals "_law_pens" = some (some (.ref f10))) (l10 : K.lookup f10 = some ⟨oc10, od10, .func (PySem.W.fnOf "_law_pens" "_law_pens" (defArgs s_pens) (defBody s_pens) (defScope s_pens) .none kV10 dc10 pm10 an10 cd10 ct10), sl10⟩) (c10 : PySem.W.codeIn K cd10 "_law_pens" = true) (k10 : PySem.W.keepIn K (.ref f10) = true)
    (a11 : PySem.W.nsIn K mainGlobals "_law_draw" = some (some (.ref f11))) (l11 : K.lookup f11 = some ⟨oc11, od11, .func (PySem.W.fnOf "_law_draw" "_law_draw" (defArgs s_draw) (defBody s_draw) (defScope s_draw) .none kV11 dc11 pm11 an11 cd11 ct11), sl11⟩) (c11 : PySem.W.codeIn K cd11 "_law_draw" = true) (k11 : PySem.W.keepIn K (.ref f11) = true)
    (a12 : PySem.W.nsIn K mainGlobals "_law_pick" = some (some (.ref f12))) (l12 : K.lookup f12 = some ⟨oc12, od12, .func (PySem.W.fnOf "_law_pick" "_law_pick" (defArgs s_pick) (defBody s_pick) (defScope s_pick) .none kV12 dc12 pm12 an12 cd12 ct12), sl12⟩) (c12 : PySem.W.codeIn K cd12 "_law_pick" = true) (k12 : PySem.W.keepIn K (.ref f12) = true)
    (a13 : PySem.W.nsIn K mainGlobals "_law_day" = some (some (.ref f13))) (l13 : K.lookup f13 = some ⟨oc13, od13, .func (PySem.W.fnOf "_law_day" "_law_day" (defArgs s_day) (defBody s_day) (defScope s_day) .none kV13 dc13 pm13 an13 cd13 ct13), sl13⟩) (c13 : PySem.W.codeIn K cd13 "_law_day" = true) (k13 : PySem.W.keepIn K (.ref f13) = true)
    (a14 : PySem.W.nsIn K mainGlobals "_law_same" = some (some (.ref f14))) (l14 : K.lookup f14 = some ⟨oc14, od14, .func (PySem.W.fnOf "_law_same" "_law_same" (defArgs s_same) (defBody s_same) (defScope s_same) .none kV14 dc14 pm14 an14 cd14 ct14), sl14⟩) (c14 : PySem.W.codeIn K cd14 "_law_same" = true) (k14 : PySem.W.keepIn K (.ref f14) = true)
    (a15 : PySem.W.nsIn K mainGlobals "_law_due" = some (some (.ref f15))) (l15 : K.lookup f15 = some ⟨oc15, od15, .func (PySem.W.fnOf "_law_due" "_law_due" (defArgs s_due) (defBody s_due) (defScope s_due) .none kV15 dc15 pm15 an15 cd15 ct15), sl15⟩) (c15 : PySem.W.codeIn K cd15 "_law_due" = true) (k15 : PySem.W.keepIn K (.ref f15) = true)
    (a16 : PySem.W.nsIn K mainGlobals "law" = some (some (.ref f16))) (l16 : K.lookup f16 = some ⟨oc16, od16, .func (PySem.W.fnOf "law" "law" (defArgs s_law) (defBody s_law) (defScope s_law) .none kV16 dc16 pm16 an16 cd16 ct16), sl16⟩) (c16 : PySem.W.codeIn K cd16 "law" = true) (k16 : PySem.W.keepIn K (.ref f16) = true)
    (q_MOST_CLIENTS : PySem.W.nsIn K mainGlobals "MOST_CLIENTS" = some (some (.int 4 tk_MOST_CLIENTS)))
    (q_MOST_MOMENTS : PySem.W.nsIn K mainGlobals "MOST_MOMENTS" = some (some (.int 30 tk_MOST_MOMENTS)))
    (q_MOST_SENT : PySem.W.nsIn K mainGlobals "MOST_SENT" = some (some (.int 20 tk_MOST_SENT)))
    (q_MOST_COST : PySem.W.nsIn K mainGlobals "MOST_COST" = some (some (.int 99 tk_MOST_COST)))
    (z_all : PySem.W.nsIn K mainGlobals "all" = some none)
    (z_bool : PySem.W.nsIn K mainGlobals "bool" = some none)
    (z_enumerate : PySem.W.nsIn K mainGlobals "enumerate" = some none)
    (z_int : PySem.W.nsIn K mainGlobals "int" = some none)
    (z_isinstance : PySem.W.nsIn K mainGlobals "isinstance" = some none)
    (z_len : PySem.W.nsIn K mainGlobals "len" = some none)
    (z_list : PySem.W.nsIn K mainGlobals "list" = some none)
    (z_max : PySem.W.nsIn K mainGlobals "max" = some none)
    (z_min : PySem.W.nsIn K mainGlobals "min" = some none)
    (z_range : PySem.W.nsIn K mainGlobals "range" = some none)
    (z_repr : PySem.W.nsIn K mainGlobals "repr" = some none)
    (z_str : PySem.W.nsIn K mainGlobals "str" = some none)
    (z_tuple : PySem.W.nsIn K mainGlobals "tuple" = some none) :
    ∃ (fd : FuncData) (φ : List Sl → FR), (∀ (s : Shared) (v : Value), BindsTo s fd ⟨[v], []⟩ [("_law_script", v)]) ∧ (∀ base : Heap, K.In base → base.Ns mainGlobals mg → VOk true l.prog w K mg base 5 fa fd ["_law_script"] φ) ∧ ∀ ns : List Int, ns.length ≤ 63 → ∃ as', φ [.val (.scr ns)] = .ret (.bl true) as' := by
  have e := hfa.symm.trans (PySem.W.mg_of X G a16)
  cases e
  have F0 := fun_mk (st := s_p_is_between) l0 c0 k0
  have F1 := fun_mk (st := s_p_is_moment) l1 c1 k1
  have F2 := fun_mk (st := s_p_need_day) l2 c2 k2
  have F3 := fun_mk (st := s_p_need_room) l3 c3 k3
  have F4 := fun_mk (st := s_p_longest) l4 c4 k4
  have F5 := fun_mk (st := s_p_crowded) l5 c5 k5
  have F6 := fun_mk (st := s_worst) l6 c6 k6
  have F7 := fun_mk (st := s_rest) l7 c7 k7
  have F8 := fun_mk (st := s_pen) l8 c8 k8
  have F9 := fun_mk (st := s_cell_at) l9 c9 k9
  have F10 := fun_mk (st := s_pens) l10 c10 k10
  have F11 := fun_mk (st := s_draw) l11 c11 k11
  have F12 := fun_mk (st := s_pick) l12 c12 k12
  have F13 := fun_mk (st := s_day) l13 c13 k13
  have F14 := fun_mk (st := s_same) l14 c14 k14
  have F15 := fun_mk (st := s_due) l15 c15 k15
  have F16 := fun_mk (st := s_law) l16 c16 k16
  let T : Txt K mg := {
    n_all := PySem.W.mg_none_of X G z_all
    n_bool := PySem.W.mg_none_of X G z_bool
    n_enumerate := PySem.W.mg_none_of X G z_enumerate
    n_int := PySem.W.mg_none_of X G z_int
    n_isinstance := PySem.W.mg_none_of X G z_isinstance
    n_len := PySem.W.mg_none_of X G z_len
    n_list := PySem.W.mg_none_of X G z_list
    n_max := PySem.W.mg_none_of X G z_max
    n_min := PySem.W.mg_none_of X G z_min
    n_range := PySem.W.mg_none_of X G z_range
    n_repr := PySem.W.mg_none_of X G z_repr
    n_str := PySem.W.mg_none_of X G z_str
    n_tuple := PySem.W.mg_none_of X G z_tuple
    k_MOST_CLIENTS := _
    c_MOST_CLIENTS := PySem.W.mg_of X G q_MOST_CLIENTS
    k_MOST_MOMENTS := _
    c_MOST_MOMENTS := PySem.W.mg_of X G q_MOST_MOMENTS
    k_MOST_SENT := _
    c_MOST_SENT := PySem.W.mg_of X G q_MOST_SENT
    k_MOST_COST := _
    c_MOST_COST := PySem.W.mg_of X G q_MOST_COST
    f_p_is_between := _
    d_p_is_between := _
    g_p_is_between := PySem.W.mg_of X G a0
    t_p_is_between := F0
    b_p_is_between := F0.binds (ps := ["thing", "low", "high"]) fun _ _ _ _ _ _ us hl => match us, hl with | [_, _, _], _ => rfl
    f_p_is_moment := _
    d_p_is_moment := _
    g_p_is_moment := PySem.W.mg_of X G a1
    t_p_is_moment := F1
    b_p_is_moment := F1.binds (ps := ["thing", "clients"]) fun _ _ _ _ _ _ us hl => match us, hl with | [_, _], _ => rfl
    f_p_need_day := _
    d_p_need_day := _
    g_p_need_day := PySem.W.mg_of X G a2
    t_p_need_day := F2
    b_p_need_day := F2.binds (ps := ["clients", "day"]) fun _ _ _ _ _ _ us hl => match us, hl with | [_, _], _ => rfl
    f_p_need_room := _
    d_p_need_room := _
    g_p_need_room := PySem.W.mg_of X G a3
    t_p_need_room := F3
    b_p_need_room := F3.binds (ps := ["room"]) fun _ _ _ _ _ _ us hl => match us, hl with | [_], _ => rfl
    f_p_longest := _
    d_p_longest := _
    g_p_longest := PySem.W.mg_of X G a4
    t_p_longest := F4
    b_p_longest := F4.binds (ps := ["clients", "day", "room"]) fun _ _ _ _ _ _ us hl => match us, hl with | [_, _, _], _ => rfl
    f_p_crowded := _
    d_p_crowded := _
    g_p_crowded := PySem.W.mg_of X G a5
    t_p_crowded := F5
    b_p_crowded := F5.binds (ps := ["clients", "day", "room"]) fun _ _ _ _ _ _ us hl => match us, hl with | [_, _, _], _ => rfl
    f_worst := _
    d_worst := _
    g_worst := PySem.W.mg_of X G a6
    t_worst := F6
    b_worst := F6.binds (ps := ["_law_clients", "_law_day_here", "_law_chosen"]) fun _ _ _ _ _ _ us hl => match us, hl with | [_, _, _], _ => rfl
    f_rest := _
    d_rest := _
    g_rest := PySem.W.mg_of X G a7
    t_rest := F7
    b_rest := F7.binds (ps := ["_law_number", "_law_by"]) fun _ _ _ _ _ _ us hl => match us, hl with | [_, _], _ => rfl
    f_pen := _
    d_pen := _
    g_pen := PySem.W.mg_of X G a8
    t_pen := F8
    b_pen := F8.binds (ps := ["_law_cell"]) fun _ _ _ _ _ _ us hl => match us, hl with | [_], _ => rfl
    f_cell_at := _
    d_cell_at := _
    g_cell_at := PySem.W.mg_of X G a9
    t_cell_at := F9
    b_cell_at := F9.binds (ps := ["_law_script", "_law_k"]) fun _ _ _ _ _ _ us hl => match us, hl with | [_, _], _ => rfl
    f_pens := _
    d_pens := _
    g_pens := PySem.W.mg_of X G a10
    t_pens := F10
    b_pens := F10.binds (ps := ["_law_script", "_law_many"]) fun _ _ _ _ _ _ us hl => match us, hl with | [_, _], _ => rfl
    f_draw := _
    d_draw := _
    g_draw := PySem.W.mg_of X G a11
    t_draw := F11
    b_draw := F11.binds (ps := ["_law_pen_here", "_law_many"]) fun _ _ _ _ _ _ us hl => match us, hl with | [_, _], _ => rfl
    f_pick := _
    d_pick := _
    g_pick := PySem.W.mg_of X G a12
    t_pick := F12
    b_pick := F12.binds (ps := ["_law_pen_here", "_law_some"]) fun _ _ _ _ _ _ us hl => match us, hl with | [_, _], _ => rfl
    f_day := _
    d_day := _
    g_day := PySem.W.mg_of X G a13
    t_day := F13
    b_day := F13.binds (ps := ["_law_pen_here", "_law_clients", "_law_most"]) fun _ _ _ _ _ _ us hl => match us, hl with | [_, _, _], _ => rfl
    f_same := _
    d_same := _
    g_same := PySem.W.mg_of X G a14
    t_same := F14
    b_same := F14.binds (ps := ["_law_found", "_law_due_here"]) fun _ _ _ _ _ _ us hl => match us, hl with | [_, _], _ => rfl
    f_due := _
    d_due := _
    g_due := PySem.W.mg_of X G a15
    t_due := F15
    b_due := F15.binds (ps := ["_law_clients", "_law_day_here", "_law_size"]) fun _ _ _ _ _ _ us hl => match us, hl with | [_, _, _], _ => rfl
    f_law := _
    d_law := _
    g_law := PySem.W.mg_of X G a16
    t_law := F16
    b_law := F16.binds (ps := ["_law_script"]) fun _ _ _ _ _ _ us hl => match us, hl with | [_], _ => rfl }
  exact ⟨_, ph_law, fun s v => .of_eq rfl, fun base _ _ => ok_law T, fun ns hl => law_true ns hl⟩
end K58
open PySem PySem.W PyProof.Rows in
set_option maxRecDepth 100000 in
set_option maxHeartbeats 0 in
theorem PySem.Challenge.cw_closenews_k58_crowded_days_holds : PySem.Challenge.rw_closenews_k58_crowded_days.Holds := by
  w_on; o_law; k_head; (case hw => w_witness2)
  k_fill
  refine PV.walk_end (l := PySem.Challenge.rw_closenews_k58_crowded_days) (n := 63) (k := 5) (x := "_law_script") (φ := fun _ _ => .stuck) rfl (by decide) rfl ⟨rfl, by decide, by decide⟩ (fun w h Y => PySem.W.kIn_of Y) ?F
  case F =>
    intro w mg fa h KX G hmg
    refine' K58.all_mk KX G hmg ?a0 ?l0 ?c0 ?k0 ?a1 ?l1 ?c1 ?k1 ?a2 ?l2 ?c2 ?k2 ?a3 ?l3 ?c3 ?k3 ?a4 ?l4 ?c4 ?k4 ?a5 ?l5 ?c5 ?k5 ?a6 ?l6 ?c6 ?k6 ?a7 ?l7 ?c7 ?k7 ?a8 ?l8 ?c8 ?k8 ?a9 ?l9 ?c9 ?k9 ?a10 ?l10 ?c10 ?k10 ?a11 ?l11 ?c11 ?k11 ?a12 ?l12 ?c12 ?k12 ?a13 ?l13 ?c13 ?k13 ?a14 ?l14 ?c14 ?k14 ?a15 ?l15 ?c15 ?k15 ?a16 ?l16 ?c16 ?k16 ?q_MOST_CLIENTS ?q_MOST_MOMENTS ?q_MOST_SENT ?q_MOST_COST ?z_all ?z_bool ?z_enumerate ?z_int ?z_isinstance ?z_len ?z_list ?z_max ?z_min ?z_range ?z_repr ?z_str ?z_tuple
    (case a0 => k_is)
    (case l0 => k_is)
    (case c0 => k_is)
    (case k0 => k_is)
    (case a1 => k_is)
    (case l1 => k_is)
    (case c1 => k_is)
    (case k1 => k_is)
    (case a2 => k_is)
    (case l2 => k_is)
    (case c2 => k_is)
    (case k2 => k_is)
    (case a3 => k_is)
    (case l3 => k_is)
    (case c3 => k_is)
    (case k3 => k_is)
    (case a4 => k_is)
    (case l4 => k_is)
    (case c4 => k_is)
    (case k4 => k_is)
    (case a5 => k_is)
    (case l5 => k_is)
    (case c5 => k_is)
    (case k5 => k_is)
    (case a6 => k_is)
    (case l6 => k_is)
    (case c6 => k_is)
    (case k6 => k_is)
    (case a7 => k_is)
    (case l7 => k_is)
    (case c7 => k_is)
    (case k7 => k_is)
    (case a8 => k_is)
    (case l8 => k_is)
    (case c8 => k_is)
    (case k8 => k_is)
    (case a9 => k_is)
    (case l9 => k_is)
    (case c9 => k_is)
    (case k9 => k_is)
    (case a10 => k_is)
    (case l10 => k_is)
    (case c10 => k_is)
    (case k10 => k_is)
    (case a11 => k_is)
    (case l11 => k_is)
    (case c11 => k_is)
    (case k11 => k_is)
    (case a12 => k_is)
    (case l12 => k_is)
    (case c12 => k_is)
    (case k12 => k_is)
    (case a13 => k_is)
    (case l13 => k_is)
    (case c13 => k_is)
    (case k13 => k_is)
    (case a14 => k_is)
    (case l14 => k_is)
    (case c14 => k_is)
    (case k14 => k_is)
    (case a15 => k_is)
    (case l15 => k_is)
    (case c15 => k_is)
    (case k15 => k_is)
    (case a16 => k_is)
    (case l16 => k_is)
    (case c16 => k_is)
    (case k16 => k_is)
    (case q_MOST_CLIENTS => k_is)
    (case q_MOST_MOMENTS => k_is)
    (case q_MOST_SENT => k_is)
    (case q_MOST_COST => k_is)
    (case z_all => k_is)
    (case z_bool => k_is)
    (case z_enumerate => k_is)
    (case z_int => k_is)
    (case z_isinstance => k_is)
    (case z_len => k_is)
    (case z_list => k_is)
    (case z_max => k_is)
    (case z_min => k_is)
    (case z_range => k_is)
    (case z_repr => k_is)
    (case z_str => k_is)
    (case z_tuple => k_is)

